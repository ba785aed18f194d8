/- A calculus of abstract states of Go memory, and that it is sound. -/
import Derived.Orders
import Derived.Deep.LoopGhost
import Derived.Laws.Cells
import Derived.Laws.Small
import Derived.Laws.AppendOwn
import Derived.Laws.CopyRow
import Derived.Laws.StructEq
import Derived.Laws.MakeOwn
set_option linter.all false
namespace Go.Abs
abbrev iT:=List Int
abbrev i5:=Nat->Prop
abbrev jb:=List (List Bool)
abbrev jc:=Nat->Nat->Prop
abbrev je:=List (List Int)
abbrev jg:=Program
abbrev jj:=World
abbrev js:=List Nat
abbrev jt:=List Value
abbrev jx:=Value
abbrev jz:=TypeId
abbrev j4:=Nat->Bool
abbrev j8:=Array Value
abbrev kj:=List Bool
abbrev kx:=Operand
abbrev md:=Int×Bool
abbrev mf:=List (Nat×Nat×Nat×Nat)
abbrev mi:=List Operand
abbrev mj:=List (Nat×Nat)
abbrev nu:=List (Nat×Bool)
abbrev nE:=Nat->List Nat
def ah{p:Prop}(h:p:=by omega):p:=h
def ak{p:Prop}(h:p:=by simp):p:=h
def am{p:Prop}(h:p:=by simp_all):p:=h
def an{p:Prop}(h:p:=by simp;omega):p:=h
def aA{p:Prop}(h:p:=by grind):p:=h
def bg{p:Prop}(h:p:=by assumption):p:=h
def bh{p:Prop}(h:p:=by simp only;omega):p:=h
def bk{p:Prop}(h:p:=by decide):p:=h
variable{I q:Prop}
def bn(h:I->q:=by intro h;cases h):I->q:=h
def cm(h:I->q:=by intro h;omega):I->q:=h
def AA0:=@List.map_append
def AA1:=@List.length_append
def AA2:=@List.mem_or_eq_of_mem_set
def AA3:=@List.cons_append
def AA4:=@List.mem_append_left
def AA5:=@Bool.not_eq_true'
def AA6:=@Nat.zero_add
def AA7:=@Array.getElem?_eq_some_iff
def AA8:=@List.all_cons
def AA9:=@List.getElem?_cons_zero
def AAK:=@Option.bind_some
def AAL:=@Bool.and_eq_true
def AAM:=@Option.some.injEq
def AAN:=@List.getElem?_eq_some_iff
def AAO:=@Option.some.inj
def AAP:=@if_neg
def AAQ:=@if_pos
def AAR:=@List.getElem?_set_self
def AAS:=@List.all_eq_true
def AAT:=@List.getElem?_eq_getElem
def AAU:=@Bool.false_eq_true
def AAV:=@of_decide_eq_true
def AAW:=@List.getElem_mem
def AAX:=@List.getElem?_map
def AAY:=@List.getElem?_set_ne
def AAZ:=@List.mem_of_getElem?
def AAa:=@Prod.mk.injEq
def AAb:=@beq_iff_eq
def AAc:=@List.mem_append
def AAd:=@if_false
def AAe:=@decide_eq_true_eq
def AAf:=@List.map_cons
def AAg:=@List.mem_singleton
def AAh:=@Array.getD_eq_getD_getElem?
def AAi:=@Int.toNat_natCast
def AAj:=@Bool.true_and
def AAk:=@List.mem_cons
def AAl:=@Nat.le_refl
def AAm:=@List.getElem?_of_mem
def AAn:=@List.take_append_getElem
def AAo:=@Bool.or_eq_true
def AAp:=@List.contains_iff_mem
def AAq:=@if_true
def AAr:=@List.drop_zero
def AAs:=@List.getElem?_append_left
def AAt:=@List.length_map
def AAu:=@List.getElem?_append_right
def AAv:=@Option.map_some
def AAw:=@List.take_of_length_le
def AAx:=@Option.map_eq_some_iff
def AAy:=@List.map_nil
def AAz:=@List.take_succ_eq_append_getElem
def ABA:=@Array.getElem?_setIfInBounds
def ABB:=@or_false
def ABC:=@Nat.mul_le_mul_right
def ABD:=@List.map_set
def ABE:=@List.mem_cons_self
def ABF:=@Nat.le_trans
def ABG:=@Nat.lt_of_lt_of_le
def ABH:=@List.drop_eq_getElem_cons
def ABI:=@Option.isNone_iff_eq_none
def ABJ:=@List.length_cons
def ABK:=@beq_self_eq_true
def ABL:=@List.append_assoc
def ABM:=@List.getElem?_cons_succ
def ABN:=@List.getElem?_take
def ABO:=@of_decide_eq_false
def ABP:=@List.mem_cons_of_mem
def ABQ:=@Iff.rfl
def ABR:=@List.getElem_of_mem
def ABS:=@List.mem_map_of_mem
def ABT:=@Array.getElem?_eq_getElem
def ABU:=@List.append_nil
def ABV:=@List.eq_nil_iff_forall_not_mem
def ABW:=@List.mem_map
def ABX:=@List.set_append_right
def ABY:=@List.take_append_drop
def ABZ:=@Nat.mul_comm
def ABa:=@Option.getD_some
def ABb:=@List.all_map
def ABc:=@List.mem_range
def ABd:=@Array.ext'
def ABe:=@List.nil_append
def ABf:=@beq_eq_false_iff_ne
def ABg:=@List.length_take
def ABh:=@List.length_replicate
def ABi:=@List.mem_append_right
def ABj:=@List.mem_of_find?_eq_some
def ABk:=@List.replicate_succ'
def ABl:=@List.cons.injEq
abbrev ABm(a:Type _):=Option a
abbrev i4:=(List (List Bool))->Int->ABm (List (List Bool))
abbrev i6:=Int->ABm Bool
abbrev jd:=(List Int)->Int->ABm (List Int)
abbrev jk:=ABm (Nat×Bool)
abbrev jy:=(List (List Int))->Int->ABm (List (List Int))
abbrev ka:=Int->Int->ABm Bool
abbrev ke:=Int->Int->Int->Int->Int->ABm (Int×Int)
abbrev ky:=Int->ABm (Int×Int)
abbrev lg:=Int->Bool->Int->ABm Bool
abbrev lA:=(List Int)->Int->Int->ABm (List Int)
abbrev ma:=Int->ABm Int
abbrev mr:=Int->Int->ABm Int
abbrev mX:=Int->Int->Int->ABm (List (List Bool))
abbrev m8:=(List Int)->Int->ABm Bool
abbrev na:=Nat->ABm (Nat×Nat)
abbrev nh:=Int->Int->Int->ABm Bool
abbrev nk:=ABm Nat
abbrev np:=ABm (Int×Int)
abbrev ABn:=ByteArray
abbrev jn:=(List ABn)->Int->ABm ((List ABn)×Bool)
abbrev jq:=List ABn
abbrev ln:=List ABn->Int->ABm (List ABn×Bool)
abbrev lr:=ABn->Prop
abbrev ly:=List (ABn×Value)
abbrev mz:=(List ABn)×Bool
abbrev Step:=Nat×Nat×Nat
abbrev jf:=List Step
abbrev kp:=ABm (Nat×List Step)
abbrev ku:=List (Nat×List Step)
inductive AV where
 |sc (v:Value)
 |sl (x:Bool) (k:Nat) (rows:List (List AV))
 |own (b:Bool) (k:Nat) (rows:List (List AV))
 |agg (cs:List AV)
 |Bp (cs:List AV)
 |al (r:Nat) (p:List Step)
 |ME (r:Nat) (p:List Step) (i j k:Nat)
 |fp (cs:List AV)
 |dead
 |un
 |cl (f:Nat) (rs:List (Nat×List Step))
 |vb (s off:Nat) (us:List Value)
 |YP (f:Nat) (Md:List (List AV))
 |cb (f:Nat) (vs:List Value) (b:Nat) (ss:List (Nat×Bool))
 deriving Inhabited
abbrev jh:=List (List AV)
abbrev ji:=List AV
abbrev my:=List (List AV->Prop)
abbrev Sg:=Nat->AV
abbrev ja:=Sg->Prop
abbrev lC:=Nat->Sg->Prop
abbrev mq:=ABm (List AV×Sg)
variable{α:Type}
def C8(h:Nat->α)(d:Nat)(v:α):Nat->α:=λs=>if s=d then v else h s
theorem Bb{a:Type}(h:Nat->a)(d:Nat)(v:a):C8 h d v d=v:=by simp[C8]
variable{k:Nat}
theorem B1{a:Type}(u:Nat->a){d:Nat}(v:a)(h:k≠d):C8 u d v k=u k:=by simp[C8,h]
def sub:AV->List Step->ABm AV|a,[]=>some a|.own _ _ rows,(i,j,_)::p=>(match rows[i]? with|some row=>(match row[j]? with|some c=>sub c p|none=>none)|none=>none)|.agg cs,(_,j,_)::p=>(match cs[j]? with|some c=>sub c p|none=>none)|.Bp cs,(_,j,_)::p=>(match cs[j]? with|some c=>sub c p|none=>none)|_,_::_=>none
def put:AV->List Step->AV->ABm AV|_,[],x=>some x|.own b k rows,(i,j,_)::p,x=>(match rows[i]? with|some row=>(match row[j]? with|some c=>(match put c p x with|some c'=>some (.own b k (rows.set i (row.set j c')))|none=>none)|none=>none)|none=>none)|.agg cs,(_,j,_)::p,x=>(match cs[j]? with|some c=>(match put c p x with|some c'=>some (.agg (cs.set j c'))|none=>none)|none=>none)|.Bp cs,(_,j,_)::p,x=>(match cs[j]? with|some c=>(match put c p x with|some c'=>some (.Bp (cs.set j c'))|none=>none)|none=>none)|_,_::_,_=>none
inductive DV where
 |lf (a:AV) (v:Value)
 |own (h:Value) (b:Bool) (k:Nat) (rows:List (List DV))
 |agg (cs:List DV)
 |Bp (cs:List DV)
 deriving Inhabited
abbrev jm:=List (List DV)
abbrev ju:=Nat->DV
abbrev jw:=List DV
mutual
def DV.er:DV->AV|.lf a _=>a|.own _ b k rows=>.own b k (erR rows)|.agg cs=>.agg (erL cs)|.Bp cs=>.Bp (erL cs)
def erL:List DV->List AV|[]=>[]|d::r=>d.er::erL r
def erR:List (List DV)->List (List AV)|[]=>[]|d::r=>erL d::erR r
end
theorem sS(l:jw):erL l=l.map DV.er:=by induction l with|nil=>rfl|cons d r ih=>simp[erL,ih]
theorem erR_eq(l:jm):erR l=l.map (·.map DV.er):=by induction l with|nil=>rfl|cons d r ih=>simp[erR,ih,sS]
mutual
def DV.BD:DV->Value|.lf _ v=>v|.own h _ _ _=>h|.agg cs=>.agg (annL cs).toArray|.Bp cs=>.tuple (annL cs).toArray
def annL:List DV->List Value|[]=>[]|d::r=>d.BD::annL r
end
theorem wF(l:jw):annL l=l.map DV.BD:=by induction l with|nil=>rfl|cons d r ih=>simp[annL,ih]
@[simp]theorem Eu(a:AV)(v:jx):(DV.lf a v).er=a:=by simp[DV.er]
@[simp]theorem FO(h:jx)(b:Bool)(k:Nat)(rows:jm):(DV.own h b k rows).er=.own b k (rows.map (·.map DV.er)):=by simp[DV.er,erR_eq]
@[simp]theorem Is(a:jw):(DV.agg a).er=.agg (a.map DV.er):=by simp[DV.er,sS]
@[simp]theorem K7(a:jw):(DV.Bp a).er=.Bp (a.map DV.er):=by simp[DV.er,sS]
@[simp]theorem Mk(a:AV)(v:jx):(DV.lf a v).BD=v:=by simp[DV.BD]
@[simp]theorem KZ(h:jx)(b:Bool)(k:Nat)(rows:jm):(DV.own h b k rows).BD=h:=by simp[DV.BD]
@[simp]theorem MM(a:jw):(DV.agg a).BD=.agg (a.map DV.BD).toArray:=by simp[DV.BD,wF]
@[simp]theorem O6(a:jw):(DV.Bp a).BD=.tuple (a.map DV.BD).toArray:=by simp[DV.BD,wF]
def BJ:DV->List Step->Option DV|a,[]=>some a|.own _ _ _ rows,(i,j,_)::p=>(match rows[i]? with|some row=>(match row[j]? with|some c=>BJ c p|none=>none)|none=>none)|.agg cs,(_,j,_)::p=>(match cs[j]? with|some c=>BJ c p|none=>none)|.Bp cs,(_,j,_)::p=>(match cs[j]? with|some c=>BJ c p|none=>none)|_,_::_=>none
def Ey:DV->List Step->DV->Option DV|_,[],x=>some x|.own h b k rows,(i,j,_)::p,x=>(match rows[i]? with|some row=>(match row[j]? with|some c=>(match Ey c p x with|some c'=>some (.own h b k (rows.set i (row.set j c')))|none=>none)|none=>none)|none=>none)|.agg cs,(_,j,_)::p,x=>(match cs[j]? with|some c=>(match Ey c p x with|some c'=>some (.agg (cs.set j c'))|none=>none)|none=>none)|.Bp cs,(_,j,_)::p,x=>(match cs[j]? with|some c=>(match Ey c p x with|some c'=>some (.Bp (cs.set j c'))|none=>none)|none=>none)|_,_::_,_=>none
def Dt:AV->Bool|.own .. |.agg _|.Bp _=>false|_=>true
inductive eL:DV->Prop
 |lf (a v) (h:Dt a=true):eL (.lf a v)
 |own (h b k rows) (hr:∀(i j:Nat) row d,rows[i]? =some row->row[j]? =some d->eL d):eL (.own h b k rows)
 |agg (cs) (hr:∀(i:Nat) d,cs[i]? =some d->eL d):eL (.agg cs)
 |Bp (cs) (hr:∀(i:Nat) d,cs[i]? =some d->eL d):eL (.Bp cs)
variable{p:jf}
theorem eL.BJ{d x:DV}(h:eL d)(e:BJ d p=some x):eL x:=by induction p generalizing d with|nil=>simp only[Abs.BJ,Option.some.injEq]at e;exact e▸h|cons s p ih=>obtain⟨i,j,k⟩:=s;cases h with|lf a v h=>simp[Abs.BJ]at e|own hh b k' rows hr=>simp only[Abs.BJ]at e;split at e;split at e;rename_i row g _ c f;exact ih (hr i j row c g f) e;cases e;cases e|agg cs hr|Bp cs hr=>simp only[Abs.BJ]at e;split at e;rename_i c f;exact ih (hr j c f) e;cases e
theorem D8{d:DV}{a:AV}(h:eL d)(e:sub d.er p=some a):∃x,BJ d p=some x/\x.er=a:=by induction p generalizing d with|nil=>simp only[sub,Option.some.injEq]at e;exact⟨d,rfl,e⟩|cons s p ih=>obtain⟨i,j,k⟩:=s;cases h with|lf b v h=>cases b<;>simp_all [sub,Dt]|own hh b k' rows hr=>(simp only[FO,sub,List.getElem?_map]at e;cases hi:rows[i]? with|none=>simp[hi]at e|some row=>simp only[hi,Option.map_some,List.getElem?_map]at e;cases hj:row[j]? with|none=>simp[hj]at e|some c=>simp only[hj,Option.map_some]at e;obtain⟨x,g,f⟩:=ih (hr i j row c hi hj) e;exact⟨x,by simp[BJ,hi,hj,g],f⟩)|agg cs hr|Bp cs hr=>simp only[Is,K7,sub,List.getElem?_map]at e;cases hj:cs[j]? with|none=>simp[hj]at e|some c=>simp only[hj,Option.map_some]at e;obtain⟨x,g,f⟩:=ih (hr j c hj) e;exact⟨x,by simp[BJ,hj,g],f⟩
theorem HC{d:DV}{a:AV}(x:DV)(h:eL d)(e:put d.er p x.er=some a):∃t,Ey d p x=some t/\t.er=a:=by induction p generalizing d a with|nil=>simp only[put,Option.some.injEq]at e;exact⟨x,rfl,e⟩|cons s p ih=>obtain⟨i,j,k⟩:=s;cases h with|lf b v h=>cases b<;>simp_all [put,Dt]|own hh b k' rows hr=>(simp only[FO,put,List.getElem?_map]at e;cases hi:rows[i]? with|none=>simp[hi]at e|some row=>simp only[hi,Option.map_some,List.getElem?_map]at e;cases hj:row[j]? with|none=>simp[hj]at e|some c=>simp only[hj,Option.map_some]at e;cases hp:put c.er p x.er with|none=>simp[hp]at e|some c'=>simp only[hp,Option.some.injEq]at e;obtain⟨t,g,f⟩:=ih (hr i j row c hi hj) hp;refine⟨.own hh b k' (rows.set i (row.set j t)),by simp[Ey,hi,hj,g],?_⟩;rw[<- e,<- f];simp[List.map_set])|agg cs hr=>(simp only[Is,put,List.getElem?_map]at e;cases hj:cs[j]? with|none=>simp[hj]at e|some c=>simp only[hj,Option.map_some]at e;cases hp:put c.er p x.er with|none=>simp[hp]at e|some c'=>simp only[hp,Option.some.injEq]at e;obtain⟨t,g,f⟩:=ih (hr j c hj) hp;refine⟨.agg (cs.set j t),by simp[Ey,hj,g],?_⟩;rw[<- e,<- f];simp[List.map_set])|Bp cs hr=>simp only[K7,put,List.getElem?_map]at e;cases hj:cs[j]? with|none=>simp[hj]at e|some c=>simp only[hj,Option.map_some]at e;cases hp:put c.er p x.er with|none=>simp[hp]at e|some c'=>simp only[hp,Option.some.injEq]at e;obtain⟨t,g,f⟩:=ih (hr j c hj) hp;refine⟨.Bp (cs.set j t),by simp[Ey,hj,g],?_⟩;rw[<- e,<- f];simp[List.map_set]
variable{v:jx}
section
def Gp:Value->Bool|.agg _|.tuple _=>false|_=>true
def KT(bx:Bool)(b n c:Nat):Value:=if bx then .pointer (some ⟨b,0,none⟩)else .slice (some ⟨b,0,none⟩) n c
inductive Fz (w:World) (S:Nat->Prop):AV->Value->Prop
 |sc (v:Value) (hp:Gp v=true):Fz w S (.sc v) v
 |dead (v:Value):Fz w S .dead v
 |nil (x:Bool) (k:Nat) (a:ABm Addr) (c:Nat) (hx:x=true->c=0):Fz w S (.sl x k []) (.slice a 0 c)
 |sl (x:Bool) (k:Nat) (rows:List (List AV)) (b off c:Nat) (vs:Nat->Nat->Value) (hx:x=true->c=rows.length) (Qj:rows.length<=c) (hS:S b)
  (hk:∀row∈rows,row.length=k)
  (hc:∀i j row a,rows[i]? =some row->row[j]? =some a->w.cell? ⟨b,off+(i*k+j),none⟩=some (vs i j))
  (hr:∀i j row a,rows[i]? =some row->row[j]? =some a->Fz w S a (vs i j)):Fz w S (.sl x k rows) (.slice (some ⟨b,off,none⟩) rows.length c)
 |agg (cs:List AV) (vs:List Value) (hs:vs.length=cs.length) (h:∀(i:Nat) a v,cs[i]? =some a->vs[i]? =some v->Fz w S a v):Fz w S (.agg cs) (.agg vs.toArray)
 |Bp (cs:List AV) (vs:List Value) (hs:vs.length=cs.length) (h:∀(i:Nat) a v,cs[i]? =some a->vs[i]? =some v->Fz w S a v):Fz w S (.Bp cs) (.tuple vs.toArray)
theorem Fz.mono{w w':jj}{S S':i5}{a:AV}(h:Fz w S a v)(g:∀b,S b->w'.heap[b]? =w.heap[b]?)(f:∀b,S b->S' b):Fz w' S' a v:=by induction h with|sc v hp=>exact .sc v hp|dead v=>exact .dead v|nil x k a c hx=>exact .nil x k a c hx|sl x k rows b off c vs hx Qj hb hk hc hr ih=>refine .sl x k rows b off c vs hx Qj (f b hb) hk (λi j row a d e=>?_) (λi j row a d e=>ih i j row a d e);rw[<- hc i j row a d e];simp only[World.cell?,g b hb]|agg cs vs hs h ih=>exact .agg cs vs hs ih|Bp cs vs hs h ih=>exact .Bp cs vs hs ih
def q7(w:jj)(S:i5)(cs:ji)(v:jx):Prop:=∃b off,v=.pointer (some ⟨b,off,none⟩)/\S b/\∀(j:Nat) a,cs[j]? =some a->∃u,w.cell? ⟨b,off+j,none⟩=some u/\Fz w S a u
theorem q7.mono{w w':jj}{S S':i5}{c:ji}(h:q7 w S c v)(f:∀b,S b->w'.heap[b]? =w.heap[b]?)(d:∀b,S b->S' b):q7 w' S' c v:=by obtain⟨b,off,rfl,e,g⟩:=h;refine⟨b,off,rfl,d b e,λj a k=>?_⟩;obtain⟨u,l,i⟩:=g j a k;refine⟨u,?_,i.mono f d⟩;rw[<- l];simp only[World.cell?,f b e]
def IG(w:jj)(S:i5):AV->Value->Prop|.sc u,v=>v=u/\Gp u=true|.sl x k rows,v=>Fz w S (.sl x k rows) v|.fp cs,v=>∃b off,v=.pointer (some ⟨b,off,none⟩)/\S b/\∀(j:Nat) a,cs[j]? =some a->∃u,w.cell? ⟨b,off+j,none⟩=some u/\Fz w S a u|.un,v=>v=undef|.al ..,_=>True|.ME ..,_=>True|.dead,_=>True|.cl ..,_=>True|.YP f Md,v=>∃vs:List Value,v=.func (.func f) #[] vs.toArray/\vs.length=Md.length/\∀(i:Nat) cs u,Md[i]? =some cs->vs[i]? =some u->q7 w S cs u|.vb _ off us,v=>∃b,v=.pointer (some ⟨b,off,none⟩)/\S b/\∀(j:Nat) u,us[j]? =some u->w.cell? ⟨b,j,none⟩=some u|.cb f vs b _,v=>v=.pointer (some ⟨b,0,none⟩)/\S b/\w.cell? ⟨b,0,none⟩=some (.func (.func f) #[] (vs++[v]).toArray)|_,_=>False
theorem IG.Dt{w:jj}{S:i5}{a:AV}(h:IG w S a v):Dt a:=by cases a<;>simp_all [IG,Abs.Dt]
theorem IG.mono{w w':jj}{S S':i5}{a:AV}(h:IG w S a v)(e:∀b,S b->w'.heap[b]? =w.heap[b]?)(d:∀b,S b->S' b):IG w' S' a v:=by cases a with|sl x k rows=>exact Fz.mono h e d|fp o=>obtain⟨b,off,rfl,c,g⟩:=h;refine⟨b,off,rfl,d b c,λj a m=>?_⟩;obtain⟨u,n,r⟩:=g j a m;refine⟨u,?_,r.mono e d⟩;rw[<- n];simp only[World.cell?,e b c]|sc u|own=>exact h|agg|Bp=>exact h|al|ME=>exact h|dead|un=>exact h|cl=>exact h|YP f Md=>obtain⟨vs,l,p,q⟩:=h;exact⟨vs,l,p,λi o u hi n=>(q i o u hi n).mono e d⟩|vb s off us=>obtain⟨b,rfl,c,g⟩:=h;refine⟨b,rfl,d b c,λj u m=>?_⟩;rw[<- g j u m];simp only[World.cell?,e b c]|cb f vs b ss=>obtain⟨l,c,g⟩:=h;refine⟨l,d b c,?_⟩;rw[<- g];simp only[World.cell?,e b c]
inductive Ok (w:World) (S:Nat->Prop):DV->(Nat->Prop)->Prop
 |lf (a:AV) (v:Value) (F:Nat->Prop) (ha:IG w S a v) (hF:∀x,¬F x):Ok w S (.lf a v) F
 |nil (k:Nat) (F:Nat->Prop) (hF:∀x,¬F x):Ok w S (.own (.slice none 0 0) false k []) F
 |own (bx:Bool) (k:Nat) (rows:List (List DV)) (b c:Nat) (arr:Array Value) (E:TypeId) (Fs:Nat->Nat->Nat->Prop) (F:Nat->Prop)
  (hb:w.heap[b]? =some (.cells arr E (0,0))) (hk:∀row∈rows,row.length=k)
  (Ei:if bx then rows.length=1/\arr.size=k else c*k=arr.size/\rows.length<=c) (hS:¬S b)
  (hv:∀(i j:Nat) row d,rows[i]? =some row->row[j]? =some d->arr[i*k+j]? =some d.BD)
  (hr:∀(i j:Nat) row d,rows[i]? =some row->row[j]? =some d->Ok w S d (Fs i j))
  (hd:∀i j i' j' x,Fs i j x->Fs i' j' x->i=i'/\j=j')
  (CB:∀i j x,Fs i j x->∃row d,rows[i]? =some row/\row[j]? =some d) (LZ:∀i j,¬Fs i j b)
  (hF:∀x,F x↔x=b\/∃i j,Fs i j x):Ok w S (.own (KT bx b rows.length c) bx k rows) F
 |agg (cs:List DV) (Fs:Nat->Nat->Prop) (F:Nat->Prop) (hr:∀(i:Nat) d,cs[i]? =some d->Ok w S d (Fs i))
  (hd:∀i i' x,Fs i x->Fs i' x->i=i') (CB:∀i x,Fs i x->∃d,cs[i]? =some d) (hF:∀x,F x↔∃i,Fs i x):Ok w S (.agg cs) F
 |Bp (cs:List DV) (Fs:Nat->Nat->Prop) (F:Nat->Prop) (hr:∀(i:Nat) d,cs[i]? =some d->Ok w S d (Fs i))
  (hd:∀i i' x,Fs i x->Fs i' x->i=i') (CB:∀i x,Fs i x->∃d,cs[i]? =some d) (hF:∀x,F x↔∃i,Fs i x):Ok w S (.Bp cs) F
variable{w w':jj}{S S':i5}{d:DV}{F F':i5}
theorem Ok.LA(h:Ok w S d F):eL d:=by induction h with|lf a v F ha hF=>exact .lf a v ha.Dt|nil k F hF=>exact .own _ _ _ _ ak|own bx k rows b c arr E Fs F hb hk Ei hS hv hr hd CB LZ hF ih=>exact .own _ _ _ _ ih|agg cs Fs F hr hd CB hF ih=>exact .agg cs ih|Bp cs Fs F hr hd CB hF ih=>exact .Bp cs ih
theorem Ok.E8(h:Ok w S d F):∀x,F x->¬S x:=by induction h with|lf a v F ha hF|nil k F hF=>simp_all|own bx k rows b c arr E Fs F hb hk Ei hS hv hr hd CB LZ hF ih|agg cs Fs F hr hd CB hF ih=>grind|Bp cs Fs F hr hd CB hF ih=>grind
theorem Ok.lt(h:Ok w S d F):∀x,F x->x<w.heap.size:=by induction h with|lf a v F ha hF|nil k F hF=>simp_all|own bx k rows b c arr E Fs F hb hk Ei hS hv hr hd CB LZ hF ih=>grind|agg cs Fs F hr hd CB hF ih|Bp cs Fs F hr hd CB hF ih=>grind
theorem Ok.congr(h:Ok w S d F)(a:∀x,F' x↔F x):Ok w S d F':=by have:F'=F:=funext λx=>propext (a x);simp_all
theorem Ok.mono(h:Ok w S d F)(n:∀b,S b->w'.heap[b]? =w.heap[b]?)(g:∀b,F b->w'.heap[b]? =w.heap[b]?)(m:∀b,S b->S' b)(hn:∀x,F x->¬S' x):Ok w' S' d F:=by induction h with|lf a v F ha hF=>exact .lf a v F (ha.mono n m) hF|nil k F hF=>exact .nil k F hF|own bx k rows b c arr E Fs F hb hk Ei MS hv hr hd CB LZ hF ih=>refine .own bx k rows b c arr E Fs F ?_ hk Ei (hn b ((hF b).2 (.inl rfl))) hv (λi j row d f l=>ih i j row d f l ?_ ?_) hd CB LZ hF;all_goals grind|agg cs Fs F hr hd CB hF ih=>exact .agg cs Fs F (λi d f=>ih i d f (λx e=>g x ((hF x).2 ⟨i,e⟩)) (λx e=>hn x ((hF x).2 ⟨i,e⟩))) hd CB hF|Bp cs Fs F hr hd CB hF ih=>exact .Bp cs Fs F (λi d f=>ih i d f (λx e=>g x ((hF x).2 ⟨i,e⟩)) (λx e=>hn x ((hF x).2 ⟨i,e⟩))) hd CB hF
theorem Ok.BJ{x:DV}(h:Ok w S d F)(e:BJ d p=some x):∃F',Ok w S x F'/\∀y,F' y->F y:=by induction p generalizing d F with|nil=>simp only[Abs.BJ,AAM]at e;grind|cons s p ih=>obtain⟨i,j,k⟩:=s;cases h with|lf a v _ ha hF|nil k _ hF=>simp[Abs.BJ]at e|own bx k rows b c arr E Fs _ hb hk Ei MS hv hr hd CB LZ hF|agg cs Fs _ hr hd CB hF=>simp only[Abs.BJ]at e;grind|Bp cs Fs _ hr hd CB hF=>simp only[Abs.BJ]at e;grind
mutual
def KB:AV->AV|.own false k rows=>.sl false k (Lw rows)|.own true _ _=>.dead|.agg cs=>.agg (cO cs)|.Bp cs=>.Bp (cO cs)|.sc v=>.sc v|.sl x k rows=>.sl x k rows|_=>.dead
def cO:List AV->List AV|[]=>[]|a::r=>KB a::cO r
def Lw:List (List AV)->List (List AV)|[]=>[]|a::r=>cO a::Lw r
end
theorem YQ(l:ji):cO l=l.map KB:=by induction l with|nil=>rfl|cons d r ih=>simp[cO,ih]
theorem Ud(l:jh):Lw l=l.map (·.map KB):=by induction l with|nil=>rfl|cons d r ih=>simp[Lw,ih,YQ]
@[simp]theorem PG(k:Nat)(rows:jh):KB (.own false k rows)=.sl false k (rows.map (·.map KB)):=by simp[KB,Ud]
@[simp]theorem w9(k:Nat)(rows:jh):KB (.own true k rows)=.dead:=by simp[KB]
@[simp]theorem wZ(a:ji):KB (.agg a)=.agg (a.map KB):=by simp[KB,YQ]
@[simp]theorem xA(a:ji):KB (.Bp a)=.Bp (a.map KB):=by simp[KB,YQ]
@[simp]theorem frz_sc(v:jx):KB (.sc v)=.sc v:=by simp[KB]
@[simp]theorem frz_sl(x:Bool)(k:Nat)(rows:jh):KB (.sl x k rows)=.sl x k rows:=by simp[KB]
theorem frz_leaf{a:AV}(h:IG w S a v):Fz w S (KB a) v:=by cases a with|sc u=>obtain⟨rfl,b⟩:=h;simpa using Fz.sc v b|sl x k rows=>rw[frz_sl];exact h|_=>first|exact h.elim| (simp only[KB];exact .dead v)
theorem Ok.freeze(h:Ok w S d F):Fz w (λx=>S x\/F x) (KB d.er) d.BD:=by
 induction h with
 |lf a v F ha hF=>simp only[Eu,Mk];exact(frz_leaf ha).mono (λ_ _=>rfl) (λ_ h=>.inl h)
 |nil k F hF=>simpa using Fz.nil false k none 0 ak
 |own bx k rows b c arr E Fs F hb hk Ei MS hv hr hd CB LZ hF ih=>cases bx with|true=>simp only[FO,w9];exact .dead _|false=>simp only[FO,PG,KZ,KT,List.map_map];have g:((rows.map ((λx=>x.map KB) ∘ λx=>x.map DV.er))).length=rows.length:=ak;rw[show(Value.slice (some ⟨b,0,none⟩) rows.length c)=Value.slice (some ⟨b,0,none⟩) (rows.map ((λx=>x.map KB) ∘ λx=>x.map DV.er)).length c from by rw[g]];refine Fz.sl false k _ b 0 c (λi j=>(arr[i*k+j]?).getD undef) ak am (.inr ((hF b).2 (.inl rfl))) ?_ ?_ ?_;simp_all;intro i j row a e f;simp only[List.getElem?_map,Option.map_eq_some_iff]at e;obtain⟨o,m,rfl⟩:=e;simp only[Function.comp,List.map_map,List.getElem?_map,Option.map_eq_some_iff]at f;obtain⟨l,n,rfl⟩:=f;simp[World.cell?,hb,hv i j o l m n];intro i j row a e f;simp only[List.getElem?_map,Option.map_eq_some_iff]at e;obtain⟨o,m,rfl⟩:=e;simp only[Function.comp,List.map_map,List.getElem?_map,Option.map_eq_some_iff]at f;obtain⟨l,n,rfl⟩:=f;simp only[hv i j o l m n,Option.getD_some];refine(ih i j o l m n).mono (λ_ _=>rfl) ?_;grind
 |agg cs Fs F hr hd CB hF ih|Bp cs Fs F hr hd CB hF ih=>
  simp only[Is,K7,wZ,xA,MM,O6];first|refine Fz.agg _ _ ak ?_|refine Fz.Bp _ _ ak ?_
  intro i a v e f;simp only[List.map_map,List.getElem?_map,Option.map_eq_some_iff]at e f;obtain⟨p,e,rfl⟩:=e;obtain⟨q,f,rfl⟩:=f;obtain rfl:p=q:=am;refine(ih i p e).mono (λ_ _=>rfl) ?_;grind
end
variable{i n off b:Nat}{f:Type}{new R:DV}{bx:Bool}{rows:jm}{row:jw}{zv:jx}
section
variable{w w':jj}{S S':i5}{d:DV}{F F':i5}
def Uj:Value->ABm Nat|.slice (some a) _ _=>some a.block|.pointer (some a)=>some a.block|_=>none
@[simp]theorem ZF(bx:Bool)(b n c:Nat):Uj (KT bx b n c)=some b:=by cases bx<;>rfl
theorem xM(d:n<k)(e:b<k)(h:i*k+n=off*k+b):i=off/\n=b:=by
 have c:0<k:=ah;have f:(i*k+n)/k=i:=by rw[ABZ,Nat.mul_add_div c,Nat.div_eq_of_lt d];rfl
 have g:(off*k+b)/k=off:=by rw[ABZ,Nat.mul_add_div c,Nat.div_eq_of_lt e];rfl
 simp_all
theorem S6(w:jj)(b o:Nat)(v:jx)(arr:j8)(E:jz)(fz:Nat×Nat)(a:w.heap[b]? =some (.cells arr E fz)):(w.setCell ⟨b,o,none⟩ v).heap[b]? =some (.cells (arr.setIfInBounds o v) E fz):=by simp[World.setCell,Array.getElem?_modify,a]
theorem D6(w:jj)(b o x:Nat)(v:jx)(h:x≠b):(w.setCell ⟨b,o,none⟩ v).heap[x]? =w.heap[x]? :=by simp only[World.setCell,Array.getElem?_modify];grind
theorem T1{rows:List (List f)}{row:List f}{x:f}(d:∀row∈rows,row.length=k)(b:rows[i]? =some row)(c:row[n]? =some x):n<k:=aA
theorem Ok.store{Fn:i5}(p:jf)(h:Ok w S d F)(y:Abs.BJ d p=some (.own zv bx k rows))(H:rows[i]? =some row)(T:row[n]? =some R)(hb:Uj zv=some b)(hn:Ok (w.setCell ⟨b,i*k+n,none⟩ new.BD) S new Fn)(G:∀x,Fn x->¬F x):∃t F',Ey d (p++[(i,n,k)]) new=some t/\Ok (w.setCell ⟨b,i*k+n,none⟩ new.BD) S t F'/\(∀x,F' x->F x\/Fn x)/\t.BD=d.BD/\F b:=by induction p generalizing d F with|nil=>(simp only[Abs.BJ,AAM]at y;subst y;generalize hvv:zv=xK at h;cases h with|nil k _ hF=>simp at H|own _ _ _ b' c arr E Fs _ hbb hk Ei MS zv hr hd CB LZ hF=>subst hvv;simp only[ZF,AAM]at hb;subst hb;have X:=T1 hk H T;have z:=(AAN.1 H).1;have B:=(AAN.1 T).1;have Lt:i*k+n<arr.size:=(by have:=zv i n row R H T;exact(AA7.1 this).1);refine⟨.own (KT bx b' rows.length c) bx k (rows.set i (row.set n new)),λx=>x=b'\/∃g o,(if g=i/\o=n then Fn else Fs g o) x,?_,?_,?_,ak,(hF b').2 (.inl rfl)⟩;simp[Ey,H,T];rw[show(KT bx b' rows.length c)=KT bx b' (rows.set i (row.set n new)).length c from by simp];refine Ok.own bx k _ b' c (arr.setIfInBounds (i*k+n) new.BD) E (λg o=>if g=i/\o=n then Fn else Fs g o) _ (S6 _ _ _ _ _ _ _ hbb) ?_ ?_ MS ?_ ?_ ?_ ?_ ?_ (λx=>ABQ);(intro r lH;rcases AA2 lH with h|rfl);exact hk r h;simp[hk row (AAZ H)];simpa using Ei;intro g o r e m l;by_cases hi:g=i;subst hi;rw[AAR z]at m;obtain rfl:=AAO m;by_cases M:o=n;subst M;rw[AAR B]at l;obtain rfl:=AAO l;simp[Lt];rw[AAY ah]at l;rw[Array.getElem?_setIfInBounds_ne (by have:=T1 hk H l;omega)];exact zv g o row e H l;rw[AAY ah]at m;rw[Array.getElem?_setIfInBounds_ne];exact zv g o r e m l;intro he;exact hi (xM (T1 hk m l) X he.symm).1;intro g o r e m l;by_cases u:g=i/\o=n;obtain⟨rfl,rfl⟩:=u;rw[AAR z]at m;obtain rfl:=AAO m;rw[AAR B]at l;obtain rfl:=AAO l;simpa using hn;(simp only[u,AAd];have hold:Ok w S e (Fs g o):=by by_cases hi:g=i;subst hi;have M:o≠n:=λe=>u ⟨rfl,e⟩;rw[AAR z]at m;obtain rfl:=AAO m;rw[AAY ah]at l;exact hr g o row e H l;rw[AAY ah]at m;exact hr g o r e m l);refine hold.mono (λx f=>D6 _ _ _ _ _ ?_) (λx f=>D6 _ _ _ _ _ ?_) (λ_ h=>h) hold.E8;rintro rfl;exact MS f;rintro rfl;exact LZ _ _ f;intro i1 j1 Q j2 x f q;split at f<;>split at q;rename_i a b;omega;exact absurd ((hF x).2 (.inr ⟨Q,j2,q⟩)) (G x f);exact absurd ((hF x).2 (.inr ⟨i1,j1,f⟩)) (G x q);exact hd _ _ _ _ x f q;intro i1 j1 x f;split at f;rename_i u;obtain⟨rfl,rfl⟩:=u;exact⟨_,new,AAR z,AAR B⟩;obtain⟨r,e,m,l⟩:=CB i1 j1 x f;by_cases hi:i1=i;subst hi;rename_i P;have M:j1≠n:=λe=>P ⟨rfl,e⟩;obtain rfl:row=r:=(by rw[H]at m;exact AAO m);exact⟨_,e,AAR z,by rw[AAY ah];exact l⟩;exact⟨r,e,by rw[AAY ah];exact m,l⟩;intro i1 j1 f;split at f;exact G b' f ((hF b').2 (.inl rfl));exact LZ _ _ f;rintro x (rfl|⟨i1,j1,f⟩);exact .inl ((hF x).2 (.inl rfl));split at f;exact .inr f;exact .inl ((hF x).2 (.inr ⟨i1,j1,f⟩)))|cons s p ih=>obtain⟨i0,j0,k0⟩:=s;cases h with|lf a v _ ha hF|nil k _ hF=>simp[Abs.BJ]at y|own bx0 k1 MI b0 c arr E Fs _ hbb hk Ei MS zv hr hd CB LZ hF=>simp only[Abs.BJ]at y;split at y;split at y;rename_i J I _ O C;obtain⟨t,N,Z,U,K,V,L⟩:=ih (hr i0 j0 J O I C) y (λx f W=>G x f ((hF x).2 (.inr ⟨i0,j0,W⟩)));have P:b0≠b:=(by rintro rfl;exact LZ _ _ L);have z:=(AAN.1 I).1;have B:=(AAN.1 C).1;refine⟨.own (KT bx0 b0 MI.length c) bx0 k1 (MI.set i0 (J.set j0 t)),λx=>x=b0\/∃g o,(if g=i0/\o=j0 then N else Fs g o) x,?_,?_,?_,ak,(hF b).2 (.inr ⟨i0,j0,L⟩)⟩;simp[Ey,I,C,Z];rw[show(KT bx0 b0 MI.length c)=KT bx0 b0 (MI.set i0 (J.set j0 t)).length c from by simp];refine Ok.own bx0 k1 _ b0 c arr E (λg o=>if g=i0/\o=j0 then N else Fs g o) _ (by rw[D6 _ _ _ _ _ P];exact hbb) ?_ (by simpa using Ei) MS ?_ ?_ ?_ ?_ ?_ (λx=>ABQ);(intro r lH;rcases AA2 lH with h|rfl);exact hk r h;simp[hk J (AAZ I)];intro g o r e m l;by_cases hi:g=i0;subst hi;rw[AAR z]at m;obtain rfl:=AAO m;by_cases M:o=j0;subst M;rw[AAR B]at l;obtain rfl:=AAO l;rw[V];exact zv g o J O I C;rw[AAY ah]at l;exact zv g o J e I l;rw[AAY ah]at m;exact zv g o r e m l;intro g o r e m l;by_cases u:g=i0/\o=j0;obtain⟨rfl,rfl⟩:=u;rw[AAR z]at m;obtain rfl:=AAO m;rw[AAR B]at l;obtain rfl:=AAO l;simpa using U;(simp only[u,AAd];have hold:Ok w S e (Fs g o):=by by_cases hi:g=i0;subst hi;have M:o≠j0:=λe=>u ⟨rfl,e⟩;rw[AAR z]at m;obtain rfl:=AAO m;rw[AAY ah]at l;exact hr g o J e I l;rw[AAY ah]at m;exact hr g o r e m l);refine hold.mono (λx f=>D6 _ _ _ _ _ ?_) (λx f=>D6 _ _ _ _ _ ?_) (λ_ h=>h) hold.E8;rintro rfl;exact(hr i0 j0 J O I C).E8 x L f;rintro rfl;exact u (hd _ _ _ _ x f L);intro i1 j1 Q j2 x f q;split at f<;>split at q;rename_i a b;omega;(rename_i a b;rcases K x f with h|h);exact absurd (hd _ _ _ _ x q h) b;exact absurd ((hF x).2 (.inr ⟨Q,j2,q⟩)) (G x h);(rename_i a b;rcases K x q with h|h);exact absurd (hd _ _ _ _ x f h) a;exact absurd ((hF x).2 (.inr ⟨i1,j1,f⟩)) (G x h);exact hd _ _ _ _ x f q;intro i1 j1 x f;split at f;rename_i u;obtain⟨rfl,rfl⟩:=u;exact⟨_,t,AAR z,AAR B⟩;obtain⟨r,e,m,l⟩:=CB i1 j1 x f;by_cases hi:i1=i0;subst hi;rename_i P;have M:j1≠j0:=λe=>P ⟨rfl,e⟩;obtain rfl:J=r:=(by rw[I]at m;exact AAO m);exact⟨_,e,AAR z,by rw[AAY ah];exact l⟩;exact⟨r,e,by rw[AAY ah];exact m,l⟩;intro i1 j1 f;split at f;(rcases K b0 f with h|h);exact LZ _ _ h;exact G b0 h ((hF b0).2 (.inl rfl));exact LZ _ _ f;rintro x (rfl|⟨i1,j1,f⟩);exact .inl ((hF x).2 (.inl rfl));split at f;(rcases K x f with h|h);exact .inl ((hF x).2 (.inr ⟨i0,j0,h⟩));exact .inr h;exact .inl ((hF x).2 (.inr ⟨i1,j1,f⟩));cases y;cases y|agg cs Fs _ hr hd CB hF|Bp cs Fs _ hr hd CB hF=>simp only[Abs.BJ]at y;split at y;rename_i O C;obtain⟨t,N,Z,U,K,V,L⟩:=ih (hr j0 O C) y (λx f W=>G x f ((hF x).2 ⟨j0,W⟩));have B:=(AAN.1 C).1;refine⟨_,λx=>∃g,(if g=j0 then N else Fs g) x,(by simp only[AA3,Ey,C,Z];rfl),?_,?_,?_,(hF b).2 ⟨j0,L⟩⟩;(first|refine Ok.agg _ (λg=>if g=j0 then N else Fs g) _ ?_ ?_ ?_ (λx=>ABQ)|refine Ok.Bp _ (λg=>if g=j0 then N else Fs g) _ ?_ ?_ ?_ (λx=>ABQ));intro g e l;by_cases hi:g=j0;subst hi;rw[AAR B]at l;obtain rfl:=AAO l;simpa using U;simp only[hi,AAd];rw[AAY ah]at l;refine(hr g e l).mono (λx f=>D6 _ _ _ _ _ ?_) (λx f=>D6 _ _ _ _ _ ?_) (λ_ h=>h) (hr g e l).E8;rintro rfl;exact(hr j0 O C).E8 x L f;rintro rfl;exact hi (hd _ _ x f L);intro i1 Q x f q;split at f<;>split at q;omega;(rename_i a b;rcases K x f with h|h);exact absurd (hd _ _ x q h) b;exact absurd ((hF x).2 ⟨Q,q⟩) (G x h);(rename_i a b;rcases K x q with h|h);exact absurd (hd _ _ x f h) a;exact absurd ((hF x).2 ⟨i1,f⟩) (G x h);exact hd _ _ x f q;intro i1 x f;split at f;rename_i u;subst u;exact⟨t,AAR B⟩;rename_i u;obtain⟨e,m⟩:=CB i1 x f;exact⟨e,by rw[AAY ah];exact m⟩;rintro x ⟨i1,f⟩;split at f;(rcases K x f with h|h);exact .inl ((hF x).2 ⟨j0,h⟩);exact .inr h;exact .inl ((hF x).2 ⟨i1,f⟩);simp only[MM,O6,ABD,V];congr 2;apply List.ext_getElem?;intro j;by_cases hn:j=j0;subst hn;rw[AAR (by simpa using B)];simp[C];rw[AAY ah];cases y
end
variable{δ:ju}{L:js}
section
structure Gi where
 rt:List (Nat×List Nat)
def Gi.Gy(G:Gi)(s:Nat):List Nat:=match G.rt.find? (·.1==s)with|some x=>x.2|none=>[]
def Gi.Pr(G:Gi)(d:Nat):List Nat:=(G.rt.filter (λx=>x.2.contains d)).map (·.1)
variable{G:Gi}
theorem Gi.xP(h:n∈G.Gy k):k∈G.Pr n:=by unfold Gi.Gy at h;split at h;rename_i x b;have a:=List.find?_some b;have c:=ABj b;simp only[AAb]at a;subst a;simp only[Gi.Pr,ABW,List.mem_filter];grind;cases h
mutual
def Fv(L:js):AV->Bool|.al r _=>L.contains r|.ME r _ _ _ _=>L.contains r|.cl _ rs=>rs.all λx=>L.contains x.1|.vb s _ _=>L.contains s|.cb _ _ _ ss=>ss.all λx=>L.contains x.1|.agg cs=>RH L cs|.Bp cs=>RH L cs|_=>true
def cn{p:Prop}(h:p:=by simp[Fv]):p:=h
def RH(L:js):List AV->Bool|[]=>true|a::r=>Fv L a&&RH L r
end
theorem jV(L:js)(l:ji):RH L l=l.all (Fv L):=by induction l with|nil=>rfl|cons d r ih=>simp[RH,ih]
mutual
def Fu(d:Nat):AV->Bool|.al r _=>r != d|.ME r _ _ _ _=>r != d|.cl _ rs=>rs.all λx=>x.1 != d|.vb s _ _=>s != d|.cb _ _ _ ss=>ss.all λx=>x.1 != d|.agg cs=>PT d cs|.Bp cs=>PT d cs|_=>true
def PT(d:Nat):List AV->Bool|[]=>true|a::r=>Fu d a&&PT d r
end
theorem fO(d:Nat)(l:ji):PT d l=l.all (Fu d):=by induction l with|nil=>rfl|cons a r ih=>simp[PT,ih]
mutual
def D7(d:Nat):AV->AV|.al r p=>if r=d then .dead else .al r p|.ME r p i j k=>if r=d then .dead else .ME r p i j k|.cl f rs=>if(rs.all λx=>x.1 != d)=true then .cl f rs else .dead|.vb s o us=>if s=d then .dead else .vb s o us|.cb f vs b ss=>if(ss.all λx=>x.1 != d)=true then .cb f vs b ss else .dead|.agg cs=>.agg (Qr d cs)|.Bp cs=>.Bp (Qr d cs)|a=>a
def cr{p:Prop}(h:p:=by simp[D7]):p:=h
def Qr(d:Nat):List AV->List AV|[]=>[]|a::r=>D7 d a::Qr d r
end
theorem fL(d:Nat)(l:ji):Qr d l=l.map (D7 d):=by induction l with|nil=>rfl|cons a r ih=>simp[Qr,ih]
@[simp]theorem rin_sc(L:js)(v:jx):Fv L (.sc v):=cn
@[simp]theorem rin_sl(L:js)(x:Bool)(k:Nat)(rows:jh):Fv L (.sl x k rows):=cn
@[simp]theorem rin_own(L:js)(x:Bool)(k:Nat)(rows:jh):Fv L (.own x k rows):=cn
@[simp]theorem rin_fp(L:js)(a:ji):Fv L (.fp a):=cn
@[simp]theorem rin_dead(L:js):Fv L .dead:=cn
@[simp]theorem rin_un(L:js):Fv L .un:=cn
@[simp]theorem Kj(L:js)(r:Nat)(p:jf):Fv L (.al r p)=L.contains r:=cn
@[simp]theorem YT(L:js)(r:Nat)(p:jf)(i j k:Nat):Fv L (.ME r p i j k)=L.contains r:=cn
@[simp]theorem Ki(L:js)(a:ji):Fv L (.agg a)=a.all (Fv L):=by simp[Fv,jV]
@[simp]theorem Pb(L:js)(a:ji):Fv L (.Bp a)=a.all (Fv L):=by simp[Fv,jV]
@[simp]theorem killr_sc(d:Nat)(v:jx):D7 d (.sc v)=.sc v:=cr
@[simp]theorem killr_sl(d:Nat)(x:Bool)(k:Nat)(rows:jh):D7 d (.sl x k rows)=.sl x k rows:=cr
@[simp]theorem killr_own(d:Nat)(x:Bool)(k:Nat)(rows:jh):D7 d (.own x k rows)=.own x k rows:=cr
@[simp]theorem killr_fp(d:Nat)(a:ji):D7 d (.fp a)=.fp a:=cr
@[simp]theorem killr_dead(d:Nat):D7 d .dead=.dead:=cr
@[simp]theorem killr_un(d:Nat):D7 d .un=.un:=cr
@[simp]theorem ZX(d r:Nat)(p:jf):D7 d (.al r p)=if r=d then .dead else .al r p:=cr
@[simp]theorem WT(d r:Nat)(p:jf)(i j k:Nat):D7 d (.ME r p i j k)=if r=d then .dead else .ME r p i j k:=cr
@[simp]theorem killr_agg(d:Nat)(a:ji):D7 d (.agg a)=.agg (a.map (D7 d)):=by simp[D7,fL]
@[simp]theorem killr_tup(d:Nat)(a:ji):D7 d (.Bp a)=.Bp (a.map (D7 d)):=by simp[D7,fL]
@[simp]theorem rin_fcl(L:js)(f:Nat)(a:jh):Fv L (.YP f a):=cn
@[simp]theorem killr_fcl(d f:Nat)(a:jh):D7 d (.YP f a)=.YP f a:=cr
@[simp]theorem rin_vb(L:js)(s o:Nat)(a:jt):Fv L (.vb s o a)=L.contains s:=cn
@[simp]theorem ZY(d s o:Nat)(a:jt):D7 d (.vb s o a)=if s=d then .dead else .vb s o a:=cr
@[simp]theorem nroot_vb(d s o:Nat)(a:jt):Fu d (.vb s o a)=(s != d):=by simp[Fu]
@[simp]theorem rin_cl(L:js)(f:Nat)(rs:ku):Fv L (.cl f rs)=rs.all λx=>L.contains x.1:=cn
@[simp]theorem Ut(d f:Nat)(rs:ku):D7 d (.cl f rs)=if(rs.all λx=>x.1 != d)=true then .cl f rs else .dead:=cr
@[simp]theorem nroot_cl(d f:Nat)(rs:ku):Fu d (.cl f rs)=rs.all λx=>x.1 != d:=by simp[Fu]
@[simp]theorem rin_cb(L:js)(f:Nat)(vs:jt)(b:Nat)(a:nu):Fv L (.cb f vs b a)=a.all λx=>L.contains x.1:=cn
@[simp]theorem Us(d f:Nat)(vs:jt)(b:Nat)(a:nu):D7 d (.cb f vs b a)=if(a.all λx=>x.1 != d)=true then .cb f vs b a else .dead:=cr
@[simp]theorem nroot_cb(d f:Nat)(vs:jt)(b:Nat)(a:nu):Fu d (.cb f vs b a)=a.all λx=>x.1 != d:=by simp[Fu]
@[simp]theorem nroot_agg(d:Nat)(a:ji):Fu d (.agg a)=a.all (Fu d):=by simp[Fu,fO]
@[simp]theorem nroot_tup(d:Nat)(a:ji):Fu d (.Bp a)=a.all (Fu d):=by simp[Fu,fO]
@[simp]theorem nroot_al(d r:Nat)(p:jf):Fu d (.al r p)=(r != d):=by simp[Fu]
@[simp]theorem nroot_adr(d r:Nat)(p:jf)(i j k:Nat):Fu d (.ME r p i j k)=(r != d):=by simp[Fu]
mutual
def JB(d:Nat):DV->DV|.lf a v=>.lf (D7 d a) v|.own h b k rows=>.own h b k rows|.agg cs=>.agg (ZQ d cs)|.Bp cs=>.Bp (ZQ d cs)
def ZQ(d:Nat):List DV->List DV|[]=>[]|a::r=>JB d a::ZQ d r
end
theorem fI(d:Nat)(l:jw):ZQ d l=l.map (JB d):=by induction l with|nil=>rfl|cons a r ih=>simp[ZQ,ih]
@[simp]theorem Uq(d:Nat)(a:AV)(v:jx):JB d (.lf a v)=.lf (D7 d a) v:=by simp[JB]
@[simp]theorem Rp(d:Nat)(h:jx)(b:Bool)(k:Nat)(rows:jm):JB d (.own h b k rows)=.own h b k rows:=by simp[JB]
@[simp]theorem OU(d:Nat)(a:jw):JB d (.agg a)=.agg (a.map (JB d)):=by simp[JB,fI]
@[simp]theorem OV(d:Nat)(a:jw):JB d (.Bp a)=.Bp (a.map (JB d)):=by simp[JB,fI]
variable{w w':jj}{S S':i5}{x:DV}{F F':i5}
theorem Lb(d:Nat)(h:Ok w S x F):(JB d x).er=D7 d x.er/\(JB d x).BD=x.BD/\Ok w S (JB d x) F/\Fu d (JB d x).er:=by
 induction h with
 |lf a v F ha hF=>refine⟨ak,ak,?_,?_⟩;(rw[Uq];refine .lf _ v F ?_ hF;cases a with|al r p=>rw[ZX];by_cases h:r=d<;>simp[h,IG]|ME r p i j k=>rw[WT];by_cases h:r=d<;>simp[h,IG]|cl f rs=>rw[Ut];split<;>trivial|vb s o us=>(rw[ZY];split<;>first|trivial|exact ha)|cb f vs b ss=>(rw[Us];split<;>first|trivial|exact ha)|agg cs|Bp cs=>exact ha.elim|own=>exact ha.elim|_=>simp_all);have:=ha.Dt;cases a with|al r p|ME r p i j k=>by_cases h:r=d<;>simp[h,Fu]|vb s o us=>by_cases h:s=d<;>simp[h,Fu]|cl f rs=>simp only[Uq,Eu,Ut];split;rename_i h;simpa using h;simp[Fu]|cb f vs b ss=>simp only[Uq,Eu,Us];split;simp_all;simp[Fu]|agg cs=>exact ha.elim|Bp cs|own=>exact ha.elim|_=>simp[Fu]
 |nil k F hF=>exact⟨ak,ak,by rw[Rp];exact .nil k F hF,by simp[Fu]⟩
 |own bx k rows b c arr E Fs F hb hk Ei MS hv hr hd CB LZ hF ih=>exact⟨ak,ak,by rw[Rp];exact .own bx k rows b c arr E Fs F hb hk Ei MS hv hr hd CB LZ hF,by simp[Fu]⟩
 |agg cs Fs F hr hd CB hF ih|Bp cs Fs F hr hd CB hF ih=>
  have key:∀e∈cs,(JB d e).er=D7 d e.er/\(JB d e).BD=e.BD/\Fu d (JB d e).er:=by intro e g;obtain⟨i,hi⟩:=List.getElem?_of_mem g;exact⟨(ih i e hi).1,(ih i e hi).2.1,(ih i e hi).2.2.2⟩
  refine⟨?_,?_,?_,?_⟩;simp_all;simp_all;(. (first|rw[OU]|rw[OV]);(first|refine .agg _ Fs F ?_ hd ?_ hF|refine .Bp _ Fs F ?_ hd ?_ hF);all_goals grind);simp only[OU,OV,Is,K7,nroot_agg,nroot_tup,List.map_map,List.all_map,List.all_eq_true];grind
def Nn(δ:ju):AV->Value->Prop|.al r p,v=>∃bx k rows,BJ (δ r) p=some (.own v bx k rows)|.ME r p i j k,v=>∃h bx rows b,BJ (δ r) p=some (.own h bx k rows)/\Uj h=some b/\v=.pointer (some ⟨b,i*k+j,none⟩)|.vb s _ us,_=>(δ s).BD=.agg us.toArray|.cb _ vs _ ss,_=>vs.length=ss.length/\∀(i:Nat) s fl u,ss[i]? =some (s,fl)->vs[i]? =some u->(δ s).BD=u/\(fl=true->∃bx k rows,BJ (δ s) []=some (.own u bx k rows))|.cl f rs,v=>∃vs:List Value,v=.func (.func f) #[] vs.toArray/\vs.length=rs.length/\∀(i:Nat) r p u,rs[i]? =some (r,p)->vs[i]? =some u->∃bx k rows,BJ (δ r) p=some (.own u bx k rows)|_,_=>True
inductive Dp (δ:Nat->DV):DV->Prop
 |lf (a v) (h:Nn δ a v):Dp δ (.lf a v)
 |own (h b k rows):Dp δ (.own h b k rows)
 |agg (cs) (hr:∀(i:Nat) d,cs[i]? =some d->Dp δ d):Dp δ (.agg cs)
 |Bp (cs) (hr:∀(i:Nat) d,cs[i]? =some d->Dp δ d):Dp δ (.Bp cs)
theorem Dp.mono{e:ju}(h:Dp δ x)(g:Fv L x.er)(w:∀r∈L,∀p v bx k rows,BJ (δ r) p=some (.own v bx k rows)->∃c,BJ (e r) p=some (.own v bx k c))(y:∀r∈L,(e r).BD=(δ r).BD):Dp e x:=by
 induction h with
 |lf a v h=>refine .lf a v ?_;cases a with|al r p=>obtain⟨bx,k,rows,h⟩:=h;obtain⟨c,l⟩:=w r am p v bx k rows h;exact⟨bx,k,c,l⟩|ME r p i j k=>obtain⟨t,bx,rows,b,h,B,rfl⟩:=h;obtain⟨c,l⟩:=w r am p t bx k rows h;exact⟨t,bx,c,b,l,B,rfl⟩|vb s o us=>exact(y s am).trans h|cb f vs b ss=>refine⟨h.1,λi s fl u hi m=>?_⟩;simp only[Eu,rin_cb,List.all_eq_true]at g;have C:s∈L:=(by simpa using g _ (List.mem_of_getElem? hi));obtain⟨n,q⟩:=h.2 i s fl u hi m;grind|cl f rs=>obtain⟨vs,n,q,z⟩:=h;refine⟨vs,n,q,λi r p u hi m=>?_⟩;obtain⟨bx,k,rows,C⟩:=z i r p u hi m;simp only[Eu,rin_cl,List.all_eq_true]at g;grind|_=>trivial
 |own=>exact .own _ _ _ _
 |agg cs _ ih|Bp cs _ ih=>
  first|refine .agg cs λi d hd=>ih i d hd ?_|refine .Bp cs λi d hd=>ih i d hd ?_
  simp only[Is,K7,Ki,Pb,List.all_map,List.all_eq_true]at g;grind
theorem rin_nroot{a:AV}:Fv L a->k∉L->Fu k a:=by
 refine AV.rec (motive_1:=λa=>Fv L a=true->k∉L->Fu k a) (motive_2:=λ_=>True) (motive_3:=λl=>RH L l=true->k∉L->PT k l)
  ?_ ?_ ?_ ?_ ?_ ?_ ?_ ?_ ?_ ?_ ?_ ?_ ?_ ?_ ?_ ?_ ?_ ?_ a
 all_goals intros
 all_goals first|trivial|simp[Fu];done|skip
 all_goals simp_all [Fv,RH,PT,Fu]
 all_goals grind
theorem killr_rin{a:AV}:Fv L a->Fv L (D7 k a):=by
 refine AV.rec (motive_1:=λa=>Fv L a=true->Fv L (D7 k a)) (motive_2:=λ_=>True) (motive_3:=λl=>RH L l=true->RH L (Qr k l))
  ?_ ?_ ?_ ?_ ?_ ?_ ?_ ?_ ?_ ?_ ?_ ?_ ?_ ?_ ?_ ?_ ?_ ?_ a
 all_goals intros
 all_goals first|trivial| (simp_all [Fv,RH,D7,Qr];done)|skip
 all_goals first| (simp only[D7];split<;>simp_all [Fv];done)| (simp only[D7];split<;>first|assumption|simp[Fv])| (rename_i b h;simp only[D7,Fv]at h |-;exact b h)
end
variable{D m:DV}
section
variable{w w':jj}{S S':i5}{d:DV}{F F':i5}
theorem Ok.replace(p:jf)(h:Ok w S d F)(C:Abs.BJ d p=some new):∃u,Ok w S new u/\(∀x,u x->F x)/\∀(w':jj)(S':i5)(n:DV)(Fn:i5),n.BD=new.BD->Ok w' S' n Fn->(∀x,Fn x->F x->u x)->(∀b,S b->w'.heap[b]? =w.heap[b]?)->(∀b,F b->¬u b->w'.heap[b]? =w.heap[b]?)->(∀b,S b->S' b)->(∀b,F b->¬u b->¬S' b)->∃t F',Ey d p n=some t/\Ok w' S' t F'/\(∀x,F' x↔(F x/\¬u x)\/Fn x)/\t.BD=d.BD:=by
 induction p generalizing d F with
 |nil=>simp only[Abs.BJ,AAM]at C;subst C;refine⟨F,h,λ_ h=>h,λw' S' n Fn W hn _ _ _ _ _=>⟨n,Fn,rfl,hn,λx=>⟨.inr,?_⟩,W⟩⟩;rintro(⟨z,K⟩|h);exact absurd z K;exact h
 |cons s p ih=>
  obtain⟨i0,j0,k0⟩:=s;cases h with
  |lf a v _ W hF|nil k _ hF=>simp[Abs.BJ]at C
  |own bx0 k1 MI b0 c arr E Fs _ hbb hk Ei MS hv hr hd CB LZ hF=>
   simp only[Abs.BJ]at C;split at C
   . split at C
     . rename_i O N _ e0 J;obtain⟨u,ho,U,Nw⟩:=ih (hr i0 j0 O e0 N J) C;have R:∀x,u x->F x:=λx f=>(hF x).2 (.inr ⟨i0,j0,U x f⟩);refine⟨u,ho,R,?_⟩;intro w' S' n Fn W hn B hS X Nu V;have Z:=(AAN.1 N).1;have Q:=(AAN.1 J).1;obtain⟨t,M,ht,Ct,H,Dl⟩:=Nw w' S' n Fn W hn (λx f D=>B x f ((hF x).2 (.inr ⟨i0,j0,D⟩))) hS
        (λb T=>X b ((hF b).2 (.inr ⟨i0,j0,T⟩))) Nu (λb T=>V b ((hF b).2 (.inr ⟨i0,j0,T⟩)))
       have L:¬u b0:=λh=>LZ _ _ (U _ h);have y:F b0:=(hF b0).2 (.inl rfl);have P:∀i j,¬(i=i0/\j=j0)->∀x,Fs i j x->¬u x:=λi j m x f bU=>m (hd _ _ _ _ x f (U x bU));refine⟨.own (KT bx0 b0 MI.length c) bx0 k1 (MI.set i0 (O.set j0 t)),λx=>x=b0\/∃g q,(if g=i0/\q=j0 then M else Fs g q) x,?_,?_,?_,ak⟩;simp[Ey,N,J,ht];rw[show(KT bx0 b0 MI.length c)=KT bx0 b0 (MI.set i0 (O.set j0 t)).length c from by simp];refine Ok.own bx0 k1 _ b0 c arr E (λg q=>if g=i0/\q=j0 then M else Fs g q) _ (by rw[X b0 y L];exact hbb) ?_ (by simpa using Ei) (V b0 y L) ?_ ?_ ?_ ?_ ?_ (λx=>ABQ);(intro r lH;rcases AA2 lH with h|rfl);exact hk r h;simp[hk O (AAZ N)];intro g q r e l o;by_cases hi:g=i0;subst hi;rw[AAR Z]at l;obtain rfl:=AAO l;by_cases hj:q=j0;subst hj;rw[AAR Q]at o;obtain rfl:=AAO o;rw[Dl];exact hv g q O e0 N J;rw[AAY ah]at o;exact hv g q O e N o;rw[AAY ah]at l;exact hv g q r e l o;intro g q r e l o;by_cases m:g=i0/\q=j0;obtain⟨rfl,rfl⟩:=m;rw[AAR Z]at l;obtain rfl:=AAO l;rw[AAR Q]at o;obtain rfl:=AAO o;simpa using Ct;(simp only[m,AAd];have hold:Ok w S e (Fs g q):=by by_cases hi:g=i0;subst hi;have hj:q≠j0:=λe=>m ⟨rfl,e⟩;rw[AAR Z]at l;obtain rfl:=AAO l;rw[AAY ah]at o;exact hr g q O e N o;rw[AAY ah]at l;exact hr g q r e l o);have I:∀x,Fs g q x->F x/\¬u x:=λx f=>⟨(hF x).2 (.inr ⟨g,q,f⟩),P g q m x f⟩;exact hold.mono hS (λx f=>X x (I x f).1 (I x f).2) Nu (λx f=>V x (I x f).1 (I x f).2);(intro i1 j1 i2 j2 x f D;have G:∀i j,¬(i=i0/\j=j0)->Fs i j x->¬M x:=by(intro i j m z K;rcases(H x).1 K with⟨l,o⟩|l);exact m (hd _ _ _ _ x z l);exact P i j m x z (B x l ((hF x).2 (.inr ⟨i,j,z⟩))));split at f<;>split at D;rename_i a b;omega;rename_i a b;exact absurd f (G _ _ b D);rename_i a b;exact absurd D (G _ _ a f);exact hd _ _ _ _ x f D;intro i1 j1 x f;split at f;rename_i m;obtain⟨rfl,rfl⟩:=m;exact⟨_,t,AAR Z,AAR Q⟩;obtain⟨r,e,l,o⟩:=CB i1 j1 x f;by_cases hi:i1=i0;subst hi;rename_i Km;have hj:j1≠j0:=λe=>Km ⟨rfl,e⟩;obtain rfl:O=r:=(by rw[N]at l;exact AAO l);exact⟨_,e,AAR Z,by rw[AAY ah];exact o⟩;exact⟨r,e,by rw[AAY ah];exact l,o⟩;intro i1 j1 f;split at f;(rcases(H b0).1 f with h|h);exact LZ _ _ h.1;exact L (B b0 h y);exact LZ _ _ f;intro x;constructor;rintro(rfl|⟨i1,j1,f⟩);exact .inl ⟨y,L⟩;split at f;(rcases(H x).1 f with h|h);exact .inl ⟨(hF x).2 (.inr ⟨i0,j0,h.1⟩),h.2⟩;exact .inr h;rename_i m;exact .inl ⟨(hF x).2 (.inr ⟨i1,j1,f⟩),P _ _ m x f⟩;rintro(⟨z,K⟩|h);(rcases(hF x).1 z with rfl|⟨i1,j1,l⟩);exact .inl rfl;by_cases m:i1=i0/\j1=j0;obtain⟨rfl,rfl⟩:=m;exact .inr ⟨i1,j1,by simp;exact(H x).2 (.inl ⟨l,K⟩)⟩;exact .inr ⟨i1,j1,by simp only[m,AAd];exact l⟩;exact .inr ⟨i0,j0,by simp;exact(H x).2 (.inr h)⟩
     . cases C
   . cases C
  |agg cs Fs _ hr hd CB hF|Bp cs Fs _ hr hd CB hF=>
   simp only[Abs.BJ]at C;split at C
   . rename_i e0 J;obtain⟨u,ho,U,Nw⟩:=ih (hr j0 e0 J) C;have R:∀x,u x->F x:=λx f=>(hF x).2 ⟨j0,U x f⟩;refine⟨u,ho,R,?_⟩;intro w' S' n Fn W hn B hS X Nu V;have Q:=(AAN.1 J).1;obtain⟨t,M,ht,Ct,H,Dl⟩:=Nw w' S' n Fn W hn (λx f D=>B x f ((hF x).2 ⟨j0,D⟩)) hS
      (λb T=>X b ((hF b).2 ⟨j0,T⟩)) Nu (λb T=>V b ((hF b).2 ⟨j0,T⟩))
     have P:∀i,¬i=j0->∀x,Fs i x->¬u x:=λi m x f bU=>m (hd _ _ x f (U x bU));refine⟨_,λx=>∃g,(if g=j0 then M else Fs g) x,(by simp only[Ey,J,ht];rfl),?_,?_,?_⟩;(first|refine Ok.agg _ (λg=>if g=j0 then M else Fs g) _ ?_ ?_ ?_ (λx=>ABQ)|refine Ok.Bp _ (λg=>if g=j0 then M else Fs g) _ ?_ ?_ ?_ (λx=>ABQ));intro g e o;by_cases hi:g=j0;subst hi;rw[AAR Q]at o;obtain rfl:=AAO o;simpa using Ct;simp only[hi,AAd];rw[AAY ah]at o;have I:∀x,Fs g x->F x/\¬u x:=λx f=>⟨(hF x).2 ⟨g,f⟩,P g hi x f⟩;exact(hr g e o).mono hS (λx f=>X x (I x f).1 (I x f).2) Nu (λx f=>V x (I x f).1 (I x f).2);(intro i1 i2 x f D;have G:∀i,¬i=j0->Fs i x->¬M x:=by(intro i m z K;rcases(H x).1 K with⟨l,o⟩|l);exact m (hd _ _ x z l);exact P i m x z (B x l ((hF x).2 ⟨i,z⟩)));split at f<;>split at D;omega;rename_i a b;exact absurd f (G _ b D);rename_i a b;exact absurd D (G _ a f);exact hd _ _ x f D;intro i1 x f;split at f;rename_i m;subst m;exact⟨t,AAR Q⟩;rename_i m;obtain⟨e,l⟩:=CB i1 x f;exact⟨e,by rw[AAY ah];exact l⟩;intro x;constructor;rintro⟨i1,f⟩;split at f;(rcases(H x).1 f with h|h);exact .inl ⟨(hF x).2 ⟨j0,h.1⟩,h.2⟩;exact .inr h;rename_i m;exact .inl ⟨(hF x).2 ⟨i1,f⟩,P _ m x f⟩;rintro(⟨z,K⟩|h);obtain⟨i1,l⟩:=(hF x).1 z;by_cases m:i1=j0;subst m;exact⟨i1,by simp;exact(H x).2 (.inl ⟨l,K⟩)⟩;exact⟨i1,by simp only[m,AAd];exact l⟩;exact⟨j0,by simp;exact(H x).2 (.inr h)⟩;simp only[MM,O6,ABD,Dl];congr 2;apply List.ext_getElem?;intro new;by_cases hn:new=j0;subst hn;rw[AAR (by simpa using Q)];simp[J];rw[AAY ah]
   . cases C
theorem S7(n:jf)(d:Ey D n new=some R)(g:Abs.BJ D n=some m)(B:∀h b k rows,m≠ .own h b k rows)(r:∀f,m≠ .agg f)(u:∀f,m≠ .Bp f)(q:jf)(v:jx)(bx:Bool)(k:Nat)(rows:jm)(l:Abs.BJ D q=some (.own v bx k rows)):∃e,Abs.BJ R q=some (.own v bx k e):=by induction n generalizing D R q with|nil=>(simp only[Abs.BJ,AAM]at g;subst g;cases q with|nil=>simp only[Abs.BJ,AAM]at l;grind|cons s q=>cases D with|lf a v=>simp[Abs.BJ]at l|own h b k rows=>grind|agg f|Bp f=>simp_all)|cons s n ih=>obtain⟨i,j,C⟩:=s;cases D with|lf a v=>simp[Ey]at d|own h b k1 KN=>(simp only[Ey]at d;simp only[Abs.BJ]at g;cases hi:KN[i]? with|none=>simp_all|some row=>simp only[hi]at d g;cases hj:row[j]? with|none=>simp_all|some c=>simp only[hj]at d g;cases hc:Ey c n new with|none=>simp_all|some c'=>simp only[hc,AAM]at d;subst d;have z:=(AAN.1 hi).1;have p:=(AAN.1 hj).1;cases q with|nil=>simp only[Abs.BJ,AAM,DV.own.injEq]at l;obtain⟨rfl,rfl,rfl,_⟩:=l;exact⟨_,rfl⟩|cons s2 q=>obtain⟨w,x,y⟩:=s2;simp only[Abs.BJ]at l |-;grind)|agg f|Bp f=>simp only[Ey]at d;simp only[Abs.BJ]at g;cases hj:f[j]? with|none=>simp_all|some c=>simp only[hj]at d g;cases hc:Ey c n new with|none=>simp_all|some c'=>simp only[hc,AAM]at d;subst d;have p:=(AAN.1 hj).1;cases q with|nil=>simp[Abs.BJ]at l|cons s2 q=>obtain⟨w,x,y⟩:=s2;simp only[Abs.BJ]at l |-;grind
end
section
variable{w w':jj}{S S':i5}{F F':i5}
structure St (G:Gi) (w:World) (S:Nat->Prop) (δ:Nat->DV) (F:Nat->Nat->Prop):Prop where
 ok:∀s,Ok w S (δ s) (F s)
 Me:∀s t x,F s x->F t x->s=t
 al:∀s,Dp δ (δ s)
 rt:∀s,Fv (G.Gy s) (δ s).er=true
 self:∀s,s∉G.Gy s
mutual
def FF(n d:Nat):AV->AV|.al r p=>if r=d/\n<=p.length then .dead else .al r p|.ME r p i j k=>if r=d/\n<=p.length then .dead else .ME r p i j k|.cl f rs=>if(rs.all λx=>x.1 != d)=true then .cl f rs else .dead|.vb s o us=>if s=d then .dead else .vb s o us|.cb f vs b ss=>if(ss.all λx=>x.1 != d||(x.2&&decide (0<n)))=true then .cb f vs b ss else .dead|.agg cs=>.agg (WO n d cs)|.Bp cs=>.Bp (WO n d cs)|a=>a
def cQ{p:Prop}(h:p:=by simp[FF]):p:=h
def WO(n d:Nat):List AV->List AV|[]=>[]|a::r=>FF n d a::WO n d r
end
theorem fK(n d:Nat)(l:ji):WO n d l=l.map (FF n d):=by induction l with|nil=>rfl|cons a r ih=>simp[WO,ih]
mutual
def Hs(n d:Nat):DV->DV|.lf a v=>.lf (FF n d a) v|.own h b k rows=>.own h b k rows|.agg cs=>.agg (Ur n d cs)|.Bp cs=>.Bp (Ur n d cs)
def Ur(n d:Nat):List DV->List DV|[]=>[]|a::r=>Hs n d a::Ur n d r
end
theorem ZR(n d:Nat)(l:jw):Ur n d l=l.map (Hs n d):=by induction l with|nil=>rfl|cons a r ih=>simp[Ur,ih]
def Ew(G:Gi)(n d:Nat)(h:Sg):Sg:=λs=>if s∈G.Pr d then FF n d (h s)else h s
def EA(G:Gi)(n d:Nat)(δ:ju):Nat->DV:=λs=>if s∈G.Pr d then Hs n d (δ s)else δ s
def KL(G:Gi)(d:Nat)(h:Sg):Sg:=λs=>if s∈G.Pr d then D7 d (h s)else h s
def Hw(G:Gi)(d:Nat)(δ:ju):Nat->DV:=λs=>if s∈G.Pr d then JB d (δ s)else δ s
theorem aW(d:Nat)(q:jf)(e:Abs.BJ new q=some (.own v bx k rows)):Abs.BJ (JB d new) q=some (.own v bx k rows):=by induction q generalizing new with|nil=>simp only[Abs.BJ,Option.some.injEq]at e;subst e;simp[Abs.BJ]|cons s q ih=>obtain⟨i,j,f⟩:=s;cases new with|lf a v=>simp[Abs.BJ]at e|own h b k1 KN=>rw[Rp];exact e|agg cs|Bp cs=>simp only[OU,OV,Abs.BJ,List.getElem?_map]at e |-;cases hj:cs[j]? with|none=>simp[hj]at e|some c=>simp only[hj,Option.map_some]at e |-;exact ih e
theorem Dp.kill{δ:ju}(d:Nat)(h:Dp δ new)(c:eL new):Dp δ (JB d new):=by induction h with|lf a v h=>(rw[Uq];refine .lf _ v ?_;cases c with|lf _ _ c=>cases a with|al r p=>rw[ZX];by_cases e:r=d;simp only[e,if_true];trivial;simp only[e,if_false];exact h|ME r p i j k=>rw[WT];by_cases e:r=d;simp only[e,if_true];trivial;simp only[e,if_false];exact h|vb s o us=>rw[ZY];split;trivial;exact h|cl f rs=>rw[Ut];split;exact h;trivial|cb f vs b ss=>rw[Us];split;exact h;trivial|agg cs|Bp cs=>simp[Dt]at c|own=>simp[Dt]at c|_=>simp only[D7];trivial)|own=>rw[Rp];exact .own _ _ _ _|agg cs _ ih=>(rw[OU];cases c with|agg _ c=>refine .agg _ λi l hd=>?_;simp only[List.getElem?_map,Option.map_eq_some_iff]at hd;obtain⟨e,g,rfl⟩:=hd;exact ih i e g (c i e g))|Bp cs _ ih=>rw[OV];cases c with|Bp _ c=>refine .Bp _ λi l hd=>?_;simp only[List.getElem?_map,Option.map_eq_some_iff]at hd;obtain⟨e,g,rfl⟩:=hd;exact ih i e g (c i e g)
variable{G:Gi}{δ:ju}{Fr:jc}
theorem St.nP(h:St G w S δ Fr)(d s:Nat):(Hw G d δ s).er=KL G d (λs=>(δ s).er) s:=by unfold Hw KL;split;exact(Lb d (h.ok s)).1;rfl
theorem St.WW(h:St G w S δ Fr)(d s:Nat):(Hw G d δ s).BD=(δ s).BD:=by unfold Hw;split;exact(Lb d (h.ok s)).2.1;rfl
theorem St.nQ(h:St G w S δ Fr)(d s:Nat):Fu d (Hw G d δ s).er:=by unfold Hw;split;exact(Lb d (h.ok s)).2.2.2;rename_i hn;exact rin_nroot (h.rt s) λa=>hn (Gi.xP a)
theorem St.killδ_ok(h:St G w S δ Fr)(d s:Nat):Ok w S (Hw G d δ s) (Fr s):=by unfold Hw;split;exact(Lb d (h.ok s)).2.2.1;exact h.ok s
theorem St.nR(h:St G w S δ Fr)(d s:Nat):Fv (G.Gy s) (Hw G d δ s).er:=by unfold Hw;split;rw[(Lb d (h.ok s)).1];exact killr_rin (h.rt s);exact h.rt s
theorem St.killδ_al(h:St G w S δ Fr)(d s:Nat):Dp δ (Hw G d δ s):=by unfold Hw;split;exact(h.al s).kill d (h.ok s).LA;exact h.al s
theorem killδ_own(d r:Nat)(p:jf)(a:Abs.BJ (δ r) p=some (.own v bx k rows)):Abs.BJ (Hw G d δ r) p=some (.own v bx k rows):=by unfold Hw;split;exact aW d p a;exact a
theorem nroot_rin{a:AV}:Fv L a->Fu k a->Fv (L.filter (· != k)) a:=by
 refine AV.rec (motive_1:=λa=>Fv L a=true->Fu k a->Fv (L.filter (· != k)) a) (motive_2:=λ_=>True) (motive_3:=λl=>RH L l=true->PT k l->RH (L.filter (· != k)) l)
  ?_ ?_ ?_ ?_ ?_ ?_ ?_ ?_ ?_ ?_ ?_ ?_ ?_ ?_ ?_ ?_ ?_ ?_ a
 all_goals intros
 all_goals first|trivial| (simp[Fv];done)|skip
 all_goals first| (simp_all [Fv,Fu];done)| (simp_all [RH,PT];done)| (rename_i b c;simp only[Fv,Fu,List.all_eq_true,List.contains_iff_mem,List.mem_filter]at b c |-;exactλx e=>⟨b x e,c x e⟩)| (rename_i f b c;simp only[Fv,Fu]at b c |-;exact f b c)
theorem St.set(h:St G w S δ Fr)(d:Nat)(e:DV)(Fn:i5)(D:∀b,S b->w'.heap[b]? =w.heap[b]?)(B:∀s,s≠d->∀x,Fr s x->w'.heap[x]? =w.heap[x]?)(y:∀b,S b->S' b)(z:∀s,s≠d->∀x,Fr s x->¬S' x)(hn:Ok w' S' e Fn)(m:∀s,s≠d->∀x,Fn x->¬Fr s x)(q:Fv (G.Gy d) e.er)(u:Dp δ e):St G w' S' (C8 (Hw G d δ) d e) (C8 Fr d Fn):=by
 have n:∀(L:js),d∉L->∀r∈L,∀p v bx k rows,Abs.BJ (δ r) p=some (.own v bx k rows)->∃c,Abs.BJ (C8 (Hw G d δ) d e r) p=some (.own v bx k c):=by intro L j r l p v bx k rows C;refine⟨rows,?_⟩;rw[B1 _ _ (by rintro rfl;exact j l)];exact killδ_own d r p C
 have o:∀(L:js),d∉L->∀r∈L,(C8 (Hw G d δ) d e r).BD=(δ r).BD:=by intro L j r l;rw[B1 _ _ (by rintro rfl;exact j l)];exact h.WW d r
 refine⟨?_,?_,?_,?_,h.self⟩;intro s;by_cases a:s=d;subst a;rw[Bb,Bb];exact hn;rw[B1 _ _ a,B1 _ _ a];exact(h.killδ_ok d s).mono D (B s a) y (z s a);intro s t x f g;by_cases a:s=d<;>by_cases i:t=d;omega;subst a;rw[Bb]at f;rw[B1 _ _ i]at g;exact absurd g (m t i x f);subst i;rw[Bb]at g;rw[B1 _ _ a]at f;exact absurd f (m s a x g);rw[B1 _ _ a]at f;rw[B1 _ _ i]at g;exact h.Me s t x f g;intro s;by_cases a:s=d;subst a;rw[Bb];exact u.mono q (n _ (h.self s)) (o _ (h.self s));rw[B1 _ _ a];refine(h.killδ_al d s).mono (nroot_rin (h.nR d s) (h.nQ d s)) (n _ ?_) (o _ ?_);simp;simp;intro s;by_cases a:s=d;subst a;rw[Bb];exact q;rw[B1 _ _ a];exact h.nR d s
theorem St.poke(h:St G w S δ Fr)(d:Nat)(e:DV)(Fn:i5)(C:∀b,S b->w'.heap[b]? =w.heap[b]?)(B:∀s,s≠d->∀x,Fr s x->w'.heap[x]? =w.heap[x]?)(hn:Ok w' S e Fn)(l:∀s,s≠d->∀x,Fn x->¬Fr s x)(o:Fv (G.Gy d) e.er)(y:Dp δ e)(z:∀p v bx k rows,Abs.BJ (δ d) p=some (.own v bx k rows)->∃c,Abs.BJ e p=some (.own v bx k c))(u:e.BD=(δ d).BD):St G w' S (C8 δ d e) (C8 Fr d Fn):=by
 have m:∀(L:js),∀r∈L,∀p v bx k rows,Abs.BJ (δ r) p=some (.own v bx k rows)->∃c,Abs.BJ (C8 δ d e r) p=some (.own v bx k c):=by intro L r _ p v bx k rows q;by_cases i:r=d;subst i;rw[Bb];exact z p v bx k rows q;rw[B1 _ _ i];exact⟨rows,q⟩
 have n:∀(L:js),∀r∈L,(C8 δ d e r).BD=(δ r).BD:=by intro L r _;by_cases i:r=d;subst i;rw[Bb];exact u;rw[B1 _ _ i]
 refine⟨?_,?_,?_,?_,h.self⟩;intro s;by_cases a:s=d;subst a;rw[Bb,Bb];exact hn;rw[B1 _ _ a,B1 _ _ a];exact(h.ok s).mono C (B s a) (λ_ h=>h) (h.ok s).E8;intro s t x f g;by_cases a:s=d<;>by_cases j:t=d;omega;subst a;rw[Bb]at f;rw[B1 _ _ j]at g;exact absurd g (l t j x f);subst j;rw[Bb]at g;rw[B1 _ _ a]at f;exact absurd f (l s a x g);rw[B1 _ _ a]at f;rw[B1 _ _ j]at g;exact h.Me s t x f g;intro s;by_cases a:s=d;subst a;rw[Bb];exact y.mono o (m _) (n _);rw[B1 _ _ a];exact(h.al s).mono (h.rt s) (m _) (n _);intro s;by_cases a:s=d;subst a;rw[Bb];exact o;rw[B1 _ _ a];exact h.rt s
def St.world(h:St G w S δ Fr)(e:∀b,S b->w'.heap[b]? =w.heap[b]?)(d:∀s x,Fr s x->w'.heap[x]? =w.heap[x]?)(a:∀b,S b->S' b)(c:∀s x,Fr s x->¬S' x):St G w' S' δ Fr:=⟨λs=>(h.ok s).mono e (d s) a (c s),h.Me,h.al,h.rt,h.self⟩
end
inductive Ar where
 |t (s:Nat)
 |c (a:AV)
 deriving Inhabited
abbrev kn:=List Ar
abbrev nc:=List (Nat×Nat×Ar)
inductive bQ where
 |cp (x:Ar)
 |mv (x:Ar)
 |fz (x:Ar)
 |pick (c a b:Ar)
 |bx (n:Nat) (x:Ar)
 |UG (z:List AV) (ps:List (Nat×Nat×Ar))
 |Ot (k:Nat) (z:List (List AV)) (ps:List (Nat×Ar))
 |ld (agg:Bool) (n:Nat) (a:Ar)
 |st (n:Nat) (a v:Ar)
 |W0 (off:Nat) (x:Ar)
 |fld (agg:Bool) (off n:Nat) (x:Ar)
 |WL (k:Nat) (x i:Ar)
 |aad (len k:Nat) (x i:Ar)
 |idx (agg:Bool) (len k:Nat) (x i:Ar)
 |bin (op:BinOp) (x y:Ar)
 |beq (neg:Bool) (x y:Ar)
 |un (op:UnOp) (x:Ar)
 |cvt (k:IntKind) (x:Ar)
 |mm (mx:Bool) (x y:Ar)
 |len (x:Ar)
 |dV (x:Ar)
 |pO (x i:Ar)
 |pL (neg:Bool) (kd:List Nat) (x y:Ar)
 |app (k bytes:Nat) (x y:Ar)
 |slc (k:Nat) (fr:Bool) (x:Ar) (lo hi mx:ABm Ar)
 |ext (x:Ar) (i:Nat)
 |mk (k bytes:Nat) (z:List AV) (l c:Ar)
 |I6 (x:Ar)
 |mkf (f:Nat) (xs:List Ar)
 |Zd (a:Ar)
 |fl
 |flk (x:Ar) (k:Nat)
 |YV (a v:Ar)
 |std (a:Ar)
 |call (f:Nat) (args:List Ar) (m:Nat)
 |YR (f:Nat) (pre:List Ar) (x:Ar) (c:ABm Nat) (post:List Ar)
 |bad
 deriving Inhabited
structure Da where
 d:Nat
 kl:List Nat
 rs:List Nat
 deriving Inhabited
abbrev jr:=ABm Da
abbrev ny:=Option Da
structure BR where
 dst:ABm Da
 op:bQ
 guard:ABm (Nat×Bool)
 deriving Inhabited
abbrev kq:=List BR
structure Apd where
 s:Nat
 e:Nat
 ap:Nat
 i7:Nat
 i8:Nat
 i9:Nat
 i11:Nat
 i12:Nat
 deriving Inhabited
inductive lD where
 |o (o:BR)
 |bxv (d:Da) (n:Nat) (s:Nat)
 |clo (d:ABm Da) (f:Nat) (x:Ar) (args:List Ar) (g:ABm (Nat×Bool))
 |jE (d:Da) (neg:Bool) (x:Ar)
 |cpy (d:ABm Da) (x y:Ar)
 |lb (d:ABm Da) (f:Nat) (x:Ar) (Uy:List Ar) (y:Ar)
 |gld (d:Da) (g n:Nat)
 |clv (d:ABm Da) (x:Ar) (args:List Ar)
 deriving Inhabited
abbrev nz:=List lD
inductive Tr where
 |leaf
 |one (i:Nat) (t:Tr)
 |fork (f m:Nat) (a b:Tr)
inductive IC where
 |skip
 |bad
 |dP (ops:List lD)
 |gz (c:Bool) (r:Nat) (p:List Step) (a:IC)
 |pg (c:Bool) (r:Nat) (p:List Step) (a:IC)
 |apd (f:Apd) (ops:List BR)
 |dO (ops:List BR)
 |drw (t:Tr) (ops:List BR)
 |iH (fs:List (Nat×Nat×Nat×Nat)) (ops:List BR)
 |seq (a b:IC)
 |cond (c:Ar) (a b:IC)
 |block (id:Nat) (a:IC)
 |loop (a:IC)
 |exit (id:Nat)
 |ret
 deriving Inhabited
def ar(h:Sg):Ar->AV|.t s=>h s|.c a=>a
def It:AV->Bool|.sc _|.sl .. =>true|_=>false
def Ke:AV->AV|.sc u=>.sc u|.sl x k rows=>.sl x k rows|_=>.dead
def GQ:AV->Bool|.sc _|.sl .. |.own .. =>true|_=>false
mutual
def view(r:Nat):List Step->AV->AV|p,.own _ _ _=>.al r p|p,.agg cs=>.agg (RP r p 0 cs)|p,.Bp cs=>.Bp (RP r p 0 cs)|_,a=>a
def RP(r:Nat)(p:jf):Nat->List AV->List AV|_,[]=>[]|i,c::cs=>view r (p++[(0,i,0)]) c::RP r p (i+1) cs
end
def vC(r:Nat)(p:jf)(i j k:Nat):AV->AV|.own _ _ _=>.al r (p++[(i,j,k)])|.sc v=>.sc v|.sl x k' rows=>.sl x k' rows|_=>.dead
def vF(s j:Nat):AV->AV|.own _ _ _=>.al s [(0,j,0)]|.agg _=>.dead|.Bp _=>.dead|a=>a
def RO(r:Nat)(p:jf)(i k:Nat):Nat->List AV->List AV|_,[]=>[]|j,c::cs=>vC r p i j k c::RO r p i k (j+1) cs
def Nl(s:Nat):Nat->List AV->List AV|_,[]=>[]|j,c::cs=>vF s j c::Nl s (j+1) cs
def JX(kl:js)(d:Nat)(h:Sg):Sg:=match kl with|[]=>h|_=>λs=>if s∈kl then D7 d (h s)else h s
def wr(d:Da)(v:AV)(h:Sg):Option Sg:=if Fv d.rs v=true then some (C8 (JX d.kl d.d h) d.d v)else none
def dW(G:Gi)(r:Nat)(p:jf)(h:Sg):Option (AV×Sg):=match sub (h r) p with|some (.own b k rows)=>(match put (h r) p .dead with|some t=>some (.own b k rows,C8 (Ew G p.length r h) r t)|none=>none)|_=>none
def qO(G:Gi):List AV->Sg->Option (List AV×Sg)
 |[],h=>some ([],h)
 |a::cs,h=>match a with
  |.al r p=>match dW G r p h with|some (n,τ)=>(match qO G cs τ with|some (l,τ')=>some (n::l,τ')|none=>none)|none=>none
  |a=>if GQ a=true then
   match qO G cs h with|some (l,τ)=>some (a::l,τ)|none=>none
   else none
def tk(G:Gi)(x:Ar)(h:Sg):Option (AV×Sg):=
 match x with
 |.c a=>some (a,h)
 |.t s=>match h s with
  |.al r p=>dW G r p h
  |.own b k rows=>some (.own b k rows,C8 (KL G s h) s .dead)
  |.agg cs=>if cs.all It=true then some (.agg cs,h)else
   match qO G cs (C8 (KL G s h) s .dead)with|some (l,τ)=>some (.agg l,τ)|none=>none
  |.sc v=>some (.sc v,h)
  |.sl e k rows=>some (.sl e k rows,h)
  |.ME r p i j k=>some (.ME r p i j k,h)
  |.fp cs=>some (.fp cs,h)
  |_=>none
def cellsOf:AV->List AV|.agg cs=>cs|a=>[a]
def hd(h:Sg)(x:Ar):Option (AV×Option (Nat×List Step)):=match x with|.c a=>(match a with|.own b k rows=>some (.own b k rows,none)|_=>none)|.t s=>match h s with|.al r p=>(match sub (h r) p with|some n=>some (n,some (r,p))|none=>none)|.own b k rows=>some (.own b k rows,some (s,[]))|.sl e k rows=>some (.sl e k rows,none)|_=>none
def SH(G:Gi)(r:Nat)(p:jf)(h:Sg):Option (AV×Sg):=match sub (h r) p with|some (.own b k rows)=>(match put (h r) p (KB (.own b k rows))with|some t=>some (KB (.own b k rows),C8 (KL G r h) r t)|none=>none)|_=>none
def wG:AV->Option Int|.sc (.int _ n)=>some n|_=>none
def EL(h:Sg)(x:Ar):Option (Nat×List Step×Nat×Nat×Nat):=match x with|.c _=>none|.t s=>match h s with|.ME r p i j k=>some (r,p,i,j,k)|.own true k _=>some (s,[],0,0,k)|.al r p=>(match sub (h r) p with|some (.own true k _)=>some (r,p,0,0,k)|_=>none)|_=>none
def binI(op:BinOp)(k:IntKind)(x y:Int):Option Value:=match op with|.add=>some (.int k (k.wrap (x+y)))|.sub=>some (.int k (k.wrap (x-y)))|.mul=>some (.int k (k.wrap (x*y)))|.quo=>if y=0 then none else some (.int k (k.wrap (x.tdiv y)))|.rem=>if y=0 then none else some (.int k (x.tmod y))|.eql=>some (.bool (x==y))|.neq=>some (.bool (x != y))|.lss=>some (.bool (x<y))|.leq=>some (.bool (x<=y))|.gtr=>some (.bool (x>y))|.geq=>some (.bool (x>=y))|_=>none
def binF(op:BinOp):AV->AV->Option AV|.sc (.int k x),.sc (.int k' y)=>if k=k' then(binI op k x y).map .sc else none|.sc (.string x),.sc (.string y)=>(match op with|.eql=>some (.sc (.bool (x.toList==y.toList)))|.neq=>some (.sc (.bool (!(x.toList==y.toList))))|_=>none)|_,_=>none
def unF(op:UnOp):AV->Option AV|.sc (.bool x)=>(match op with|.not=>some (.sc (.bool (!x)))|_=>none)|.sc (.int k x)=>(match op with|.neg=>some (.sc (.int k (k.wrap (0-x))))|_=>none)|_=>none
def Iv(agg:Bool)(n:Nat)(cs:ji):Option AV:=if cs.length=n then(if agg=true then some (.agg cs)else match cs with|[c]=>some c|_=>none)else none
def UZ(rows:jh)(lo hi:Nat):Option (List (List AV)):=if lo<=hi/\hi<=rows.length then some ((rows.drop lo).take (hi-lo))else none
def Ob(h:Sg)(x:Option Ar)(d:Nat):Option Nat:=match x with|none=>some d|some a=>match wG (ar h a)with|some n=>if 0<=n then some n.toNat else none|none=>none
def mxI(u:Sg)(mx:Option Ar)(h:Nat):Option Nat:=match mx with|none=>some h|some a=>Ob u (some a) 0
def eqSc:Nat->Value->Value->Option Bool|0,.bool a,.bool b=>some (a==b)|1,.int k n,.int k' m=>if k=k' then some (n==m)else none|2,.string a,.string b=>some (a.toList==b.toList)|_,_,_=>none
def Rk:List Nat->List AV->List AV->Option Bool|[],[],[]=>some true|kd::ks,.sc u::xs,.sc v::ys=>(match eqSc kd u v,Rk ks xs ys with|some a,some b=>some (a&&b)|_,_=>none)|_,_,_=>none
def Xa(h:Sg):List Ar->Option (List (Nat×List Step))|[]=>some []|x::r=>match x with|.t s=>(match h s,Xa h r with|.own true _ _,some l=>some ((s,[])::l)|.al q p,some l=>(match sub (h q) p with|some (.own true _ _)=>some ((q,p)::l)|_=>none)|_,_=>none)|.c _=>none
def gU(h:Sg):List Ar->Option (List (List AV))|[]=>some []|x::r=>match ar h x,gU h r with|.fp cs,some l=>some (cs::l)|_,_=>none
def valOf(o:bQ)(h:Sg):Option AV:=
 match o with
 |.cp x=>match x with|.t s=>some (view s [] (h s))|.c a=>some a
 |.pick c a b=>match ar h c with|.sc (.bool x)=>(match ar h (if x=true then a else b)with|.sc v=>some (.sc v)|_=>none)|_=>none
 |.ld agg n a=>match a with|.c _=>none|.t s=>match h s with|.fp cs=>Iv agg n ((cs.take n).map Ke)|.vb q o _=>(match h q with|.agg cs=>Iv agg n (Nl q o ((cs.drop o).take n))|_=>none)|.cb f vs b _=>if agg=false/\n=1 then some (.sc (.func (.func f) #[] (vs++[Value.pointer (some ⟨b,0,none⟩)]).toArray))else none|_=>match EL h (.t s)with|some (r,p,i,j,k)=>(match sub (h r) p with|some (.own _ _ rows)=>(match rows[i]? with|some row=>Iv agg n (RO r p i k j ((row.drop j).take n))|none=>none)|_=>none)|none=>none
 |.W0 off x=>match x with|.c _=>none|.t s=>match h s with|.fp cs=>some (.fp (cs.drop off))|.vb q o us=>some (.vb q (o+off) us)|_=>match EL h (.t s)with|some (r,p,i,j,k)=>some (.ME r p i (j+off) k)|none=>none
 |.fld agg off n x=>match x with|.c _=>none|.t s=>match h s with|.agg cs=>Iv agg n (Nl s off ((cs.drop off).take n))|_=>none
 |.WL k x i=>match hd h x,wG (ar h i)with|some (.own false k' rows,some (r,p)),some n=>if k'=k/\0<=n/\n<rows.length then some (.ME r p n.toNat 0 k)else none|some (.sl _ k' rows,_),some n=>if k'=k/\0<=n then(rows[n.toNat]?).map .fp else none|_,_=>none
 |.aad len k x i=>match x,wG (ar h i)with
  |.t s,some n=>if 0<=n/\n<len then
   match h s with|.fp cs=>some (.fp (cs.drop (n.toNat*k)))|_=>match EL h (.t s)with|some (r,p,i,j,k')=>some (.ME r p i (j+n.toNat*k) k')|none=>none
   else none
  |_,_=>none
 |.idx agg len k x i=>match x,wG (ar h i)with
  |.t s,some n=>if 0<=n/\n<len then
   match h s with|.agg cs=>Iv agg k (Nl s (n.toNat*k) ((cs.drop (n.toNat*k)).take k))|_=>none
   else none
  |_,_=>none
 |.bin op x y=>binF op (ar h x) (ar h y)
 |.beq neg x y=>match ar h x,ar h y with|.sc (.bool a),.sc (.bool b)=>some (.sc (.bool (if neg=true then !(a==b)else(a==b))))|_,_=>none
 |.un op x=>unF op (ar h x)
 |.cvt k x=>match ar h x with|.sc (.int _ n)=>some (.sc (.int k (k.wrap n)))|_=>none
 |.mm mx x y=>match ar h x,ar h y with|.sc (.int k n),.sc (.int k' m)=>if k=k' then some (.sc (.int k (if mx=true then(if m>n then m else n)else(if m<n then m else n))))else none|_,_=>none
 |.len x=>match hd h x with|some (.own false _ rows,_)=>some (.sc (.int .i64 rows.length))|some (.sl _ _ rows,_)=>some (.sc (.int .i64 rows.length))|_=>none
 |.dV x=>match ar h x with|.sc (.string s)=>some (.sc (.int .i64 s.size))|_=>none
 |.pO x i=>match ar h x,wG (ar h i)with|.sc (.string s),some n=>if 0<=n then(s[n.toNat]?).map λb=>.sc (.int .u8 b.toNat)else none|_,_=>none
 |.pL neg kd x y=>match ar h x,ar h y with|.agg xs,.agg ys=>(Rk kd xs ys).map λb=>.sc (.bool (if neg=true then !b else b))|_,_=>none
 |.ext x i=>match x with|.t s=>(match h s with|.Bp cs=>(match cs[i]? with|some c=>some (view s [(0,i,0)] c)|none=>none)|_=>none)|_=>none
 |.I6 x=>match ar h x with|.ME r p i j k=>some (.ME r p i j k)|.fp cs=>some (.fp cs)|.al r p=>(match sub (h r) p with|some (.own true _ _)=>some (.al r p)|_=>none)|.own true _ _=>(match x with|.t s=>some (.al s [])|_=>none)|_=>none
 |.mkf f xs=>match Xa h xs with|some rs=>some (.cl f rs)|none=>(gU h xs).map (.YP f)
 |.fl=>some .dead
 |.flk x k=>match x with|.t s=>(match h s with|.Bp cs=>if k<cs.length then some .dead else none|_=>none)|_=>none
 |.Zd a=>match EL h a with|some (r,p,i,j,k)=>(match sub (h r) p with|some (.own _ _ rows)=>(match rows[i]? with|some row=>(match row[j]? with|some (.own _ _ _)=>some (.al r (p++[(i,j,k)]))|_=>none)|none=>none)|_=>none)|none=>none
 |_=>none
def kI(cs:ji)(off:Nat)(xs:ji):List AV:=cs.take off++xs++cs.drop (off+xs.length)
def XY(G:Gi):List (Nat×Nat×Ar)->List AV->Sg->Option (List AV×Sg)|[],cs,h=>some (cs,h)| (off,n,x)::ps,cs,h=>match tk G x h with|some (a,τ)=>if(cellsOf a).length=n/\off+n<=cs.length/\(cellsOf a).all GQ=true then XY G ps (kI cs off (cellsOf a)) τ else none|none=>none
def XZ(G:Gi)(k:Nat):List (Nat×Ar)->List (List AV)->Sg->Option (List (List AV)×Sg)|[],rows,h=>some (rows,h)| (i,x)::ps,rows,h=>match tk G x h with|some (a,τ)=>if(cellsOf a).length=k/\i<rows.length/\(cellsOf a).all GQ=true then XZ G k ps (rows.set i (cellsOf a)) τ else none|none=>none
def stC(p:jf)(i k:Nat):Nat->List AV->AV->Option AV|_,[],t=>some t|j,c::cs,t=>match put t (p++[(i,j,k)]) c with|some t'=>stC p i k (j+1) cs t'|none=>none
def Aq(n bytes:Nat):Bool:=n*bytes<=70368744177664
def Yq(G:Gi)(k:Nat)(y:Ar)(h:Sg):Option (List (List AV)×Sg):=match y with|.t s=>(match h s with|.own false k' rows=>if k'=k/\rows.all (·.all GQ)=true then some (rows,C8 (KL G s h) s .dead)else none|.sl _ k' rows=>if k'=k/\rows.all (·.all It)=true then some (rows,h)else none|.al r p=>(match SH G r p h with|some (.sl _ k' rows,τ)=>if k'=k/\rows.all (·.all It)=true then some (rows,τ)else none|_=>none)|_=>none)|.c a=>match a with|.own false _ []=>some ([],h)|_=>none
def XX(G:Gi)(k:Nat)(x:Ar)(τ:Sg):Option (AV×Sg):=match x with|.t s=>(match τ s with|.sl true k' rows=>if k'=k/\rows.all (·.all It)=true then some (.sl true k' rows,τ)else none|.own false k' rows=>if k'=k then some (.own false k' rows,C8 (KL G s τ) s .dead)else none|.al r p=>(match dW G r p τ with|some (.own false k' rows,τ')=>if k'=k then some (.own false k' rows,τ')else none|_=>none)|_=>none)|.c a=>match a with|.own false _ []=>some (.own false k [],τ)|_=>none
def HY(G:Gi)(o:bQ)(d:ny)(σ:Sg):Option Sg:=
 match o,d with
 |.mv x,some d=>match tk G x σ with|some (v,τ)=>wr d v τ|none=>none
 |.fz x,some d=>match x with|.t s=>(match σ s with|.al r p=>(match SH G r p σ with|some (v,τ)=>wr d v τ|none=>none)|.own _ _ _=>(match SH G s [] σ with|some (v,τ)=>wr d v τ|none=>none)|.sc v=>wr d (.sc v) σ|.sl e k rows=>wr d (.sl e k rows) σ|_=>none)|.c _=>none
 |.bx n x,some d=>match tk G x σ with|some (v,τ)=>if(cellsOf v).length=n/\(cellsOf v).all GQ=true then wr d (.own true n [cellsOf v]) τ else none|none=>none
 |.UG z ps,some d=>match XY G ps z σ with|some (cs,τ)=>wr d (.agg cs) τ|none=>none
 |.Ot k z ps,some d=>match XZ G k ps z σ with|some (rows,τ)=>wr d (.own false k rows) τ|none=>none
 |.mk k bytes z l c,some d=>match wG (ar σ l),wG (ar σ c)with|some l,some c=>if 0<=l/\l<=c/\Aq c.toNat bytes=true then wr d (.own false k (List.replicate l.toNat z)) σ else none|_,_=>none
 |.slc k fr x lo hi mx,some d=>match hd σ x with
  |some (.sl _ k' rows,_)=>match Ob σ lo 0,Ob σ hi rows.length with|some l,some h=>(match UZ rows l h,mxI σ mx h with|some rs,some m=>if k'=k/\m=h then wr d (.sl mx.isSome k rs) σ else none|_,_=>none)|_,_=>none
  |some (.own false k' rows,some (r,p))=>match Ob σ lo 0,Ob σ hi rows.length with
   |some l,some h=>match UZ rows l h,mxI σ mx h with
    |some rs,some m=>if k'=k/\m=h then
     (if fr=true then
      match SH G r p σ with|some (_,τ)=>wr d (.sl mx.isSome k (rs.map (·.map KB))) τ|none=>none
     else if l=0/\mx.isNone=true then
      match dW G r p σ with|some (_,τ)=>wr d (.own false k rs) τ|none=>none
     else none)
     else none
    |_,_=>none
   |_,_=>none
  |_=>none
 |.app k bytes x y,some d=>match Yq G k y σ with
  |some (ys,τ)=>match XX G k x τ with
   |some (.own _ _ rows,τ')=>if Aq (rows.length+ys.length) bytes=true then wr d (.own false k (rows++ys)) τ' else none
   |some (.sl _ _ rows,τ')=>if ys.isEmpty=true then wr d (.sl false k rows) τ'
    else if Aq (rows.length+ys.length) bytes=true then wr d (.own false k (rows++ys)) τ' else none
   |_=>none
  |none=>none
 |.st n a v,none=>match tk G v σ with
  |some (x,τ)=>match EL τ a with
   |some (r,p,i,j,k)=>match sub (τ r) p with
    |some (.own _ _ rows)=>match rows[i]? with
     |some row=>
      if(cellsOf x).length=n/\(cellsOf x).all GQ/\j+n<=row.length then
       match stC p i k j (cellsOf x) (τ r)with|some t=>if((row.drop j).take n).all Dt=true then some (C8 τ r t)else some (C8 (KL G r τ) r t)|none=>none
      else none
     |none=>none
    |_=>none
   |none=>none
  |none=>none
 |.YV a v,none=>match ar σ v with|.sc u=>(match EL σ a with|some (r,p,i,j,k)=>(match sub (σ r) p with|some (.own _ _ rows)=>(match rows[i]? with|some row=>(match row[j]? with|some (.sc _)=>(match put (σ r) (p++[(i,j,k)]) (.sc u)with|some t=>some (C8 σ r t)|none=>none)|_=>none)|none=>none)|_=>none)|none=>none)|_=>none
 |.std a,none=>match EL σ a with|some (r,p,i,j,_)=>(match sub (σ r) (p++[(i,j,0)])with|some .dead=>some σ|_=>none)|none=>none
 |o,some d=>match valOf o σ with|some v=>wr d v σ|none=>none
 |_,none=>none
variable{y:Ar}{σ':Sg}
theorem lda_ld{v:AV}(h:valOf (.Zd y) σ'=some v):valOf (.ld false 1 y) σ'=some v:=by simp only[valOf]at h |-;split at h;rename_i r p i j k d;split at h;rename_i b x rows n;split at h;rename_i row m;split at h;(rename_i f w e g;obtain rfl:=Option.some.inj h;have hd:(row.drop j).take 1=[.own f w e]:=(by obtain⟨l,u⟩:=List.getElem?_eq_some_iff.1 g;rw[List.drop_eq_getElem_cons l,u];rfl);cases y with|c=>simp[EL]at d|t s=>simp only;cases hσ:σ' s with|fp cs=>simp[EL,hσ]at d|vb q o us=>simp[EL,hσ]at d|cb=>simp[EL,hσ]at d|_=>simp only[d,n,m,hd];rfl);cases h;cases h;cases h;cases h
variable{G:Gi}{τ:Sg}
theorem sts_st{v:Ar}(h:HY G (.YV y v) none σ'=some τ):HY G (.st 1 y v) none σ'=some τ:=by simp only[HY]at h |-;split at h;(. (rename_i u d;have e:tk G v σ'=some (.sc u,σ'):=by cases v with|c c=>simp only[ar]at d;subst d;rfl|t s=>simp only[ar]at d;simp[tk,d]);rw[e];simp only;split at h;(. rename_i r p i j k f;(try simp only[f]);split at h;(. rename_i b x rows n;(try simp only[n]);split at h;(. rename_i row m;(try simp only[m]);split at h;rename_i w g;obtain⟨l,q⟩:=List.getElem?_eq_some_iff.1 g;have hd:(row.drop j).take 1=[.sc w]:=(by rw[List.drop_eq_getElem_cons l,q];rfl);split at h;rename_i t o;obtain rfl:=Option.some.inj h;rw[if_pos ⟨by simp[cellsOf],by simp[cellsOf,GQ],ah⟩];simp[cellsOf,stC,o,hd,Dt];cases h;cases h);cases h);cases h);cases h);cases h
structure Ext (w w':World) (F:Nat->Prop):Prop where
 os:w'.os=w.os
 tape:w'.tape=w.tape
 output:w'.output=w.output
 size:w.heap.size<=w'.heap.size
 block:∀b,b<w.heap.size->¬F b->w'.heap[b]? =w.heap[b]?
def Mq:List ABn:=[⟨#[118,97,114]⟩,⟨#[118,111,108,97,116,105,108,101]⟩,⟨#[109,117,116,101,120]⟩,⟨#[114,119,108,111,99,107]⟩,⟨#[99,111,110,100]⟩,⟨#[102,117,116,117,114,101]⟩,⟨#[116,104,114,101,97,100]⟩,⟨#[105,102]⟩,⟨#[101,108,115,101]⟩,⟨#[119,104,105,108,101]⟩,⟨#[108,111,99,107]⟩,⟨#[114,101,97,100]⟩,⟨#[119,114,105,116,101]⟩,⟨#[116,114,97,110,115,97,99,116,105,111,110]⟩,⟨#[97,116,111,109,105,99]⟩,⟨#[119,97,105,116]⟩,⟨#[110,111,116,105,102,121]⟩,⟨#[110,111,116,105,102,121,97,108,108]⟩,⟨#[115,112,97,119,110]⟩,⟨#[106,111,105,110]⟩,⟨#[115,101,116]⟩,⟨#[103,101,116]⟩]
def Gam:List (Nat×List Value):=[(0,Mq.map Value.string)]
def GI(w:jj)(S:i5):Prop:=∀x∈Gam,S x.1/\∃arr E fz,w.heap[x.1]? =some (.cells arr E fz)/\∀(j:Nat) v,x.2[j]? =some v->arr[j]? =some v
def BF(P:jg)(f:Nat)(args:ji)(res:AV)(outs:ji):Prop:=∀(w:jj)(S:i5)(ds:jw)(F:i5),GI w S->ds.map DV.er=args->Ok w S (.Bp ds) F->(∀b,S b->b<w.heap.size)->Calls P f (ds.map DV.BD).toArray w λe w'=>∃(r:DV)(os:jw)(S' F':i5),e=.returned r.BD/\r.er=res/\os.map DV.er=outs/\os.map DV.BD=ds.map DV.BD/\Ok w' S' (.Bp (r::os)) F'/\Ext w w' F/\(∀b,S b->S' b)/\(∀b,S' b->S b\/F b\/w.heap.size<=b)/\(∀b,S' b->b<w'.heap.size)/\(∀x,F' x->F x\/w.heap.size<=x)
def Says(P:jg)(f:Nat)(args:ji)(res:AV):Prop:=BF P f args res (args.map λ_=>.dead)
def V1(h:Sg):AV->ABm AV|.al r p=>(match sub (h r) p with|some (.own false k rows)=>some (KB (.own false k rows))|some (.own true _ [row])=>some (.fp (row.map KB))|_=>none)|.own false k rows=>some (KB (.own false k rows))|.own true _ [row]=>some (.fp (row.map KB))|.fp cs=>some (.fp cs)|.sc v=>some (.sc v)|.sl _ k rows=>some (.sl false k rows)|_=>none
def rdL(h:Sg):List AV->ABm (List AV)|[]=>some []|a::r=>match V1 h a,rdL h r with|some x,some l=>some (x::l)|_,_=>none
def qN(h:Sg):AV->ABm AV|.agg cs=>(match rdL h cs with|some l=>some (.agg l)|none=>none)|.al r p=>V1 h (.al r p)|.own b k rows=>V1 h (.own b k rows)|.sc v=>V1 h (.sc v)|.sl e k rows=>V1 h (.sl e k rows)|.fp cs=>V1 h (.fp cs)|.YP f Md=>some (.YP f Md)|_=>none
def Jd(h:Sg):List Ar->ABm (List AV)|[]=>some []|x::r=>match qN h (ar h x),Jd h r with|some a,some l=>some (a::l)|_,_=>none
def fzl:AV->AV|.sl _ k rows=>.sl false k rows|a=>KB a
def fzn:AV->AV|.agg cs=>.agg (cs.map fzl)|a=>fzl a
def N9(G:Gi):List Ar->Sg->ABm (List AV×Sg)|[],h=>some ([],h)|x::r,h=>match tk G x h with|some (a,τ)=>(match N9 G r τ with|some (l,τ')=>some (fzn a::l,τ')|none=>none)|none=>none
def S8(G:Gi):List Ar->Sg->ABm (List AV×Sg)|[],h=>some ([],h)|x::r,h=>match tk G x h with|some (a,τ)=>(match S8 G r τ with|some (l,τ')=>some (a::l,τ')|none=>none)|none=>none
def Yy(h:Sg):List (Nat×List Step)->ABm (List (List AV))|[]=>some []| (r,p)::l=>match V1 h (.al r p),Yy h l with|some (.fp cs),some Md=>some (cs::Md)|_,_=>none
def YE(G:Gi):List Ar->Sg->ABm (List AV×Sg)|[],_=>none|x::r,h=>match r with|[]=>(match ar h x with|.cl f rs=>(match Yy h rs with|some Md=>some ([.YP f Md],h)|none=>none)|_=>none)|y::r=>match tk G x h with|some (a,τ)=>(match YE G (y::r) τ with|some (l,τ')=>some (a::l,τ')|none=>none)|none=>none
def mT:AV->Bool|.sc _=>true|.agg cs=>(cs.all λ|.sc _=>true|_=>false)|.Bp cs=>(cs.all λ|.sc _=>true|_=>false)|_=>false
mutual
def fresh:AV->Bool|.sc _=>true|.own _ _ rows=>TQ rows|.agg cs=>Qd cs|.Bp cs=>Qd cs|_=>false
def Qd:List AV->Bool|[]=>true|a::r=>fresh a&&Qd r
def TQ:List (List AV)->Bool|[]=>true|a::r=>Qd a&&TQ r
end
def Lv:AV->Bool|.sc _|.sl .. |.own .. =>true|_=>false
def clean:AV->Bool|.agg cs=>cs.all Lv|.Bp cs=>(cs.all λ|.agg l=>l.all Lv|a=>Lv a)|a=>Lv a
def RG(m:Nat)(res:AV):Option AV:=match m with|0=>if mT res=true then some res else none|1=>some (KB res)|2=>if fresh res=true then some res else none|3=>if clean res=true then some res else none|4=>if fresh res=true then some res else none|_=>none
def Gx(G:Gi)(m:Nat)(args:kn)(h:Sg):Option (List AV×Sg):=match m with|1=>N9 G args h|3=>S8 G args h|4=>YE G args h|_=>match Jd h args with|some l=>some (l,h)|none=>none
def Cm(dst:ny)(v:AV)(K:ja)(τ:Sg):Prop:=match dst with|some d=>(match wr d v τ with|some τ'=>K τ'|none=>False)|none=>K τ
def uQ(h:Sg):Ar->Option (Nat×List Step)|.t s=>(match h s with|.al r p=>some (r,p)|.own _ _ _=>some (s,[])|_=>none)|.c _=>none
def Ir:AV->Bool|.own .. |.dead=>true|_=>false
def We:AV->AV|.sc v=>.sc v|.sl _ k rows=>.sl false k rows|_=>.dead
def rdF(h:Sg):Ar->Option AV|.t s=>(match h s with|.agg cs=>some (.agg (cs.map We))|a=>some (We a))|.c a=>match a with|.sc v=>some (.sc v)|.own false k []=>some (.sl false k [])|_=>none
def N5(h:Sg):List Ar->Option (List AV)|[]=>some []|x::r=>match rdF h x,N5 h r with|some a,some l=>some (a::l)|_,_=>none
def Q3(h:Sg)(x:Ar)(c:Option Nat):Option (Nat×List Step):=match c with|none=>uQ h x|some j=>match x with|.t s=>(match h s with|.agg cs=>(match cs[j]? with|some (.al r p)=>some (r,p)|some (.own _ _ _)=>some (s,[(0,j,0)])|_=>none)|_=>none)|.c _=>none
def Uw(h:Sg)(x:Ar)(c:Option Nat)(n:AV):AV:=match c with|none=>n|some j=>match ar h x with|.agg cs=>.agg ((cs.map We).set j n)|_=>.dead
def QZ(c:Option Nat)(out:AV):Option AV:=match c with|none=>some out|some j=>match out with|.agg cs=>cs[j]?|_=>none
def Tg(u:AV)(b:Bool)(k:Nat)(p:jf):Nat:=match u with|.own b' k' _=>if b'=b/\k'=k then p.length+1 else 0|_=>0
def EV(P:jg)(G:Gi)(o:BR)(K:ja)(σ:Sg):Prop:=match o.op with|.call f args m=>(match Gx G m args σ with|some (aZ9,τ)=>∃res,Says P f aZ9 res/\(match RG m res with|some v=>Cm o.dst v K τ|none=>False)|none=>False)|.YR f pre x c post=>(match Q3 σ x c,N5 σ pre,N5 σ post with|some (r,p),some aZ9,some bs=>(match sub (σ r) p with|some (.own b k rows)=>∃res out u,BF P f (aZ9++Uw σ x c (.own b k rows)::bs) res ((aZ9.map λ_=>.dead)++out::bs.map λ_=>.dead)/\QZ c out=some u/\Ir u/\clean res/\(match put (σ r) p u with|some t=>Cm o.dst res K (C8 (Ew G (Tg u b k p) r σ) r t)|none=>False)|_=>False)|_,_,_=>False)|op=>match HY G op o.dst σ with|some τ=>K τ|none=>False
def Kq(P:jg)(G:Gi)(o:BR)(K:ja)(σ:Sg):Prop:=
 match o.guard with
 |none=>EV P G o K σ
 |some (g,want)=>match σ g with
  |.sc (.bool b)=>if b=want then EV P G o K σ else
   (match o.dst with|some d=>K (C8 (JX d.kl d.d σ) d.d .un)|none=>K σ)
  |.un=>(match o.dst with|some d=>K (C8 (JX d.kl d.d σ) d.d .un)|none=>K σ)
  |_=>False
def SF(P:jg)(G:Gi):List BR->(Sg->Prop)->Sg->Prop|[],K,h=>K h|o::os,K,h=>Kq P G o (SF P G os K) h
def rowsOf:AV->Option (List (List AV))|.own false _ rows=>some rows|.sl _ _ rows=>some rows|_=>none
def zS(h:Sg):List (Nat×List Step)->Option (List AV)|[]=>some []| (r,p)::l=>match V1 h (.al r p),zS h l with|some a,some aZ9=>some (a::aZ9)|_,_=>none
def cloA(h:Sg)(f:Nat)(x:Ar)(args:kn):Option (List AV):=match ar h x with|.cl f' rs=>if f'=f then(match Jd h args,zS h rs with|some aZ9,some bs=>some (aZ9++bs)|_,_=>none)else none|.YP f' Md=>if f'=f then(match Jd h args with|some aZ9=>some (aZ9++Md.map .fp)|none=>none)else none|_=>none
def mV(g n:Nat):Option (List Value):=match Gam.find? (λx=>x.1==g)with|some x=>if x.2.length=n/\x.2.all Gp=true then some x.2 else none|none=>none
def aU(d:ny)(K:ja)(h:Sg):Prop:=match d with|some d=>K (C8 (JX d.kl d.d h) d.d .un)|none=>K h
def gdP(g:Option (Nat×Bool))(A B:ja)(h:Sg):Prop:=match g with|none=>A h|some (g,want)=>match h g with|.sc (.bool b)=>if b=want then A h else B h|.un=>B h|_=>False
def sM(P:jg)(d:ny)(f:Nat)(x:Ar)(args:kn)(K:ja)(h:Sg):Prop:=match cloA h f x args with|some aZ9=>∃res,Says P f aZ9 res/\(match RG 0 res with|some v=>Cm d v K h|none=>False)|none=>False
def lbQ(P:jg)(G:Gi)(d:ny)(f r r2:Nat)(p p2:jf)(v n:AV)(b:Bool)(k:Nat)(ms:ji)(K:ja)(τ:Sg):Prop:=r≠r2/\∃res out,BF P f (n::(ms++[v])) res (out::((ms.map λ_=>.dead)++[v]))/\Ir out/\clean res/\(match put (τ r) p out with|some t=>(match put (C8 (Ew G (Tg out b k p) r τ) r t r2) p2 v with|some t2=>Cm d res K (C8 (Ew G p2.length r2 (C8 (Ew G (Tg out b k p) r τ) r t)) r2 t2)|none=>False)|none=>False)
def lbP(P:jg)(G:Gi)(d:ny)(f:Nat)(x:Ar)(Uy:kn)(y:Ar)(K:ja)(h:Sg):Prop:=match uQ h y with|some (r2,p2)=>(match dW G r2 p2 h with|some (v,τ)=>(match uQ τ x,N5 τ Uy with|some (r,p),some ms=>(match sub (τ r) p with|some (.own b k rows)=>lbQ P G d f r r2 p p2 v (.own b k rows) b k ms K τ|_=>False)|_,_=>False)|none=>False)|none=>False
def cpyP(G:Gi)(d:ny)(x y:Ar)(K:ja)(h:Sg):Prop:=match uQ h x,hd h y with|some (r,p),some (.sl _ k2 Fk,_)=>(match sub (h r) p with|some (.own b k rows)=>∃zs ys:List Int,b=false/\k=1/\k2=1/\rows=(zs.map λz=>[AV.sc (.int .i64 z)])/\Fk=(ys.map λz=>[AV.sc (.int .i64 z)])/\(match put (h r) p (.own false 1 ((ys.take zs.length++zs.drop ys.length).map λz=>[AV.sc (.int .i64 z)]))with|some t=>Cm d (.sc (.int .i64 (min ys.length zs.length:Nat))) K (C8 (Ew G (p.length+1) r h) r t)|none=>False)|_=>False)|_,_=>False
def fnOK(P:jg)(f:Nat):Bool:=match P.funcs[f]? with|some fn=>fn.body.isSome&&fn.name != "runtime.NumGoroutine"|none=>false
def clvP(P:jg)(d:ny)(x:Ar)(args:kn)(K:ja)(h:Sg):Prop:=match ar h x,Jd h args with|.sc (.func (.func f) a b),some aZ9=>a= #[]/\b= #[]/\fnOK P f/\∃res,Says P f aZ9 res/\(match RG 0 res with|some v=>Cm d v K h|none=>False)|_,_=>False
def Kr(P:jg)(G:Gi):List lD->(Sg->Prop)->Sg->Prop|[],K,h=>K h|.o o::xs,K,h=>Kq P G o (Kr P G xs K) h|.jE d neg x::xs,K,h=>(match hd h x with|some (a,_)=>(match rowsOf a with|some rows=>∀b:Bool,(b=true->rows=[])->Cm (some d) (.sc (.bool (if neg=true then !b else b))) (Kr P G xs K) h|none=>False)|none=>False)|.gld d g n::xs,K,h=>(match mV g n with|some cs=>Cm (some d) (.agg (cs.map .sc)) (Kr P G xs K) h|none=>False)|.bxv d n s::xs,K,h=>(match h s with|.agg cs=>cs.length=n/\∀us:List Value,us.length=n->Cm (some d) (.vb s 0 us) (Kr P G xs K) h|_=>False)|.cpy d x y::xs,K,h=>cpyP G d x y (Kr P G xs K) h|.lb d f x Uy y::xs,K,h=>lbP P G d f x Uy y (Kr P G xs K) h|.clv d x args::xs,K,h=>clvP P d x args (Kr P G xs K) h|.clo d f x args g::xs,K,h=>gdP g (sM P d f x args (Kr P G xs K)) (aU d (Kr P G xs K)) h
def czS(G:Gi)(r:Nat)(p:jf)(h:Sg):Option Sg:=match sub (h r) p with|some (.own b k rows)=>(match put (h r) p (.own b k (Lw rows))with|some t=>some (C8 (Ew G (p.length+1) r h) r t)|none=>none)|_=>none
def gzS(G:Gi)(c:Bool)(r:Nat)(p:jf)(h:Sg):Option Sg:=if c=true then czS G r p h else match sub (h r) p with|some (.sl _ _ _)=>some h|_=>match SH G r p h with|some (_,τ)=>some τ|none=>none
def pgQ(G:Gi)(c:Bool)(r:Nat)(p:jf)(Q:Exit->Sg->Prop):Exit->Sg->Prop|.normal,h=>(match gzS G c r p h with|some τ=>Q .normal τ|none=>False)|e,h=>Q e h
def Td:AV->Bool|.own false _ _=>true|_=>false
def Tc:AV->Bool|.ME .. =>true|_=>false
def okD(f:Apd)(m:Nat)(h:Sg):Bool:=(decide (m<=f.i7)||Td (h f.s))&&(decide (m<=f.i8)||Tc (h f.e))&&(decide (m<=f.i11)||Tc (h f.ap))
def Ps(P:jg)(G:Gi)(f:Apd):Nat->List BR->(Sg->Prop)->Sg->Prop|m,[],K,h=>okD f m h=true/\K h|m,o::os,K,h=>okD f m h=true/\Kq P G o (Ps P G f (m+1) os K) h
def runT(P:jg)(G:Gi)(Cp:kq):Tr->(Sg->Prop)->Sg->Prop|.leaf,K,h=>K h|.one i t,K,h=>(match Cp[i]? with|some o=>Kq P G o (runT P G Cp t K) h|none=>False)|.fork _ _ a b,K,h=>runT P G Cp a K h/\runT P G Cp b K h
def Exit.Sh(next:ja)(Q:Exit->Sg->Prop):Exit->Sg->Prop|.normal,h=>next h|e,h=>Q e h
def Exit.Yv(id:Nat)(Q:Exit->Sg->Prop):Exit->Sg->Prop|.exit i,h=>if i=id then Q .normal h else Q (.exit i) h|e,h=>Q e h
def IQ(P:jg)(G:Gi):IC->(Exit->Sg->Prop)->Sg->Prop|.skip,Q,h=>Q .normal h|.bad,_,_=>False|.dP xs,Q,h=>Kr P G xs (Q .normal) h|.apd f ops,Q,h=>Ps P G f 0 ops (Kq P G ⟨none,.st 1 (.t f.ap) (.t f.s),none⟩ (Q .normal)) h|.pg c r p a,Q,h=>IQ P G a (pgQ G c r p Q) h|.gz c r p a,Q,h=>(match gzS G c r p h with|some τ=>IQ P G a Q τ|none=>False)|.dO ops,Q,h=>SF P G ops (Q .normal) h|.iH _ ops,Q,h=>SF P G ops (Q .normal) h|.drw t ops,Q,h=>runT P G ops t (Q .normal) h|.seq a b,Q,h=>IQ P G a (Exit.Sh (IQ P G b Q) Q) h|.cond c a b,Q,h=>(match ar h c with|.sc (.bool x)=>if x=true then IQ P G a Q h else IQ P G b Q h|_=>False)|.block id a,Q,h=>IQ P G a (Exit.Yv id Q) h|.loop a,Q,h=>∃I:Nat->Sg->Prop,(∃n,I n h)/\∀n τ,I n τ->IQ P G a (Exit.Sh (λτ'=>∃n',n'<n/\I n' τ') Q) τ|.exit id,Q,h=>Q (.exit id) h|.ret,Q,h=>Q .ret h
def awp_skip(P:jg)(G:Gi)(Q:Exit->Sg->Prop)(h:Sg):IQ P G .skip Q h=Q .normal h:=(rfl)
def awp_reg(P:jg)(G:Gi)(ops:kq)(Q:Exit->Sg->Prop)(h:Sg):IQ P G (.dO ops) Q h=SF P G ops (Q .normal) h:=(rfl)
def awp_rex(P:jg)(G:Gi)(a:nz)(Q:Exit->Sg->Prop)(h:Sg):IQ P G (.dP a) Q h=Kr P G a (Q .normal) h:=(rfl)
def wI(P:jg)(G:Gi)(a b:IC)(Q:Exit->Sg->Prop)(h:Sg):IQ P G (.seq a b) Q h=IQ P G a (Exit.Sh (IQ P G b Q) Q) h:=(rfl)
def zK(P:jg)(G:Gi)(b:Nat)(a:IC)(Q:Exit->Sg->Prop)(h:Sg):IQ P G (.block b a) Q h=IQ P G a (Exit.Yv b Q) h:=(rfl)
def awp_exit(P:jg)(G:Gi)(a:Nat)(Q:Exit->Sg->Prop)(h:Sg):IQ P G (.exit a) Q h=Q (.exit a) h:=(rfl)
def awp_ret(P:jg)(G:Gi)(Q:Exit->Sg->Prop)(h:Sg):IQ P G .ret Q h=Q .ret h:=(rfl)
theorem mD(P:jg)(G:Gi)(c:Ar)(a b:IC)(Q:Exit->Sg->Prop)(h:Sg):IQ P G (.cond c a b) Q h=match ar h c with|.sc (.bool x)=>if x=true then IQ P G a Q h else IQ P G b Q h|_=>False:=rfl
variable{P:jg}{W:Exit->Sg->Prop}
def awp_loop{a:IC}(I:lC)(n:Nat)(h:I n σ')(b:∀n τ,I n τ->IQ P G a (Exit.Sh (λc=>∃d,d<n/\I d c) W) τ):IQ P G (.loop a) W σ':=⟨I,⟨n,h⟩,b⟩
def pH(next:ja)(Q:Exit->Sg->Prop)(h:Sg):Exit.Sh next Q .normal h=next h:=(rfl)
def seqA_exit(next:ja)(Q:Exit->Sg->Prop)(a:Nat)(h:Sg):Exit.Sh next Q (.exit a) h=Q (.exit a) h:=(rfl)
def seqA_ret(next:ja)(Q:Exit->Sg->Prop)(h:Sg):Exit.Sh next Q .ret h=Q .ret h:=(rfl)
def cD(a:Nat)(Q:Exit->Sg->Prop)(h:Sg):Exit.Yv a Q .normal h=Q .normal h:=(rfl)
def Qa(a i:Nat)(Q:Exit->Sg->Prop)(h:Sg):Exit.Yv a Q (.exit i) h=if i=a then Q .normal h else Q (.exit i) h:=(rfl)
def rT(a:Nat)(Q:Exit->Sg->Prop)(h:Sg):Exit.Yv a Q .ret h=Q .ret h:=(rfl)
inductive RV where
 |tmp (t:Nat)
 |cell (a:Nat) (agg:Bool) (n:Nat)
 deriving Inhabited
abbrev nC:=List RV
def Gl(G:Gi):List RV->Sg->Option (List AV×Sg)|[],h=>some ([],h)|.tmp t::l,h=>(match tk G (.t t) h with|some (v,τ)=>(match Gl G l τ with|some (vs,τ')=>some (v::vs,τ')|none=>none)|none=>none)|.cell a agg n::l,h=>match h a with|.own true _ [row]=>(match Iv agg n row with|some v=>(match Gl G l (C8 (KL G a h) a .dead)with|some (vs,τ')=>some (v::vs,τ')|none=>none)|none=>none)|_=>none
def one:List AV->AV|[v]=>v|vs=>.Bp vs
def Ends(G:Gi)(rs:nC)(res:AV)(e:Exit)(h:Sg):Prop:=(match e with|.normal=>True|.ret=>True|_=>False)/\∃vs τ,Gl G rs h=some (vs,τ)/\one vs=res
def start(args:ji):Sg:=λs=>args.getD s .un
section
variable{w w':jj}{S S':i5}{F F':i5}{G:Gi}{δ δ':ju}{Fr:jc}
theorem ZS(n d r:Nat)(p:jf):FF n d (.al r p)=if r=d/\n<=p.length then .dead else .al r p:=cQ
theorem WR(n d r:Nat)(p:jf)(i j k:Nat):FF n d (.ME r p i j k)=if r=d/\n<=p.length then .dead else .ME r p i j k:=cQ
@[simp]theorem killn_agg(n d:Nat)(a:ji):FF n d (.agg a)=.agg (a.map (FF n d)):=by simp[FF,fK]
@[simp]theorem killn_tup(n d:Nat)(a:ji):FF n d (.Bp a)=.Bp (a.map (FF n d)):=by simp[FF,fK]
theorem ZV(n d s o:Nat)(a:jt):FF n d (.vb s o a)=if s=d then .dead else .vb s o a:=cQ
theorem ZU(n d f:Nat)(rs:ku):FF n d (.cl f rs)=if(rs.all λx=>x.1 != d)=true then .cl f rs else .dead:=cQ
theorem ZT(n d f:Nat)(vs:jt)(b:Nat)(a:nu):FF n d (.cb f vs b a)=if(a.all λx=>x.1 != d||(x.2&&decide (0<n)))=true then .cb f vs b a else .dead:=by simp only[FF]
@[simp]theorem fJ(n d:Nat)(a:AV)(v:jx):Hs n d (.lf a v)=.lf (FF n d a) v:=by simp[Hs]
@[simp]theorem PL(n d:Nat)(h:jx)(b:Bool)(k:Nat)(rows:jm):Hs n d (.own h b k rows)=.own h b k rows:=by simp[Hs]
@[simp]theorem PK(n d:Nat)(a:jw):Hs n d (.agg a)=.agg (a.map (Hs n d)):=by simp[Hs,ZR]
@[simp]theorem PM(n d:Nat)(a:jw):Hs n d (.Bp a)=.Bp (a.map (Hs n d)):=by simp[Hs,ZR]
theorem Rq(L:js)(n d:Nat):∀(a:AV),Fv L a->Fv L (FF n d a)=true|.al r p,h=>by rw[ZS];split;all_goals simp_all|.ME r p i j k,h=>by rw[WR];split;all_goals simp_all|.agg cs,h=>by rw[Ki,AAS]at h;rw[killn_agg,Ki,ABb,AAS];intro c e;exact Rq L n d c (h c e)|.Bp cs,h=>by rw[Pb,AAS]at h;rw[killn_tup,Pb,ABb,AAS];intro c e;exact Rq L n d c (h c e)|.sc _,_=>cQ|.sl ..,_=>cQ|.own ..,_=>cQ|.fp _,_=>cQ|.dead,_=>cQ|.un,_=>cQ|.YP ..,_=>by simp[FF,Fv]|.vb s o us,h=>by rw[ZV];split;all_goals simp_all|.cl f rs,h=>by rw[ZU];split;exact h;simp|.cb f vs b ss,h=>by rw[ZT];split;all_goals simp_all
theorem uC{a:AV}(n d:Nat)(c:IG w S a v):IG w S (FF n d a) v:=by cases a with|al r p=>rw[ZS];split<;>simp[IG]|ME r p i j k=>rw[WR];split<;>simp[IG]|cl f rs=>rw[ZU];split<;>trivial|vb s o us=>(rw[ZV];split<;>first|trivial|exact c)|cb f vs b ss=>(rw[ZT];split<;>first|trivial|exact c)|agg cs|Bp cs=>exact c.elim|own=>exact c.elim|_=>simpa[FF]using c
theorem MT(n d:Nat)(h:Ok w S new F):(Hs n d new).er=FF n d new.er/\(Hs n d new).BD=new.BD/\Ok w S (Hs n d new) F:=by
 induction h with
 |lf a v F ha hF=>refine⟨ak,ak,?_⟩;rw[fJ];exact .lf _ v F (uC n d ha) hF
 |nil k F hF=>exact⟨cQ,ak,by rw[PL];exact .nil k F hF⟩
 |own bx k rows b c arr E Fs F hb hk Ei MS hv hr hd CB LZ hF ih=>exact⟨cQ,ak,by rw[PL];exact .own bx k rows b c arr E Fs F hb hk Ei MS hv hr hd CB LZ hF⟩
 |agg cs Fs F hr hd CB hF ih|Bp cs Fs F hr hd CB hF ih=>
  have key:∀e∈cs,(Hs n d e).er=FF n d e.er/\(Hs n d e).BD=e.BD:=by intro e f;obtain⟨i,hi⟩:=AAm f;exact⟨(ih i e hi).1,(ih i e hi).2.1⟩
  refine⟨?_,?_,?_⟩;simp_all;simp_all;(. (first|rw[PK]|rw[PM]);(first|refine .agg _ Fs F ?_ hd ?_ hF|refine .Bp _ Fs F ?_ hd ?_ hF);all_goals grind)
theorem Dp.FF(n d:Nat)(h:Dp δ new)(g:eL new)(q:∀r p v bx k rows,(r≠d\/p.length<n)->BJ (δ r) p=some (.own v bx k rows)->∃c,BJ (δ' r) p=some (.own v bx k c))(B:∀r,r≠d->(δ' r).BD=(δ r).BD):Dp δ' (Hs n d new):=by induction h with|lf a v h=>(rw[fJ];refine .lf _ v ?_;cases g with|lf _ _ g=>cases a with|al r p=>rw[ZS];split;trivial;rename_i e;obtain⟨bx,k,rows,h⟩:=h;obtain⟨c,m⟩:=q r p v bx k rows ah h;exact⟨bx,k,c,m⟩|ME r p i j k=>rw[WR];split;trivial;obtain⟨y,bx,rows,b,h,F,rfl⟩:=h;obtain⟨c,m⟩:=q r p y bx k rows ah h;exact⟨y,bx,c,b,m,F,rfl⟩|vb s o us=>rw[ZV];split;trivial;exact(B s bg).trans h|cb f vs b ss=>rw[ZT];split;rename_i t;refine⟨h.1,λi s fl u hi z=>?_⟩;rw[AAS]at t;have l:=t _ (AAZ hi);simp only[AAo,bne_iff_ne,ne_eq,AAL,AAe]at l;obtain⟨G,g2⟩:=h.2 i s fl u hi z;by_cases e:s=d;obtain⟨rfl,hn⟩:=l.resolve_left ah;obtain⟨bx,k,rows,D⟩:=g2 rfl;obtain⟨c,w⟩:=q s [] u bx k rows (.inr hn) D;refine⟨?_,λ_=>⟨bx,k,c,w⟩⟩;simp only[BJ,AAM]at w;simp_all;grind;trivial|cl f rs=>rw[ZU];split;rename_i t;obtain⟨vs,l,E,H⟩:=h;refine⟨vs,l,E,λi r p u hi z=>?_⟩;grind;trivial|agg cs|Bp cs=>simp[Dt]at g|own=>simp[Dt]at g|_=>simp only[Abs.FF];trivial)|own=>rw[PL];exact .own _ _ _ _|agg cs _ ih=>(rw[PK];cases g with|agg _ g=>refine .agg _ λi C hd=>?_;grind)|Bp cs _ ih=>rw[PM];cases g with|Bp _ g=>refine .Bp _ λi C hd=>?_;grind
theorem St.OW(h:St G w S δ Fr)(n d s:Nat):(EA G n d δ s).er=Ew G n d (λs=>(δ s).er) s:=by unfold EA Ew;split;exact(MT n d (h.ok s)).1;rfl
theorem St.K9(h:St G w S δ Fr)(n d s:Nat):(EA G n d δ s).BD=(δ s).BD:=by unfold EA;split;exact(MT n d (h.ok s)).2.1;rfl
theorem St.killnδ_ok(h:St G w S δ Fr)(n d s:Nat):Ok w S (EA G n d δ s) (Fr s):=by unfold EA;split;exact(MT n d (h.ok s)).2.2;exact h.ok s
theorem St.killnδ_rt(h:St G w S δ Fr)(n d s:Nat):Fv (G.Gy s) (EA G n d δ s).er:=by unfold EA;split;rw[(MT n d (h.ok s)).1];exact Rq _ n d _ (h.rt s);exact h.rt s
theorem YD(n d:Nat)(q:jf):Abs.BJ (Hs n d new) q=some (.own v bx k rows)↔Abs.BJ new q=some (.own v bx k rows):=by induction q generalizing new with|nil=>simp only[Abs.BJ,AAM];cases new<;>simp|cons s q ih=>obtain⟨i,j,c⟩:=s;cases new with|lf a v=>simp[Abs.BJ]|own h b k1 KN=>simp_all|agg cs|Bp cs=>simp only[PK,PM,Abs.BJ,AAX];grind
theorem ZW(n d r:Nat)(p:jf):Abs.BJ (EA G n d δ r) p=some (.own v bx k rows)↔Abs.BJ (δ r) p=some (.own v bx k rows):=by unfold EA;split;exact YD n d p;simp_all
theorem Mf(q:jf):∀(p:jf),q.length<=p.length->Ey new p R=some D->(q.length=p.length->∀v bx k rows,Abs.BJ new p=some (.own v bx k rows)->∃f,R=.own v bx k f)->∀{v:jx}{bx:Bool}{k:Nat}{rows:jm},Abs.BJ new q=some (.own v bx k rows)->∃f,Abs.BJ D q=some (.own v bx k f):=by induction q generalizing new D with|nil=>(intro p n d r v bx k rows g;simp only[Abs.BJ,AAM]at g;subst g;match p,n with|[],_=>simp only[Ey,AAM]at d;subst d;obtain⟨f,h⟩:=r rfl v bx k rows rfl;exact⟨f,by rw[h];rfl⟩| (i,j,z)::p,_=>simp only[Ey]at d;split at d;split at d;split at d;simp only[AAM]at d;subst d;exact⟨_,by simp[Abs.BJ];rfl⟩;cases d;cases d;cases d)|cons s q ih=>intro p n d r v bx k rows g;obtain⟨i,j,z⟩:=s;match p,n with| (i',j',k')::p,n=>have o:q.length<=p.length:=(by simpa using n);cases new with|lf a v=>simp[Abs.BJ]at g|own h b k1 KN=>simp only[Ey]at d;split at d;rename_i row B;split at d;rename_i c m;split at d;(rename_i c' x;simp only[AAM]at d;subst d;simp only[Abs.BJ]at g |-;cases hi:KN[i]? with|none=>simp_all|some row2=>simp only[hi]at g;cases hj:row2[j]? with|none=>simp_all|some c2=>simp only[hj]at g;have w:i<KN.length:=(AAN.1 hi).1;have l:j<row2.length:=(AAN.1 hj).1;by_cases C:i'=i;subst C;rw[hi]at B;cases B;rw[AAR w];by_cases u:j'=j;subst u;rw[hj]at m;cases m;simp only[AAR l];exact ih p o x (λe v bx k rows h=>r (by simp[e]) v bx k rows (by simp only[Abs.BJ,hi,hj];exact h)) g;simp_all;simp_all);cases d;cases d;cases d|agg cs|Bp cs=>simp only[Ey]at d;split at d;rename_i c m;split at d;(rename_i c' x;simp only[AAM]at d;subst d;simp only[Abs.BJ]at g |-;cases hj:cs[j]? with|none=>simp_all|some c2=>simp only[hj]at g;have l:j<cs.length:=(AAN.1 hj).1;by_cases u:j'=j;subst u;rw[hj]at m;cases m;simp only[AAR l];exact ih p o x (λe v bx k rows h=>r (by simp[e]) v bx k rows (by simp only[Abs.BJ,hj];exact h)) g;simp_all);cases d;cases d
theorem St.setn(h:St G w S δ Fr)(n d:Nat)(g:DV)(Fn:i5)(F:∀b,S b->w'.heap[b]? =w.heap[b]?)(D:∀s,s≠d->∀x,Fr s x->w'.heap[x]? =w.heap[x]?)(z:∀b,S b->S' b)(B:∀s,s≠d->∀x,Fr s x->¬S' x)(hn:Ok w' S' g Fn)(H:∀s,s≠d->∀x,Fn x->¬Fr s x)(u:Fv (G.Gy d) g.er)(y:Dp δ g)(C:∀p v bx k rows,p.length<n->Abs.BJ (δ d) p=some (.own v bx k rows)->∃c,Abs.BJ g p=some (.own v bx k c)):St G w' S' (C8 (EA G n d δ) d g) (C8 Fr d Fn):=by
 have m:∀r p v bx k rows,(r≠d\/p.length<n)->Abs.BJ (δ r) p=some (.own v bx k rows)->∃c,Abs.BJ (C8 (EA G n d δ) d g r) p=some (.own v bx k c):=by intro r p v bx k rows f i;by_cases e:r=d;subst e;rw[Bb];grind;rw[B1 _ _ e];exact⟨rows,(ZW n d r p).2 i⟩
 have o:∀r,r≠d->(C8 (EA G n d δ) d g r).BD=(δ r).BD:=by intro r f;rw[B1 _ _ f];exact h.K9 n d r
 refine⟨?_,?_,?_,?_,h.self⟩;intro s;by_cases a:s=d;subst a;rw[Bb,Bb];exact hn;rw[B1 _ _ a,B1 _ _ a];exact(h.killnδ_ok n d s).mono F (D s a) z (B s a);intro s t x j l;by_cases a:s=d<;>by_cases q:t=d;omega;subst a;rw[Bb]at j;rw[B1 _ _ q]at l;simp_all;subst q;rw[Bb]at l;rw[B1 _ _ a]at j;simp_all;rw[B1 _ _ a]at j;rw[B1 _ _ q]at l;exact h.Me s t x j l;(. intro s;by_cases a:s=d;subst a;rw[Bb];refine y.mono u (λr f p v bx k rows i=>m r p v bx k rows (.inl ?_) i) (λr f=>o r ?_);rintro rfl;exact h.self _ f;rintro rfl;exact h.self _ f;(. rw[B1 _ _ a];unfold EA;split;exact(h.al s).FF n d (h.ok s).LA m o;(. rename_i hn;have hd:d∉G.Gy s:=λE=>hn (Gi.xP E);refine(h.al s).mono (h.rt s) (λr f p v bx k rows i=>m r p v bx k rows (.inl ?_) i) (λr f=>o r ?_);all_goals grind)));intro s;by_cases a:s=d;subst a;rw[Bb];exact u;rw[B1 _ _ a];exact h.killnδ_rt n d s
end
variable{U S1 F:i5}{g:jj}
section
variable{w w':jj}{S S':i5}{G:Gi}{δ:ju}{Fr:jc}
structure Nx (w:World) (S U:Nat->Prop) (w':World) (S' U':Nat->Prop):Prop where
 os:w'.os=w.os
 tape:w'.tape=w.tape
 output:w'.output=w.output
 size:w.heap.size<=w'.heap.size
 block:∀b,b<w.heap.size->¬U b->w'.heap[b]? =w.heap[b]?
 sub:∀b,S b->S' b
 sup:∀b,S' b->S b\/U b\/w.heap.size<=b
 lt:(∀b,S b->b<w.heap.size)->∀b,S' b->b<w'.heap.size
 own:∀x,U' x->U x\/w.heap.size<=x
def Nx.refl(w:jj)(S U:i5):Nx w S U w S U:=⟨rfl,rfl,rfl,AAl _,λ_ _ _=>rfl,λ_ h=>h,λ_ h=>.inl h,λh=>h,λ_ h=>.inl h⟩
def Nx.less{w:jj}{S:i5}(h:∀x,S1 x->U x):Nx w S U w S S1:=⟨rfl,rfl,rfl,AAl _,λ_ _ _=>rfl,λ_ h=>h,λ_ h=>.inl h,λh=>h,λx b=>.inl (h x b)⟩
theorem Nx.trans{w f:jj}{S S2 e:i5}(h:Nx w S U f S1 F)(k:Nx f S1 F g S2 e):Nx w S U g S2 e:=by
 refine⟨k.os.trans h.os,k.tape.trans h.tape,k.output.trans h.output,ABF h.size k.size,?_,λb c=>k.sub b (h.sub b c),?_,λl b c=>k.lt (h.lt l) b c,?_⟩
 . (intro b c j;rw[k.block b (ABG c h.size) ?_,h.block b c j];intro d;rcases h.own b d with a|a);all_goals grind
 (. (intro b c;have m:=h.size;rcases k.sup b c with a|a|a);exact h.sup b a;(. (rcases h.own b a with i|i);all_goals simp_all);omega);(intro x n;have m:=h.size;rcases k.own x n with a|a);exact h.own x a;omega
abbrev BL(Fr:jc):Nat->Prop:=λx=>∃s,Fr s x
theorem kills_eq(d:Nat)(h:Sg):JX (G.Pr d) d h=KL G d h:=by unfold JX KL;split;all_goals simp_all
def Dp.dead(v:jx):Dp δ (.lf .dead v):=.lf _ _ trivial
theorem St.empty(h:St G w S δ Fr)(s:Nat):St G w S (C8 (Hw G s δ) s (.lf .dead (δ s).BD)) (C8 Fr s λ_=>False):=by refine h.set s _ _ (λ_ _=>rfl) (λ_ _ _ _=>rfl) (λ_ h=>h) (λt _ x a=>(h.ok t).E8 x a) (.lf _ _ _ trivial (λ_ h=>h)) (λ_ _ _ h=>h.elim) ak (Dp.dead _)
theorem JA(h:St G w S δ Fr)(d:Nat)(x:DV):(λs=>(C8 (Hw G d δ) d x s).er)=C8 (KL G d (λs=>(δ s).er)) d x.er:=by funext s;by_cases a:s=d;subst a;simp[C8];simp only[C8,a,AAd];exact h.nP d s
theorem IY(h:St G w S δ Fr)(d:Nat)(x:DV)(s:Nat):(C8 (Hw G d δ) d x s).BD=if s=d then x.BD else(δ s).BD:=by by_cases a:s=d;subst a;simp[C8];simp only[C8,a,AAd];exact h.WW d s
theorem XC{a:AV}{h:jx}(p:jf)(d:Ey new p (.lf a h)=some D)(q:jf)(f:BJ D q=some (.own v bx k rows)):∃e,BJ new q=some (.own v bx k e):=by induction p generalizing new D q with|nil=>(simp only[Ey,AAM]at d;subst d;cases q with|nil|cons s q=>simp[BJ]at f)|cons s p ih=>obtain⟨i,j,u⟩:=s;cases new with|lf a v=>simp[Ey]at d|own hh b k1 KN=>(simp only[Ey]at d;cases hi:KN[i]? with|none=>simp_all|some row=>simp only[hi]at d;cases hj:row[j]? with|none=>simp_all|some c=>simp only[hj]at d;cases hc:Ey c p (.lf a h)with|none=>simp_all|some c'=>simp only[hc,AAM]at d;subst d;have r:=(AAN.1 hi).1;have l:=(AAN.1 hj).1;cases q with|nil=>simp only[BJ,AAM,DV.own.injEq]at f;obtain⟨rfl,rfl,rfl,_⟩:=f;exact⟨_,rfl⟩|cons s2 q=>obtain⟨m,n,o⟩:=s2;simp only[BJ]at f |-;grind)|agg cs|Bp cs=>simp only[Ey]at d;cases hj:cs[j]? with|none=>simp_all|some c=>simp only[hj]at d;cases hc:Ey c p (.lf a h)with|none=>simp_all|some c'=>simp only[hc,AAM]at d;subst d;have l:=(AAN.1 hj).1;cases q with|nil=>simp[BJ]at f|cons s2 q=>obtain⟨m,n,o⟩:=s2;simp only[BJ]at f |-;grind
theorem MV(p:jf)(e:Ey D p new=some R)(g:Dp δ D)(hn:Dp δ new):Dp δ R:=by induction p generalizing D R with|nil=>simp only[Ey,AAM]at e;simp_all|cons s p ih=>obtain⟨i,j,k⟩:=s;cases g with|lf a v h=>simp[Ey]at e|own hh b k1 rows=>simp only[Ey]at e;split at e;split at e;split at e;simp only[AAM]at e;subst e;exact .own _ _ _ _;cases e;cases e;cases e|agg cs hr|Bp cs hr=>simp only[Ey]at e;split at e;rename_i c l;split at e;rename_i c' m;simp only[AAM]at e;subst e;(first|refine .agg _ λi d hd=>?_|refine .Bp _ λi d hd=>?_);grind;cases e;cases e
theorem Ld(p:jf)(d:Ey D p new=some R)(f:Fv L D.er)(hn:Fv L new.er):Fv L R.er:=by induction p generalizing D R with|nil=>simp only[Ey,AAM]at d;simp_all|cons s p ih=>obtain⟨i,j,k⟩:=s;cases D with|lf a v=>simp[Ey]at d|own hh b k1 rows=>simp only[Ey]at d;split at d;split at d;split at d;simp only[AAM]at d;subst d;simp;cases d;cases d;cases d|agg cs|Bp cs=>simp only[Ey]at d;split at d;rename_i c g;split at d;rename_i c' h;simp only[AAM]at d;subst d;simp only[Is,K7,Ki,Pb,ABb,AAS]at f |-;grind;cases d;cases d
theorem St.replace(h:St G w S δ Fr)(r:Nat)(p:jf)(D:BJ (δ r) p=some new):∃a,Ok w S new a/\(∀x,a x->Fr r x)/\∀(S':i5)(n:DV),n.BD=new.BD->Ok w S' n (λ_=>False)->(∀b,S b->S' b)->(∀t b,Fr t b->¬a b->¬S' b)->(∀L,Fv L n.er)->Dp δ n->∃t F',Ey (δ r) p n=some t/\St G w S' (C8 (Hw G r δ) r t) (C8 Fr r F')/\(∀x,F' x↔Fr r x/\¬a x)/\t.BD=(δ r).BD:=by obtain⟨a,C,f,q⟩:=(h.ok r).replace p D;refine⟨a,C,f,?_⟩;intro S' n z hn g i u m;obtain⟨t,F',e,k,E,l⟩:=q w S' n (λ_=>False) z hn (λ_ h=>h.elim) (λ_ _=>rfl) (λ_ _ _=>rfl) g (λb B v=>i r b B v);have j:∀x,F' x↔Fr r x/\¬a x:=λx=>am;refine⟨t,F',e,?_,j,l⟩;refine h.set r t F' (λ_ _=>rfl) (λ_ _ _ _=>rfl) g ?_ k ?_ (Ld p e (h.rt r) (u _)) (MV p e (h.al r) m);intro s d x c;exact i s x c λy=>d (h.Me s r x c (f x y));intro s d x c o;exact d (h.Me s r x o ((j x).1 c).1)
theorem PD(h:St G w S δ Fr)(n d:Nat)(x:DV):(λs=>(C8 (EA G n d δ) d x s).er)=C8 (Ew G n d (λs=>(δ s).er)) d x.er:=by funext s;by_cases a:s=d;subst a;simp[C8];simp only[C8,a,AAd];exact h.OW n d s
theorem Nq(h:St G w S δ Fr)(n d:Nat)(x:DV)(s:Nat):(C8 (EA G n d δ) d x s).BD=if s=d then x.BD else(δ s).BD:=by by_cases a:s=d;subst a;simp[C8];simp only[C8,a,AAd];exact h.K9 n d s
theorem St.oN(h:St G w S δ Fr)(r:Nat)(p:jf)(J:BJ (δ r) p=some new):∃a,Ok w S new a/\(∀x,a x->Fr r x)/\∀(S':i5)(n:DV),n.BD=new.BD->Ok w S' n (λ_=>False)->(∀b,S b->S' b)->(∀t b,Fr t b->¬a b->¬S' b)->(∀L,Fv L n.er)->Dp δ n->∃t F',Ey (δ r) p n=some t/\St G w S' (C8 (EA G p.length r δ) r t) (C8 Fr r F')/\(∀x,F' x↔Fr r x/\¬a x)/\t.BD=(δ r).BD:=by obtain⟨a,I,i,B⟩:=(h.ok r).replace p J;refine⟨a,I,i,?_⟩;intro S' n F hn j l C y;obtain⟨t,F',c,o,K,u⟩:=B w S' n (λ_=>False) F hn (λ_ h=>h.elim) (λ_ _=>rfl) (λ_ _ _=>rfl) j (λb H D=>l r b H D);have m:∀x,F' x↔Fr r x/\¬a x:=λx=>am;refine⟨t,F',c,?_,m,u⟩;refine h.setn p.length r t F' (λ_ _=>rfl) (λ_ _ _ _=>rfl) j ?_ o ?_ (Ld p c (h.rt r) (C _)) (MV p c (h.al r) y) ?_;intro s f x d;exact l s x d λE=>f (h.Me s r x d (i x E));intro s f x d z;exact f (h.Me s r x z ((m x).1 d).1);intro q v bx k rows M g;exact Mf q p ah c (λe=>absurd e ah) g
theorem St.dW(h:St G w S δ Fr){a:AV}(g:Abs.dW G k p (λs=>(δ s).er)=some (a,τ)):∃e F' D Ff,St G w S e F'/\(λs=>(e s).er)=τ/\(∀s,(e s).BD=(δ s).BD)/\Ok w S D Ff/\D.er=a/\(∃v bx r rows,D=.own v bx r rows)/\BJ (δ k) p=some D/\(∀s x,F' s x->¬Ff x)/\(∀x,BL F' x\/Ff x->BL Fr x)/\(∀q v bx r rows,BJ (e k) q=some (.own v bx r rows)->∃c,BJ (δ k) q=some (.own v bx r c))/\(∀s,s≠k->e s=EA G p.length k δ s):=by unfold Abs.dW at g;split at g;rename_i b r rows J;split at g;(rename_i t O;simp only[AAM,AAa]at g;obtain⟨rfl,rfl⟩:=g;obtain⟨D,n,l⟩:=D8 (h.ok k).LA J;obtain⟨C,o,z,E⟩:=h.oN k p n;obtain⟨L,F',j,y,N,M⟩:=E S (.lf .dead D.BD) ak (.lf _ _ _ trivial (λ_ h=>h)) (λ_ h=>h) (λt b I _=>(h.ok t).E8 b I) ak (Dp.dead _);have K:L.er=t:=(by obtain⟨Q,m,F⟩:=HC (d:=δ k) (p:=p) (a:=t) (.lf .dead D.BD) (h.ok k).LA am;rw[j]at m;obtain rfl:=AAO m;exact F);have B:∃v bx r rows,D=.own v bx r rows:=by have:=o.LA;cases D with|own v bx r rows=>simp_all|lf a v=>(cases this with|lf _ _ hl=>simp at l;subst l;simp[Dt]at hl)|agg cs|Bp cs=>simp at l);refine⟨_,_,D,C,y,by rw[PD h,K],?_,o,l,B,n,?_,?_,?_,λs f=>B1 _ _ f⟩;intro s;rw[Nq h];simp_all;intro s x i H;by_cases f:s=k;subst f;rw[Bb]at i;simp_all;rw[B1 _ _ f]at i;exact f (h.Me s k x i (z x H));rintro x (⟨s,i⟩|i);by_cases f:s=k;subst f;rw[Bb]at i;grind;rw[B1 _ _ f]at i;grind;grind;intro q v bx P c u;rw[Bb]at u;exact XC p j q u;cases g;cases g
end
variable{C H:ju}
section
variable{w w':jj}{S S':i5}{G:Gi}{δ:ju}{Fr:jc}
theorem jK(d:Nat)(q:jf)(c:BJ (JB d new) q=some (.own v bx k rows)):BJ new q=some (.own v bx k rows):=by induction q generalizing new with|nil=>(simp only[BJ,AAM]at c |-;cases new with|lf a v=>simp at c|own=>simp_all|agg|Bp=>simp at c)|cons s q ih=>obtain⟨i,j,e⟩:=s;cases new with|lf a v=>simp[BJ]at c|own h b k1 KN=>simp_all|agg cs|Bp cs=>simp only[OU,OV,BJ,AAX]at c |-;grind
theorem VF(d r:Nat)(q:jf)(a:BJ (Hw G d δ r) q=some (.own v bx k rows)):BJ (δ r) q=some (.own v bx k rows):=by unfold Hw at a;split at a;exact jK d q a;exact a
def Hd(δ δ':ju):Prop:=∀r q v bx k rows,BJ (δ' r) q=some (.own v bx k rows)->∃rows',BJ (δ r) q=some (.own v bx k rows')
def Hd.refl(δ:ju):Hd δ δ:=λ_ _ _ _ _ rows h=>⟨rows,h⟩
theorem Hd.trans{δ c:ju}(h:Hd δ c)(k:Hd c C):Hd δ C:=by intro r q v bx d rows f;obtain⟨b,e⟩:=k r q v bx d rows f;exact h r q v bx d b e
def KP(w:jj)(S:i5):List DV->(Nat->Prop)->Prop|[],F=>∀x,¬F x|d::ds,F=>∃F1 F2,Ok w S d F1/\KP w S ds F2/\(∀x,F1 x->¬F2 x)/\∀x,F x↔F1 x\/F2 x
def lV(w:jj)(S:i5)(cs:jw)(F:i5):Prop:=∃Fs:Nat->Nat->Prop,(∀(i:Nat) d,cs[i]? =some d->Ok w S d (Fs i))/\(∀i i' x,Fs i x->Fs i' x->i=i')/\(∀i x,Fs i x->∃d,cs[i]? =some d)/\(∀x,F x↔∃i,Fs i x)
theorem KV:KP w S row F↔lV w S row F:=by induction row generalizing F with|nil=>constructor;intro h;exact⟨λ_ _=>False,ak,λ_ _ _ h=>h.elim,λ_ _ h=>h.elim,λx=>⟨λb=>absurd b (h x),λ⟨_,h⟩=>h.elim⟩⟩;rintro⟨a,m,g,n,j⟩ x b;simp_all|cons d ds ih=>constructor;(. rintro⟨k,p,m,g,n,j⟩;obtain⟨a,f,g2,l,e⟩:=ih.1 g;refine⟨λi=>match i with|0=>k|i+1=>a i,?_,?_,?_,?_⟩;grind;(. intro i o x b q;cases i<;>cases o;all_goals grind);(intro i x b;cases i with|zero=>simp_all|succ i=>grind);intro x;rw[j x];constructor;rintro(h|h);exact⟨0,h⟩;obtain⟨i,hi⟩:=(e x).1 h;exact⟨i+1,hi⟩;rintro⟨i,hi⟩;cases i with|zero|succ i=>grind);rintro⟨a,f,g2,l,e⟩;refine⟨a 0,λx=>∃i,a (i+1) x,f 0 d rfl,ih.2 ⟨λi=>a (i+1),?_,?_,?_,λx=>ABQ⟩,?_,?_⟩;simp_all;grind;grind;grind;intro x;rw[e x];constructor;(rintro⟨i,hi⟩;cases i with|zero=>grind|succ i=>grind);grind
theorem CQ:Ok w S (.agg row) F↔KP w S row F:=by rw[KV];constructor;(intro h;cases h with|agg _ a _ c d e f=>exact⟨a,c,d,e,f⟩);rintro⟨a,c,d,e,f⟩;exact .agg row a F c d e f
theorem Bj:Ok w S (.Bp row) F↔KP w S row F:=by rw[KV];constructor;(intro h;cases h with|Bp _ a _ c d e f=>exact⟨a,c,d,e,f⟩);rintro⟨a,c,d,e,f⟩;exact .Bp row a F c d e f
def KP.mono{a:jw}(h:KP w S a F)(e:∀b,S b->w'.heap[b]? =w.heap[b]?)(d:∀b,F b->w'.heap[b]? =w.heap[b]?)(c:∀b,S b->S' b)(hn:∀x,F x->¬S' x):KP w' S' a F:=CQ.1 ((CQ.2 h).mono e d c hn)
theorem St.qO(ds:jw):∀{δ:ju}{Fr:jc}{F:i5}{l:ji}{τ:Sg},St G w S δ Fr->KP w S ds F->(∀d∈ds,Dp H d)->Hd H δ->(∀s x,Fr s x->¬F x)->Abs.qO G (ds.map DV.er) (λs=>(δ s).er)=some (l,τ)->∃m F' B Ff,St G w S m F'/\(λs=>(m s).er)=τ/\(∀s,(m s).BD=(δ s).BD)/\KP w S B Ff/\B.map DV.er=l/\B.map DV.BD=ds.map DV.BD/\(∀s x,F' s x->¬Ff x)/\(∀x,BL F' x\/Ff x->BL Fr x\/F x)/\Hd H m/\(∀a∈l,GQ a):=by induction ds with|nil=>intro δ Fr F l τ h Ct T N I c;simp only[AAy,Abs.qO,AAM,AAa]at c;grind|cons d ds ih=>intro δ Fr F l τ h Ct T N I c;obtain⟨Q,R,hd,Ko,h12,i⟩:=Ct;have L:=T d ak;have y:∀e∈ds,Dp H e:=λe he=>T e (by simp[he]);simp only[AAf,Abs.qO]at c;cases TW:d.er with|al r p=>simp only[TW]at c;split at c;rename_i n τ1 ht1;split at c;(rename_i l' τ' E;simp only[AAM,AAa]at c;obtain⟨rfl,rfl⟩:=c;obtain⟨δ1,F1',D,Ff,CW,KD,Dl,hD,G1,⟨v,bx,k,rows,rfl⟩,Cc,mW,J,hhd1,Xe⟩:=h.dW ht1;have hH:Hd δ δ1:=by intro r' q v bx k rows hq;by_cases hr:r'=r;grind;rw[Xe r' hr]at hq;exact⟨rows,(ZW _ r r' q).1 hq⟩);(subst KD;have f:∀s x,F1' s x->¬R x:=(by intro s x b K;obtain⟨t,c⟩:=J x (.inl ⟨s,b⟩);exact I t x c ((i x).2 (.inr K)));obtain⟨o,F2',B,Fd,U,Z,W,cR,X,nA,OQ,z,g,P⟩:=ih CW Ko y (N.trans hH) f E;have hv:v=d.BD:=by cases d with|lf a u=>(simp only[Eu]at TW;subst TW;cases L with|lf _ _ hl=>obtain⟨lE,k',rows',hl⟩:=hl;obtain⟨O,hq⟩:=N r p v bx k rows Cc;simp_all)|own|agg=>simp at TW|Bp=>simp at TW);(have hFf:∀x,Ff x->¬R x:=(by intro x b K;obtain⟨t,c⟩:=J x (.inr b);exact I t x c ((i x).2 (.inr K)));have M:∀x,BL F2' x\/Fd x->¬Ff x:=by(intro x b C;rcases z x b with⟨s,hs⟩|h2);grind;simp_all);refine⟨o,F2',.own v bx k rows::B,λx=>Ff x\/Fd x,U,Z,λs=>(W s).trans (Dl s),⟨Ff,Fd,hD,cR,λx b V=>M x (.inr V) b,λx=>ABQ⟩,?_,?_,?_,?_,g,?_⟩;simp only[AAf,G1,X];simp only[AAf,nA,KZ,hv];grind;rintro x (b|b|b);(rcases z x (.inl b)with h1|h1);exact .inl (J x (.inl h1));exact .inr ((i x).2 (.inr h1));exact .inl (J x (.inr b));(rcases z x (.inr b)with h1|h1);exact .inl (J x (.inl h1));exact .inr ((i x).2 (.inr h1));(intro a j;simp only[AAk]at j;rcases j with rfl|j);rw[<- G1];simp[GQ];exact P a j;cases c;cases c|_=>simp only[TW]at c;split at c;rename_i hc;split at c;(rename_i l' τ' E;simp only[AAM,AAa]at c;obtain⟨rfl,rfl⟩:=c;have f:∀s x,Fr s x->¬R x:=λs x b K=>I s x b ((i x).2 (.inr K));obtain⟨o,F2',B,Fd,U,Z,W,cR,X,nA,OQ,z,g,P⟩:=ih h Ko y N f E;have M:∀x,BL F2' x\/Fd x->¬Q x:=by(intro x b C;rcases z x b with⟨s,hs⟩|h2);exact I s x hs ((i x).2 (.inl C));exact h12 x C h2);refine⟨o,F2',d::B,λx=>Q x\/Fd x,U,Z,W,⟨Q,Fd,hd,cR,λx b V=>M x (.inr V) b,λx=>ABQ⟩,?_,?_,?_,?_,g,?_⟩;simp only[AAf,TW,X];simp only[AAf,nA];rintro s x b (C|C);exact M x (.inl ⟨s,b⟩) C;exact OQ s x b C;rintro x (b|b|b);(rcases z x (.inl b)with h1|h1);exact .inl h1;exact .inr ((i x).2 (.inr h1));exact .inr ((i x).2 (.inl b));(rcases z x (.inr b)with h1|h1);exact .inl h1;exact .inr ((i x).2 (.inr h1));(intro a j;simp only[AAk]at j;rcases j with rfl|j);exact hc;exact P a j;cases c;cases c
end
variable{d:Da}{Ff:i5}
section
variable{w w':jj}{S S':i5}{G:Gi}{δ:ju}{Fr:jc}
mutual
def I3:AV->ABm DV|.sc v=>if Gp v=true then some (.lf (.sc v) v)else none|.own false k []=>some (.own (.slice none 0 0) false k [])|.sl x k []=>some (.lf (.sl x k []) (.slice none 0 0))|.agg cs=>(match Y4 cs with|some ds=>some (.agg ds)|none=>none)|_=>none
def Y4:List AV->ABm (List DV)|[]=>some []|a::r=>match I3 a with|some d=>(match Y4 r with|some ds=>some (d::ds)|none=>none)|none=>none
end
theorem JN(a:AV):∀D,I3 a=some D->D.er=a/\Ok w S D (λ_=>False)/\Dp δ D/\(∀L,Fv L a):=by
 refine AV.rec (motive_1:=λa=>∀D,I3 a=some D->D.er=a/\Ok w S D (λ_=>False)/\Dp δ D/\(∀L,Fv L a=true)) (motive_2:=λ_=>True)
  (motive_3:=λl=>∀ds,Y4 l=some ds->ds.map DV.er=l/\KP w S ds (λ_=>False)/\(∀d∈ds,Dp δ d)/\(∀L,RH L l=true)) ?_ ?_ ?_ ?_ ?_ ?_ ?_ ?_ ?_ ?_ ?_ ?_ ?_ ?_ ?_ ?_ ?_ ?_ a
 intro v D h;simp only[I3]at h;split at h;rename_i B;obtain rfl:=Option.some.inj h;exact⟨ak,.lf _ _ _ ⟨rfl,B⟩ (λ_ h=>h),.lf _ _ trivial,ak⟩;cases h;(intro x k rows _ D h;cases rows with|nil=>simp only[I3]at h;obtain rfl:=Option.some.inj h;exact⟨ak,.lf _ _ _ (Fz.nil x k none 0 (λ_=>rfl)) (λ_ h=>h),.lf _ _ trivial,ak⟩|cons r rs=>simp[I3]at h);(intro b k rows _ D h;cases b with|true=>simp[I3]at h|false=>cases rows with|nil=>simp only[I3]at h;obtain rfl:=Option.some.inj h;exact⟨ak,.nil k _ (λ_ h=>h),.own _ _ _ _,ak⟩|cons r rs=>simp[I3]at h);intro n C D h;simp only[I3]at h;split at h;rename_i ds c;obtain rfl:=Option.some.inj h;obtain⟨q,e,t,g⟩:=C ds c;refine⟨by simp[q],CQ.2 e,.agg _ λi d hd=>t d (List.mem_of_getElem? hd),λL=>by simp only[Fv];exact g L⟩;cases h;intro n _ D h;simp[I3]at h;intro r p D h;simp[I3]at h;intro r p i j k D h;simp[I3]at h;intro n _ D h;simp[I3]at h;intro D h;simp[I3]at h;intro D h;simp[I3]at h;intro f rs D h;simp[I3]at h;intro s o I D h;simp[I3]at h;intro f E _ D h;simp[I3]at h;intro f vs b H D h;simp[I3]at h;trivial;simp_all;intro ds h;simp only[Y4,Option.some.injEq]at h;subst h;exact⟨rfl,λ_ h=>h,ak,λL=>by simp[RH]⟩;intro a l u m ds h;simp only[Y4]at h;split at h;rename_i d hd;split at h;rename_i y c;obtain rfl:=Option.some.inj h;obtain⟨q,e,t,g⟩:=u d hd;obtain⟨F,g2,G,z⟩:=m y c;refine⟨aA,⟨_,_,e,g2,λ_ h=>h.elim,λx=>ak⟩,?_,λL=>by simp[RH,g L,z L]⟩;simp_all;cases h;cases h
def Ya:Ar->Prop|.t _=>True|.c a=>∃D,I3 a=some D
def Cw(δ:ju):Ar->Value|.t s=>(δ s).BD|.c a=>match I3 a with|some D=>D.BD|none=>undef
theorem TE{ds:jw}(c:∀a∈ds.map DV.er,GQ a):∀d∈ds,Dp δ d:=by intro d hd;have b:=c d.er (List.mem_map_of_mem hd);cases d with|lf a v=>refine .lf a v ?_;simp only[Eu]at b;cases a<;>simp_all [GQ,Nn]|own=>exact .own _ _ _ _|agg cs|Bp cs=>simp[GQ]at b
structure Fly (G:Gi) (w:World) (S:Nat->Prop) (δ:Nat->DV) (Fr:Nat->Nat->Prop) (δ':Nat->DV) (F':Nat->Nat->Prop) (D:DV) (Ff:Nat->Prop):Prop where
 st:St G w S δ' F'
 BD:∀s,(δ' s).BD=(δ s).BD
 ok:Ok w S D Ff
 al:Dp δ' D
 Me:∀s x,F' s x->¬Ff x
 own:∀x,BL F' x\/Ff x->BL Fr x
theorem St.tk(h:St G w S δ Fr){x:Ar}{a:AV}(g:Ya x)(m:Abs.tk G x (λs=>(δ s).er)=some (a,τ)):∃z F' D Ff,Fly G w S δ Fr z F' D Ff/\(λs=>(z s).er)=τ/\D.er=a/\D.BD=Cw δ x:=by
 cases x with
 |c c=>obtain⟨D,M⟩:=g;simp only[Abs.tk,Option.some.injEq,Prod.mk.injEq]at m;obtain⟨rfl,rfl⟩:=m;obtain⟨U,V,h3,_⟩:=JN (w:=w) (S:=S) (δ:=δ) c D M;exact⟨δ,Fr,D,_,⟨h,λ_=>rfl,V,h3,λ_ _ _ h=>h,λx g=>g.elim id False.elim⟩,rfl,U,by simp[Cw,M]⟩
 |t s=>
  simp only[Abs.tk]at m;have mZ:∀b,(δ s).er=b->Dt b->∃v,δ s=.lf b v:=by intro b L y;have:=(h.ok s).LA;cases hd:δ s with|lf c v=>simp_all|own|agg=>rw[hd]at L;simp at L;subst L;simp[Dt]at y|Bp=>simp_all
  have n:∀b,(δ s).er=b->Dt b->∃z F' D Ff,Fly G w S δ Fr z F' D Ff/\(λs=>(z s).er)=(λs=>(δ s).er)/\D.er=b/\D.BD=Cw δ (.t s):=by intro b L y;obtain⟨v,X⟩:=mZ b L y;have B:=h.ok s;rw[X]at B;cases B with|lf _ _ _ ha hF=>exact⟨δ,Fr,.lf b v,λ_=>False,⟨h,λ_=>rfl,.lf _ _ _ ha (λ_ h=>h),X▸h.al s,λ_ _ _ h=>h,λx g=>g.elim id False.elim⟩,rfl,ak,by simp[Cw,X]⟩
  cases hs:(δ s).er with|al r p=>(simp only[hs]at m;obtain⟨δ1,F1,D,Ff,I,KD,Dl,M,G1,⟨v,bx,k,rows,rfl⟩,O,P,Eo,bT,Xe⟩:=h.dW m;refine⟨δ1,F1,_,Ff,⟨I,Dl,M,.own _ _ _ _,P,Eo⟩,KD,G1,?_⟩;obtain⟨u,hu⟩:=mZ _ hs rfl;have G6:=h.al s;rw[hu]at G6;cases G6 with|lf _ _ y=>obtain⟨lE,k',Z,y⟩:=y;rw[y]at O;simp only[Option.some.injEq,DV.own.injEq]at O;simp[Cw,hu,O.1])|own b k rows=>simp only[hs,Option.some.injEq,Prod.mk.injEq]at m;obtain⟨rfl,rfl⟩:=m;have I:=h.empty s;refine⟨_,_,δ s,Fr s,⟨I,?_,h.ok s,?_,?_,?_⟩,by rw[JA h];simp,hs,rfl⟩;intro t;rw[IY h];simp_all;(have:=(h.ok s).LA;cases hd:δ s with|own=>exact .own _ _ _ _|lf c v=>(rw[hd]at hs this;cases this with|lf _ _ y=>simp at hs;subst hs;simp[Dt]at y)|agg|Bp=>simp_all);intro t x g W;by_cases e:t=s;subst e;rw[Bb]at g;exact g;rw[B1 _ _ e]at g;exact e (h.Me t s x g W);rintro x (⟨t,g⟩|g);by_cases e:t=s;subst e;rw[Bb]at g;grind;rw[B1 _ _ e]at g;grind;grind|agg cs=>(simp only[hs]at m;obtain⟨ds,H,T⟩:∃ds,δ s=.agg ds/\ds.map DV.er=cs:=by have:=(h.ok s).LA;cases hd:δ s with|agg ds=>simp_all|lf c v=>(rw[hd]at hs this;cases this with|lf _ _ y=>simp at hs;subst hs;simp[Dt]at y)|own|Bp=>simp_all);split at m;rename_i J;simp only[Option.some.injEq,Prod.mk.injEq]at m;obtain⟨rfl,rfl⟩:=m;have B:=h.ok s;rw[H]at B;(have C:KP w S ds (λ_=>False):=by have E:=CQ.1 B;clear B H;rw[<- T]at J;clear T hs;generalize Fr s=F at E;induction ds generalizing F with|nil=>exactλ_ h=>h|cons d ds ih=>obtain⟨F1,Q,U,V,_,_⟩:=E;simp only[List.map_cons,List.all_cons,Bool.and_eq_true]at J;refine⟨λ_=>False,λ_=>False,?_,ih J.2 Q V,λ_ h=>h.elim,λx=>ak⟩;cases U with|lf a v _ ha hF=>exact .lf a v _ ha (λ_ h=>h)|nil|own=>simp[It]at J|agg|Bp=>simp[It]at J);exact⟨δ,Fr,.agg ds,λ_=>False,⟨h,λ_=>rfl,CQ.2 C,H▸h.al s,λ_ _ _ h=>h,λx g=>g.elim id False.elim⟩,rfl,by simp[T],by simp[Cw,H]⟩;split at m;(rename_i l τ' htl;simp only[Option.some.injEq,Prod.mk.injEq]at m;obtain⟨rfl,rfl⟩:=m;have I:=h.empty s;have B:=h.ok s;rw[H]at B;have K:∀d∈ds,Dp δ d:=by have:=h.al s;rw[H]at this;cases this with|agg _ hr=>intro d hd;obtain⟨i,hi⟩:=List.getElem?_of_mem hd;grind);(have hH:Hd δ (C8 (Hw G s δ) s (.lf .dead (δ s).BD)):=by intro r q v bx k rows N;by_cases e:r=s;subst e;rw[Bb]at N;cases q<;>simp[BJ]at N;rw[B1 _ _ e]at N;exact⟨rows,VF s r q N⟩);(have P:∀t x,(C8 Fr s λ_=>False) t x->¬Fr s x:=by intro t x g W;by_cases e:t=s;subst e;rw[Bb]at g;exact g;rw[B1 _ _ e]at g;exact e (h.Me t s x g W));have herr:(λt=>(C8 (Hw G s δ) s (.lf .dead (δ s).BD) t).er)=C8 (KL G s λs=>(δ s).er) s .dead:=(by rw[JA h];simp);obtain⟨δ2,Q,Sm,Ff,Ku,TY,NY,cR,SM,nA,OQ,Kz,_,CG⟩:=I.qO ds (CQ.1 B) K hH P (l:=l) (τ:=τ') am;refine⟨δ2,Q,.agg Sm,Ff,⟨Ku,?_,CQ.2 cR,.agg _ λi d hd=>?_,OQ,?_⟩,TY,by simp[SM],by simp[Cw,H,nA]⟩;intro t;rw[NY,IY h];simp_all;exact TE am d (List.mem_of_getElem? hd);(intro x g;rcases Kz x g with⟨t,R⟩|R);by_cases e:t=s;subst e;rw[Bb]at R;simp_all;rw[B1 _ _ e]at R;grind;grind;cases m|sc v|sl e k rows=>simp only[hs,Option.some.injEq,Prod.mk.injEq]at m;obtain⟨rfl,rfl⟩:=m;exact n _ hs rfl|ME r p i j k|fp cs=>simp only[hs,Option.some.injEq,Prod.mk.injEq]at m;obtain⟨rfl,rfl⟩:=m;exact n _ hs rfl|Bp cs|dead=>simp_all|un|cl f rs=>simp_all|vb s o us|YP f Md=>simp_all|cb=>simp_all
theorem St.SH(h:St G w S δ Fr){a:AV}(g:Abs.SH G k p (λs=>(δ s).er)=some (a,τ)):∃(f:ju)(F':jc)(c:i5)(v:jx)(bx:Bool)(r:Nat)(rows:jm),St G w (λx=>S x\/c x) f F'/\(λs=>(f s).er)=τ/\(∀s,(f s).BD=(δ s).BD)/\BJ (δ k) p=some (.own v bx r rows)/\Fz w (λx=>S x\/c x) a v/\a=KB (DV.own v bx r rows).er/\(∀s x,F' s x->¬c x)/\(∀x,BL F' x\/c x->BL Fr x)/\Hd δ f:=by
 unfold Abs.SH at g;split at g
 . rename_i b r rows T;split at g
   . (rename_i t hp;simp only[Option.some.injEq,Prod.mk.injEq]at g;obtain⟨rfl,rfl⟩:=g;obtain⟨D,B,m⟩:=D8 (h.ok k).LA T;obtain⟨c,C,H,M⟩:=h.replace k p B;have I:∃v bx r rows,D=.own v bx r rows:=by have:=C.LA;cases D with|own v bx r rows=>simp_all|lf a v=>(cases this with|lf _ _ hl=>simp at m;subst m;simp[Dt]at hl)|agg cs|Bp cs=>simp at m);(obtain⟨v,bx,U,K,rfl⟩:=I;have y:Fz w (λx=>S x\/c x) (KB (.own b r rows)) v:=(by have:=C.freeze;rw[m]at this;simpa using this);have n:Ok w (λx=>S x\/c x) (.lf (KB (.own b r rows)) v) (λ_=>False):=by refine .lf _ _ _ ?_ (λ_ h=>h);cases b with|true=>simp only[w9];trivial|false=>simp only[PG]at y |-;exact y);obtain⟨W,F',o,F,Z,X⟩:=M (λx=>S x\/c x) (.lf (KB (.own b r rows)) v) ak n (λ_ h=>.inl h)
      (λt N R J Q=>Q.elim ((h.ok t).E8 N R) J) (by intro L;cases b<;>simp) (.lf _ _ (by cases b<;>simp[Nn]))
     have V:W.er=t:=(by obtain⟨t',z,O⟩:=HC (d:=δ k) (p:=p) (a:=t) (.lf (KB (.own b r rows)) v) (h.ok k).LA am;rw[o]at z;obtain rfl:=Option.some.inj z;exact O);refine⟨_,_,c,v,bx,U,K,F,by rw[JA h,V],?_,B,y,by rw[m],?_,?_,?_⟩;intro s;rw[IY h];simp_all;intro s x i P;by_cases l:s=k;subst l;rw[Bb]at i;simp_all;rw[B1 _ _ l]at i;exact l (h.Me s k x i (H x P));rintro x (⟨s,i⟩|i);by_cases l:s=k;subst l;rw[Bb]at i;grind;rw[B1 _ _ l]at i;grind;grind;intro E q v' lE k' j u;by_cases e:E=k;subst e;rw[Bb]at u;exact XC p o q u;rw[B1 _ _ e]at u;exact⟨j,VF k E q u⟩
   . cases g
 . cases g
theorem St.wr(h:St G w S δ Fr)(g:d.kl=G.Pr d.d)(i:d.rs=G.Gy d.d)(r:∀b,S b->w'.heap[b]? =w.heap[b]?)(p:∀s x,Fr s x->w'.heap[x]? =w.heap[x]?)(m:∀b,S b->S' b)(n:∀s x,Fr s x->¬S' x)(o:Ok w' S' D Ff)(j:∀s x,Fr s x->¬Ff x)(k:Dp δ D)(c:Abs.wr d D.er (λs=>(δ s).er)=some σ'):∃a F',St G w' S' a F'/\(λs=>(a s).er)=σ'/\(∀s,(a s).BD=if s=d.d then D.BD else(δ s).BD)/\(∀x,BL F' x->BL Fr x\/Ff x):=by unfold Abs.wr at c;split at c;rename_i q;simp only[Option.some.injEq]at c;subst c;refine⟨_,_,h.set d.d D Ff r (λs _=>p s) m (λs _=>n s) o (λs _ x f l=>j s x l f) (i▸q) k,?_,λs=>IY h d.d D s,?_⟩;rw[JA h,g,kills_eq];rintro x ⟨s,f⟩;by_cases e:s=d.d;subst e;rw[Bb]at f;grind;rw[B1 _ _ e]at f;grind;grind
end
variable{x:kx}{a:Act}{t:jz}{B:Type}
section
variable{w w':jj}{S S':i5}{G:Gi}{δ:ju}{Fr:jc}{P:jg}
def xV:Value->Value->Bool|.bool a,.bool b=>a==b|.int k a,.int k' b=>decide (k=k')&&decide (a=b)|.string a,.string b=>decide (a.data=b.data)|.pointer none,.pointer none=>true|.slice none 0 0,.slice none 0 0=>true|.nilFunc,.nilFunc=>true|.nilIface,.nilIface=>true|_,_=>false
def Vi:List Value->List Value->Bool|[],[]=>true|a::l,b::r=>xV a b&&Vi l r|_,_=>false
def xW:Value->Value->Bool|.agg a,.agg b=>Vi a.toList b.toList|a,b=>xV a b
theorem o7(h:xV v zv):v=zv:=by unfold xV at h;split at h<;>simp_all;rename_i x y;cases x;simp_all
theorem RK:∀{a b:jt},Vi a b->a=b|[],[],_=>rfl|[],_::_,h=>by simp[Vi]at h|_::_,[],h=>by simp[Vi]at h|a::l,b::r,h=>by simp only[Vi,AAL]at h;rw[o7 h.1,RK h.2]
theorem o8(h:xW v zv):v=zv:=by unfold xW at h;split at h;rename_i x y;have:=RK h;simp_all;exact o7 h
def Cb(x:kx)(y:Ar):Bool:=match x,y with|.tmp s,.t s'=>s==s'|.const v,.c a=>(match I3 a with|some D=>xW v D.BD|none=>false)|.func f,.c a=>(match a with|.sc (.func (.func g) vs us)=>f==g&&vs.isEmpty&&us.isEmpty|_=>false)|_,_=>false
def Rd(δ:ju)(a:Act):Prop:=∀s,a.tmps.getD s undef=(δ s).BD
theorem Av(h:Cb x y)(d:Rd δ a):Ya y/\a.eval x=Cw δ y:=by unfold Cb at h;split at h;simp only[AAb]at h;subst h;exact⟨trivial,d _⟩;rename_i v c;split at h;rename_i D b;exact⟨⟨D,b⟩,by simp[Act.eval,Cw,b,o8 h]⟩;cases h;rename_i f c;split at h;rename_i g vs e;simp only[AAL,AAb,Array.isEmpty_iff]at h;obtain⟨⟨rfl,rfl⟩,rfl⟩:=h;exact⟨⟨_,rfl⟩,rfl⟩;cases h;cases h
def GR:List Operand->List Ar->Bool|[],[]=>true|x::l,y::r=>Cb x y&&GR l r|_,_=>false
def UT:ABm Operand->ABm Ar->Bool|none,none=>true|some x,some y=>Cb x y|_,_=>false
def HX(P:jg)(t:jz):ABm Nat:=(P.info? t).map (·.size)
def Kc(P:jg)(t:jz):ABm Bool:=(P.underlying t).map λ|.struct _=>true|.array _ _=>true|_=>false
theorem run_sizeOf(h:HX P t=some n)(w:jj):(sizeOf t).run P w=.ok n w:=by unfold HX at h;cases hi:P.info? t with|none=>simp_all|some i=>simp only[hi,AAv,AAM]at h;simp[sizeOf,typeInfo,hi,h]
theorem Rw(h:Kc P t=some bx)(w:jj):(isAgg t).run P w=.ok bx w:=by unfold Kc at h;cases hi:P.underlying t with|none=>simp_all|some d=>simp only[hi,AAv,AAM]at h;cases d<;>simp_all [isAgg,underlying]
theorem JI(t:DV)(p q:jf):BJ t (p++q)=(BJ t p).bind (BJ · q):=by induction p generalizing t with|nil=>simp[BJ]|cons s p ih=>obtain⟨i,j,k⟩:=s;cases t with|lf a v=>simp[BJ]|own h b k1 rows=>(simp only[AA3,BJ];cases rows[i]? with|none=>rfl|some row=>simp only[];cases row[j]? with|none=>rfl|some c=>exact ih c)|agg cs|Bp cs=>simp only[AA3,BJ];cases cs[j]? with|none=>rfl|some c=>exact ih c
theorem gA(r:Nat)(p:jf)(l:ji)(i n:Nat):(RP r p i l)[n]? =(l[n]?).map (view r (p++[(0,i+n,0)])):=by induction l generalizing i n with|nil=>simp[RP]|cons c cs ih=>cases n with|zero=>simp[RP]|succ n=>simp only[RP,ABM,ih,Nat.add_assoc,Nat.add_comm 1 n]
theorem Co(h:∀d∈row,Ok w S d (λ_=>False)):KP w S row (λ_=>False):=by induction row with|nil=>exactλ_ h=>h|cons d row ih=>exact⟨_,_,h d ak,ih (λe a=>h e (by simp[a])),λ_ h=>h.elim,λx=>ak⟩
theorem Lz(a:List α)(d:Nat->α->f->Prop)(h:∀i c,a[i]? =some c->∃D,d i c D):∃b:List f,b.length=a.length/\∀i c,a[i]? =some c->∃D,b[i]? =some D/\d i c D:=by induction a generalizing d with|nil=>simp_all|cons c a ih=>obtain⟨D,k⟩:=h 0 c rfl;obtain⟨b,g,j⟩:=ih (λi=>d (i+1)) (λi c' l=>h (i+1) c' am);refine⟨D::b,by simp[g],?_⟩;grind
theorem mem_mk{a:List f}{b:List α}{e:Nat->f->α->Prop}(j:b.length=a.length)(h:∀i c,a[i]? =some c->∃D,b[i]? =some D/\e i c D)(i:Nat)(D:α)(g:b[i]? =some D):∃c,a[i]? =some c/\e i c D:=by
 have hi:i<a.length:=by rw[<- j];exact(AAN.1 g).1
 obtain⟨k,l,m⟩:=h i a[i] (AAT hi);simp_all
theorem map_mk{a:List f}{b:List α}{e:Nat->f->α->Prop}(p:b.length=a.length)(h:∀i c,a[i]? =some c->∃D,b[i]? =some D/\e i c D)(g:α->B)(l:List B)(k:l.length=a.length)(o:∀i c D,e i c D->a[i]? =some c->l[i]? =some (g D)):b.map g=l:=by apply List.ext_getElem?;intro i;by_cases hi:i<a.length;obtain⟨D,m,n⟩:=h i a[i] (AAT hi);grind;simp_all
theorem Vr(r:Nat)(p:jf)(l:ji)(i:Nat):(RP r p i l).length=l.length:=by induction l generalizing i with|nil=>simp[RP]|cons c cs ih=>simp[RP,ih]
theorem viewD(r:Nat)(h:Ok w S new F):∀(p:jf),BJ (δ r) p=some new->Dp δ new->∃D,D.er=view r p new.er/\D.BD=new.BD/\Ok w S D (λ_=>False)/\Dp δ D:=by
 induction h with
 |lf a v F ha hF=>intro p l f;have g:=ha.Dt;refine⟨.lf a v,?_,rfl,.lf a v _ ha (λ_ h=>h),f⟩;cases a<;>simp_all [view,Dt]
 |nil k F hF=>intro p l f;exact⟨.lf (.al r p) (.slice none 0 0),by simp[view],ak,.lf _ _ _ trivial (λ_ h=>h),.lf _ _ ⟨_,_,_,l⟩⟩
 |own bx k rows b c arr E Fs F hb hk Ei MS hv hr hd CB LZ hF ih=>intro p l f;exact⟨.lf (.al r p) (KT bx b rows.length c),by simp[view],ak,.lf _ _ _ trivial (λ_ h=>h),.lf _ _ ⟨_,_,_,l⟩⟩
 |agg cs Fs F hr hd CB hF ih=>
  intro p l f;cases f with
  |agg _ f=>
   obtain⟨o,g,j⟩:=Lz cs (λi d D=>D.er=view r (p++[(0,i,0)]) d.er/\D.BD=d.BD/\Ok w S D (λ_=>False)/\Dp δ D)
    (λi d hd=>ih i d hd _ (by rw[JI,l];simp[BJ,hd]) (f i d hd))
   refine⟨.agg o,?_,?_,CQ.2 (Co λD m=>?_),.agg _ λi D m=>?_⟩;simp only[Is,view,AV.agg.injEq];refine map_mk g j _ _ (by simp[Vr]) λi c D e n=>?_;rw[gA,AAX,n];grind;simp only[MM];congr 2;exact map_mk g j _ _ ak λi c D e n=>am;obtain⟨i,hi⟩:=AAm m;obtain⟨c,_,e⟩:=mem_mk g j i D hi;simp_all;obtain⟨c,_,e⟩:=mem_mk g j i D m;simp_all
 |Bp cs Fs F hr hd CB hF ih=>
  intro p l f;cases f with
  |Bp _ f=>
   obtain⟨o,g,j⟩:=Lz cs (λi d D=>D.er=view r (p++[(0,i,0)]) d.er/\D.BD=d.BD/\Ok w S D (λ_=>False)/\Dp δ D)
    (λi d hd=>ih i d hd _ (by rw[JI,l];simp[BJ,hd]) (f i d hd))
   refine⟨.Bp o,?_,?_,Bj.2 (Co λD m=>?_),.Bp _ λi D m=>?_⟩;simp only[K7,view,AV.Bp.injEq];refine map_mk g j _ _ (by simp[Vr]) λi c D e n=>?_;rw[gA,AAX,n];grind;simp only[O6];congr 2;exact map_mk g j _ _ ak λi c D e n=>am;obtain⟨i,hi⟩:=AAm m;obtain⟨c,_,e⟩:=mem_mk g j i D hi;simp_all;obtain⟨c,_,e⟩:=mem_mk g j i D m;simp_all
theorem kX(r:Nat)(p:jf)(i k j:Nat)(l:ji):(RO r p i k j l).length=l.length:=by induction l generalizing j with|nil=>simp[RO]|cons c cs ih=>simp[RO,ih]
theorem viewC_get(r:Nat)(p:jf)(i k j n:Nat)(l:ji):(RO r p i k j l)[n]? =(l[n]?).map (vC r p i (j+n) k):=by induction l generalizing j n with|nil=>simp[RO]|cons c cs ih=>cases n with|zero=>simp[RO]|succ n=>simp only[RO,ABM,ih,Nat.add_assoc,Nat.add_comm 1 n]
theorem kY(s j:Nat)(l:ji):(Nl s j l).length=l.length:=by induction l generalizing j with|nil=>simp[Nl]|cons c cs ih=>simp[Nl,ih]
theorem viewF_get(s j n:Nat)(l:ji):(Nl s j l)[n]? =(l[n]?).map (vF s (j+n)):=by induction l generalizing j n with|nil=>simp[Nl]|cons c cs ih=>cases n with|zero=>simp[Nl]|succ n=>simp only[Nl,ABM,ih,Nat.add_assoc,Nat.add_comm 1 n]
end
variable{z:ji}{vs:jt}
section
variable{w w':jj}{S S':i5}{G:Gi}{δ:ju}{Fr:jc}{P:jg}
def Lf(w:jj)(S:i5)(δ:ju)(a:AV)(v:jx):Prop:=∃D:DV,D.er=a/\D.BD=v/\Ok w S D (λ_=>False)/\Dp δ D
theorem Lf.sc(v:jx)(h:Gp v):Lf w S δ (.sc v) v:=⟨.lf (.sc v) v,ak,ak,.lf _ _ _ ⟨rfl,h⟩ (λ_ h=>h),.lf _ _ trivial⟩
theorem Lf.al{r:Nat}(h:BJ (δ r) p=some (.own v bx k rows)):Lf w S δ (.al r p) v:=⟨.lf (.al r p) v,ak,ak,.lf _ _ _ trivial (λ_ h=>h),.lf _ _ ⟨_,_,_,h⟩⟩
theorem Lf.ME{r:Nat}(h:BJ (δ r) p=some (.own v bx k rows))(a:Uj v=some b):Lf w S δ (.ME r p i n k) (.pointer (some ⟨b,i*k+n,none⟩)):=⟨.lf (.ME r p i n k) _,ak,ak,.lf _ _ _ trivial (λ_ h=>h),.lf _ _ ⟨_,_,_,_,h,a,rfl⟩⟩
theorem Lf.fp(d:S b)(h:∀(j:Nat) a,z[j]? =some a->∃u,w.cell? ⟨b,off+j,none⟩=some u/\Fz w S a u):Lf w S δ (.fp z) (.pointer (some ⟨b,off,none⟩)):=⟨.lf (.fp z) _,ak,ak,.lf _ _ _ ⟨b,off,rfl,d,h⟩ (λ_ h=>h),.lf _ _ trivial⟩
theorem St.leaf(h:St G w S δ Fr){s:Nat}{a:AV}(c:(δ s).er=a)(d:Dt a):δ s=.lf a (δ s).BD/\IG w S a (δ s).BD/\Nn δ a (δ s).BD:=by have e:=h.ok s;have f:=h.al s;cases hd:δ s with|lf b v=>(rw[hd]at c e f;simp only[Eu]at c;subst c;cases e with|lf _ _ _ ha _=>cases f with|lf _ _ d=>simp_all)|own|agg=>rw[hd]at c;simp at c;subst c;simp[Dt]at d|Bp=>rw[hd]at c;simp at c;subst c;simp[Dt]at d
theorem St.FJ(h:St G w S δ Fr)(g:Ya y)(d:ar (λs=>(δ s).er) y=.sc v):Cw δ y=v/\Gp v:=by cases y with|t s=>obtain⟨_,e,_⟩:=h.leaf (s:=s) d rfl;exact⟨e.1,e.2⟩|c a=>obtain⟨D,b⟩:=g;simp only[ar]at d;subst d;simp only[I3]at b;split at b;rename_i f;obtain rfl:=AAO b;exact⟨by simp[Cw,I3,f],f⟩;cases b
theorem QY{a:AV}{n:Int}(h:wG a=some n):∃k,a=.sc (.int k n):=by unfold wG at h;grind
theorem St.node(h:St G w S δ Fr)(g:(δ n).er=.al i p){rows:jh}(hn:sub (δ i).er p=some (.own bx k rows)):∃a F,BJ (δ i) p=some (.own (δ n).BD bx k a)/\a.map (·.map DV.er)=rows/\Ok w S (.own (δ n).BD bx k a) F:=by obtain⟨_,_,f⟩:=h.leaf g rfl;obtain⟨m,l,b,e⟩:=f;obtain⟨D,d,c⟩:=D8 (h.ok i).LA hn;rw[e]at d;obtain rfl:=AAO d;simp only[FO,AV.own.injEq]at c;obtain⟨rfl,rfl,r⟩:=c;obtain⟨F,j,_⟩:=(h.ok i).BJ e;grind
theorem St.Zf(h:St G w S δ Fr){rows:jh}(a:(δ n).er=.own bx k rows):∃c,δ n=.own (δ n).BD bx k c/\c.map (·.map DV.er)=rows:=by have:=(h.ok n).LA;cases hd:δ n with|own v b k' rows'=>simp_all|lf b v=>(rw[hd]at a this;cases this with|lf _ _ hl=>simp at a;subst a;simp[Dt]at hl)|agg|Bp=>simp_all
theorem St.EL(h:St G w S δ Fr){j:Nat}(a:Abs.EL (λn=>(δ n).er) (.t n)=some (b,p,i,j,k)):∃v bx d r F,BJ (δ b) p=some (.own v bx k d)/\Uj v=some r/\(δ n).BD=.pointer (some ⟨r,i*k+j,none⟩)/\Ok w S (.own v bx k d) F/\(∀x,F x->Fr b x):=by simp only[Abs.EL]at a;cases hs:(δ n).er with|ME r' p' i' j' o=>simp only[hs,AAM,AAa]at a;obtain⟨rfl,rfl,rfl,rfl,rfl⟩:=a;obtain⟨_,_,u⟩:=h.leaf hs rfl;obtain⟨v,bx,rows,r,e,f,C⟩:=u;obtain⟨F,s,l⟩:=(h.ok _).BJ e;grind|own bx o rows=>(cases bx with|false=>simp_all|true=>simp only[hs,AAM,AAa]at a;obtain⟨rfl,rfl,rfl,rfl,rfl⟩:=a;obtain⟨d,hd,_⟩:=h.Zf hs;have m:=h.ok n;rw[hd]at m;generalize z:(δ n).BD=v at*;cases m with|own _ _ _ r c arr E Fs _ f hk Ei MS xK hr Qi CB LZ s=>exact⟨KT true r d.length c,true,d,r,Fr n,by simp[BJ,hd],ak,by simp[KT],by rw[<- hd];exact h.ok n,λx B=>B⟩)|al r' p'=>simp only[hs]at a;split at a;(rename_i o g hn;simp only[AAM,AAa]at a;obtain⟨rfl,rfl,rfl,rfl,rfl⟩:=a;obtain⟨d,F,e,_,s⟩:=h.node hs hn;obtain⟨q,y,l⟩:=(h.ok _).BJ e;generalize z:(δ n).BD=v at*;cases y with|own _ _ _ r c arr E Fs _ f hk Ei MS xK hr Qi CB LZ ZE=>exact⟨KT true r d.length c,true,d,r,q,e,ak,by simp[KT],.own true _ _ r c arr E Fs _ f hk Ei MS xK hr Qi CB LZ ZE,l⟩);cases a|_=>simp_all
theorem Ni(hn:HX P t=some n)(c:Kc P t=some bx)(e:bx=true\/n=1)(d:vs.length=n)(f:∀(j:Nat) v,vs[j]? =some v->w.cell? ⟨b,off+j,none⟩=some v):(loadVar t ⟨b,off,none⟩).run P w=.ok (if bx=true then .agg vs.toArray else vs.headD undef) w:=by cases bx with|true=>have:=run_loadCells_list (P:=P) w ⟨b,off,none⟩ vs (λj v h=>by rw[Addr.add_lit];simp_all);rw[d]at this;simp[loadVar,Rw c,run_sizeOf hn,this]|false=>obtain rfl:=e.resolve_left ak;match vs,d with|[v],_=>have a:=f 0 v rfl;simp only[Nat.add_zero]at a;simp[loadVar,Rw c,a]
theorem gather{v:AV}(a:Iv bx n z=some v)(b:jw)(e:b.map DV.er=z)(g:∀D∈b,Ok w S D (λ_=>False))(h:∀D∈b,Dp δ D):z.length=n/\Lf w S δ v (if bx=true then .agg (b.map DV.BD).toArray else(b.map DV.BD).headD undef):=by unfold Iv at a;split at a;(rename_i hn;refine⟨hn,?_⟩;cases bx with|true=>simp only[AAq,AAM]at a;subst a;exact⟨.agg b,by simp[e],ak,CQ.2 (Co g),.agg _ λi d hd=>h d (AAZ hd)⟩|false=>simp only[AAU,AAd]at a;split at a;(rename_i c;simp only[AAM]at a;subst a;match b,e with|[D],e=>simp only[AAf,AAy,ABl,and_true]at e;exact⟨D,e,ak,g D ak,h D ak⟩);cases a);cases a
theorem ZA{a:AV}(h:Fz w S a v):∃D:DV,D.er=Ke a/\D.BD=v/\Ok w S D (λ_=>False)/\Dp δ D:=by cases h with|sc v hp=>exact⟨.lf (.sc v) v,by simp[Ke],ak,.lf _ _ _ ⟨rfl,hp⟩ (λ_ h=>h),.lf _ _ trivial⟩|nil x k a c hx=>exact⟨.lf (.sl x k []) _,by simp[Ke],ak,.lf _ _ _ (Fz.nil x k a c hx) (λ_ h=>h),.lf _ _ trivial⟩|sl x k rows b off c vs hx Qj hS hk hc hr=>exact⟨.lf (.sl x k rows) _,by simp[Ke],ak,.lf _ _ _ (Fz.sl x k rows b off c vs hx Qj hS hk hc hr) (λ_ h=>h),.lf _ _ trivial⟩|dead=>exact⟨.lf .dead v,by simp[Ke],ak,.lf _ _ _ trivial (λ_ h=>h),.lf _ _ trivial⟩|agg cs vs|Bp cs vs=>exact⟨.lf .dead _,by simp[Ke],rfl,.lf _ _ _ trivial (λ_ h=>h),.lf _ _ trivial⟩
end
variable{o:Oper}{s:kx}{j r:Ar}
section
variable{w w':jj}{S S':i5}{G:Gi}{δ:ju}{Fr:jc}{P:jg}
def Gives(P:jg)(w:jj)(S:i5)(δ:ju)(a:Act)(o:Oper)(v:AV):Prop:=∃u,(execOp a.eval o).run P w=.ok (.value u) w/\Lf w S δ v u
theorem Uf(h:St G w S δ Fr)(k:Rd δ a)(b:o.op=.move x\/o.op=.assign x)(l:Cb x y){v:AV}(d:valOf (.cp y) (λs=>(δ s).er)=some v):Gives P w S δ a o v:=by obtain⟨n,m⟩:=Av l k;refine⟨Cw δ y,by rcases b with b|b<;>simp[execOp,b,m],?_⟩;cases y with|t s=>simp only[valOf,AAM]at d;subst d;obtain⟨D,e,f,g,j⟩:=viewD (δ:=δ) s (h.ok s) [] (by simp[BJ]) (h.al s);exact⟨D,e,f,g,j⟩|c c=>simp only[valOf,AAM]at d;subst d;obtain⟨D,i⟩:=n;obtain⟨e,f,g,_⟩:=JN (w:=w) (S:=S) (δ:=δ) c D i;exact⟨D,e,by simp[Cw,i],f,g⟩
theorem sX(h:St G w S δ Fr)(e:Rd δ a){y:kx}{n:Ar}(i:o.op=.pick s x y)(m:Cb s j)(t:Cb x r)(z:Cb y n){v:AV}(d:valOf (.pick j r n) (λc=>(δ c).er)=some v):Gives P w S δ a o v:=by obtain⟨C,g⟩:=Av m e;obtain⟨k,p⟩:=Av t e;obtain⟨l,q⟩:=Av z e;simp only[valOf]at d;split at d;rename_i b B;obtain⟨f,_⟩:=h.FJ C B;split at d;(rename_i u c';simp only[AAM]at d;subst d;refine⟨u,?_,?_⟩;(cases b with|true=>have:=(h.FJ k (by simpa using c')).1;simp[execOp,i,g,f,asBool,p,this]|false=>have:=(h.FJ l (by simpa using c')).1;simp[execOp,i,g,f,asBool,q,this]);cases b with|true=>exact Lf.sc u (h.FJ k am).2|false=>exact Lf.sc u (h.FJ l am).2);cases d;cases d
theorem uJ(h:Ok w S (.own v bx k rows) F)(C:BJ (δ n) p=some (.own v bx k rows))(B:Uj v=some b)(hi:rows[i]? =some row)(j r:Nat):∃l:List DV,l.map DV.er=RO n p i k j (((row.map DV.er).drop j).take r)/\(∀D∈l,Ok w S D (λ_=>False))/\(∀D∈l,Dp δ D)/\(∀(m:Nat) u,(l.map DV.BD)[m]? =some u->w.cell? ⟨b,i*k+j+m,none⟩=some u):=by generalize z:v=v' at h;cases h with|nil=>simp at hi|own _ _ _ b' c arr E Fs _ hbb hk Ei MS hv hr hd CB LZ hF=>subst z;simp only[ZF,AAM]at B;subst B;obtain⟨l,g,s⟩:=Lz ((row.drop j).take r) (λm d D=>D.er=vC n p i (j+m) k d.er/\D.BD=d.BD/\Ok w S D (λ_=>False)/\Dp δ D/\w.cell? ⟨b',i*k+j+m,none⟩=some D.BD) (by(intro m d o;have t:row[j+m]? =some d:=by rw[ABN]at o;split at o;simpa using o;cases o);(have H:=hr i (j+m) row d hi t;have f:w.cell? ⟨b',i*k+j+m,none⟩=some d.BD:=by simp only[World.cell?,hbb];have:=hv i (j+m) row d hi t;rw[show i*k+j+m=i*k+(j+m)from by omega];simpa using this);cases H with|lf a v _ ha s8=>(have g:=ha.Dt;cases a with|sc u=>exact⟨.lf (.sc u) v,by simp[vC],ak,.lf _ _ _ ha (λ_ h=>h),.lf _ _ trivial,f⟩|sl x k' rows'=>exact⟨.lf (.sl x k' rows') v,by simp[vC],ak,.lf _ _ _ ha (λ_ h=>h),.lf _ _ trivial,f⟩|own|agg=>simp[Dt]at g|Bp=>simp[Dt]at g|_=>exact⟨.lf .dead v,by simp[vC],ak,.lf _ _ _ trivial (λ_ h=>h),.lf _ _ trivial,by simpa using f⟩)|nil k' _ s8=>exact⟨.lf (.al n (p++[(i,j+m,k)])) (.slice none 0 0),by simp[vC],ak,.lf _ _ _ trivial (λ_ h=>h),.lf _ _ ⟨false,k',[],by rw[JI,C];simp[BJ,hi,t]⟩,by simpa using f⟩|own lE k' rows' b'' c' arr' E' Fs' _ g1 g2 g3 g4 g5 g6 g7 g8 g9 g10=>exact⟨.lf (.al n (p++[(i,j+m,k)])) (KT lE b'' rows'.length c'),by simp[vC],ak,.lf _ _ _ trivial (λ_ h=>h),.lf _ _ ⟨lE,k',rows',by rw[JI,C];simp[BJ,hi,t]⟩,by simpa using f⟩|agg cs=>exact⟨.lf .dead (.agg (cs.map DV.BD).toArray),by simp[vC],ak,.lf _ _ _ trivial (λ_ h=>h),.lf _ _ trivial,by simpa using f⟩|Bp cs=>exact⟨.lf .dead (.tuple (cs.map DV.BD).toArray),by simp[vC],ak,.lf _ _ _ trivial (λ_ h=>h),.lf _ _ trivial,by simpa using f⟩);refine⟨l,?_,?_,?_,?_⟩;refine map_mk g s _ _ (by simp[kX]) λm d D e o=>?_;rw[viewC_get,<- List.map_drop,<- List.map_take,AAX,o];simp[e.1];intro D q;obtain⟨m,y⟩:=AAm q;obtain⟨c,_,e⟩:=mem_mk g s m D y;exact e.2.2.1;intro D q;obtain⟨m,y⟩:=AAm q;obtain⟨c,_,e⟩:=mem_mk g s m D y;exact e.2.2.2.1;intro m u G;rw[AAX,AAx]at G;obtain⟨D,q,rfl⟩:=G;obtain⟨c,_,e⟩:=mem_mk g s m D q;exact e.2.2.2.2
theorem Tn(h:St G w S δ Fr)(x:(δ k).er=.agg z){agg:Bool}{v:AV}(H:Iv agg n (Nl k off ((z.drop off).take n))=some v):∃vals:List Value,(δ k).BD=.agg vals.toArray/\((vals.drop off).take n).length=n/\Lf w S δ v (if agg=true then .agg ((vals.drop off).take n).toArray else((vals.drop off).take n).headD undef):=by
 obtain⟨ds,q,C⟩:∃ds,δ k=.agg ds/\ds.map DV.er=z:=by have:=(h.ok k).LA;cases hd:δ k with|agg ds=>simp_all|lf c v=>(rw[hd]at x this;cases this with|lf _ _ g=>simp at x;subst x;simp[Dt]at g)|own|Bp=>simp_all
 have y:=h.ok k;have o:=h.al k;rw[q]at y o;cases y with
 |agg _ Fs _ hr Qi CB hF=>
  cases o with
  |agg _ o=>
   obtain⟨r,g,p⟩:=Lz ((ds.drop off).take n) (λm d D=>D.er=vF k (off+m) d.er/\D.BD=d.BD/\Ok w S D (λ_=>False)/\Dp δ D) (by(intro m d f;have hd:ds[off+m]? =some d:=by rw[ABN]at f;split at f;simp_all;cases f);have e:=hr _ d hd;have j:=o _ d hd;cases d with|lf a u=>(have E:=e.LA;cases E with|lf _ _ mZ=>cases e with|lf _ _ _ ha ZE=>refine⟨.lf a u,?_,rfl,.lf _ _ _ ha (λ_ h=>h),j⟩;simp only[Eu];cases a<;>simp_all [vF,Dt])|own u bx s rows=>refine⟨.lf (.al k [(0,off+m,0)]) u,by simp[vF],ak,.lf _ _ _ trivial (λ_ h=>h),.lf _ _ ⟨bx,s,rows,by simp[BJ,q,hd]⟩⟩|agg l=>exact⟨.lf .dead (DV.agg l).BD,by simp[vF],ak,.lf _ _ _ trivial (λ_ h=>h),.lf _ _ trivial⟩|Bp l=>exact⟨.lf .dead (DV.Bp l).BD,by simp[vF],ak,.lf _ _ _ trivial (λ_ h=>h),.lf _ _ trivial⟩);have F:r.map DV.er=Nl k off ((z.drop off).take n):=map_mk g p _ _ (by rw[kY,<- C];simp) λi d D b hd=>(by rw[viewF_get,<- C,<- List.map_drop,<- List.map_take,AAX,hd,b.1];rfl);have I:r.map DV.BD=((ds.map DV.BD).drop off).take n:=map_mk g p _ _ ak λi d D b hd=>aA;obtain⟨B,E⟩:=gather (w:=w) (S:=S) (δ:=δ) H r F (λD t=>by obtain⟨m,f⟩:=AAm t;obtain⟨c,_,b⟩:=mem_mk g p m D f;simp_all)
    (λD t=>by obtain⟨m,f⟩:=AAm t;obtain⟨c,_,b⟩:=mem_mk g p m D f;simp_all)
   refine⟨ds.map DV.BD,am,?_,?_⟩;all_goals grind
theorem Ug(h:St G w S δ Fr)(ha:Rd δ a)(ho:o.op=.load t x)(hn:HX P t=some n)(hg:Kc P t=some bx)(M:bx=true\/n=1)(V:Cb x y){v:AV}(d:valOf (.ld bx n y) (λs=>(δ s).er)=some v):Gives P w S δ a o v:=by
 obtain⟨hy,he⟩:=Av V ha;cases y with
 |c c=>simp[valOf]at d
 |t s=>
  have key:∀(b off:Nat)(B:jw),(δ s).BD=.pointer (some ⟨b,off,none⟩)->Iv bx n (B.map DV.er)=some v->(∀D∈B,Ok w S D (λ_=>False))->(∀D∈B,Dp δ D)->(∀(m:Nat) u,(B.map DV.BD)[m]? =some u->w.cell? ⟨b,off+m,none⟩=some u)->Gives P w S δ a o v:=by intro b off B E TV R G6 H;obtain⟨C,qJ⟩:=gather TV B rfl R G6;refine⟨_,?_,qJ⟩;have:=Ni (P:=P) (w:=w) (b:=b) (off:=off) (vs:=B.map DV.BD) hn hg M (by simpa using C) H;simp only[execOp,ho,he,Cw,E,Instr.loadAt,Instr.sureAddr,Sem.run_bind,Sem.run_pure,Result.andThen_ok,this]
  simp only[valOf]at d;cases hs:(δ s).er with|fp cs=>simp only[hs]at d;obtain⟨_,L,_⟩:=h.leaf hs rfl;obtain⟨b,off,E,hS,H⟩:=L;obtain⟨B,Q,O⟩:=Lz (cs.take n) (λm c D=>D.er=Ke c/\w.cell? ⟨b,off+m,none⟩=some D.BD/\Ok w S D (λ_=>False)/\Dp δ D) (by intro m c I;rw[ABN]at I;split at I;obtain⟨u,J,hf⟩:=H m c I;obtain⟨D,K,L,T,U⟩:=ZA (δ:=δ) hf;exact⟨D,K,by rw[L];exact J,T,U⟩;cases I);refine key b off B E ?_ ?_ ?_ ?_;(rw[<- d];congr 1;exact map_mk Q O _ _ ak λi c D l V=>by simp only[AAX,V,AAv,l.1]);intro D z;obtain⟨m,I⟩:=AAm z;obtain⟨c,_,l⟩:=mem_mk Q O m D I;exact l.2.2.1;intro D z;obtain⟨m,I⟩:=AAm z;obtain⟨c,_,l⟩:=mem_mk Q O m D I;exact l.2.2.2;intro m u J;rw[AAX,AAx]at J;obtain⟨D,z,rfl⟩:=J;obtain⟨c,_,l⟩:=mem_mk Q O m D z;exact l.2.1|cb f vs b ss=>simp only[hs]at d;split at d;(rename_i e;obtain⟨rfl,rfl⟩:=e;obtain rfl:=AAO d;obtain⟨_,⟨E,hS,H⟩,_⟩:=h.leaf hs rfl;refine key b 0 [.lf (.sc (.func (.func f) #[] (vs++[Value.pointer (some ⟨b,0,none⟩)]).toArray)) (.func (.func f) #[] (vs++[Value.pointer (some ⟨b,0,none⟩)]).toArray)] E (by simp[Iv]) ?_ ?_ ?_;intro D z;rw[AAg]at z;subst z;exact .lf _ _ _ ⟨rfl,rfl⟩ (λ_ h=>h);intro D z;rw[AAg]at z;subst z;exact .lf _ _ trivial;intro m u J;cases m with|zero=>simp only[AAf,Mk,AA9,AAM]at J;subst J;rw[E]at H;exact H|succ m=>simp at J);cases d|vb q off us=>simp only[hs]at d;obtain⟨_,⟨b,E,hS,H⟩,Dl⟩:=h.leaf hs rfl;split at d;(rename_i cs hq;obtain⟨vals,hva,C,qJ⟩:=Tn h hq d;have Z:vals=us:=by have K:(δ q).BD=.agg us.toArray:=Dl;rw[hva,Value.agg.injEq]at K;have:=congrArg Array.toList K;simpa using this);subst Z;refine⟨_,?_,qJ⟩;have:=Ni (P:=P) (w:=w) (b:=b) (off:=off) (vs:=(vals.drop off).take n) hn hg M C (λj v N=>by rw[ABN]at N;split at N;rw[List.getElem?_drop]at N;exact H _ v N;cases N);simp only[execOp,ho,he,Cw,E,Instr.loadAt,Instr.sureAddr,Sem.run_bind,Sem.run_pure,Result.andThen_ok,this];cases d|_=>simp only[hs]at d;split at d;rename_i r p i j k Xc;obtain⟨vh,g,A4,b,F,Cc,hb,E,R,_⟩:=h.EL Xc;split at d;rename_i lE k' rows W;obtain⟨D,z,G1⟩:=D8 (h.ok r).LA W;rw[Cc]at z;obtain rfl:=AAO z;simp only[FO,AV.own.injEq]at G1;obtain⟨rfl,rfl,rfl⟩:=G1;split at d;rename_i row FP;rw[AAX,AAx]at FP;obtain⟨NR,X,rfl⟩:=FP;obtain⟨B,K,L,T,U⟩:=uJ R Cc hb X j n;exact key b (i*k+j) B E (by rw[K];exact d) L T U;cases d;cases d;cases d
end
variable{E:Array Field}{e:jz}{op:BinOp}{J K:IntKind}
section
variable{w w':jj}{S S':i5}{G:Gi}{δ:ju}{Fr:jc}{P:jg}
theorem RI{a:Field}(g:P.underlying t=some (.struct E))(e:E[k]? =some a)(hn:HX P a.type=some n)(d:n≠0)(b off:Nat)(w:jj):(Instr.fieldAt t (.pointer (some ⟨b,off,none⟩)) k).run P w=.ok (.pointer (some ⟨b,off+a.offset,none⟩)) w:=by simp[Instr.fieldAt,underlying,g,e,Instr.sureAddr,fieldPlace,run_sizeOf hn,d,Addr.add_lit]
theorem fB(h:St G w S δ Fr)(M:Rd δ a)(B:o.op=.fieldAddr t x k){e:Field}(C:P.underlying t=some (.struct E))(z:E[k]? =some e)(J:e.offset=off)(hn:HX P e.type=some n)(l:n≠0)(O:Cb x y){v:AV}(d:valOf (.W0 off y) (λs=>(δ s).er)=some v):Gives P w S δ a o v:=by obtain⟨U,u⟩:=Av O M;subst J;cases y with|c c=>simp[valOf]at d|t s=>simp only[valOf]at d;cases hs:(δ s).er with|fp cs=>simp only[hs,AAM]at d;subst d;obtain⟨_,L,_⟩:=h.leaf hs rfl;obtain⟨b,off,g,m,D⟩:=L;refine⟨.pointer (some ⟨b,off+e.offset,none⟩),?_,Lf.fp m λj a T=>?_⟩;simp only[execOp,B,u,Cw,g,Sem.run_bind,RI C z hn l,Result.andThen_ok,Sem.run_pure];grind|vb q o us=>simp only[hs,AAM]at d;subst d;obtain⟨_,⟨b,g,m,D⟩,I⟩:=h.leaf hs rfl;refine⟨.pointer (some ⟨b,o+e.offset,none⟩),?_,⟨.lf (.vb q (o+e.offset) us) _,ak,ak,.lf _ _ _ ⟨b,rfl,m,D⟩ (λ_ h=>h),.lf _ _ I⟩⟩;simp only[execOp,B,u,Cw,g,Sem.run_bind,RI C z hn l,Result.andThen_ok,Sem.run_pure]|_=>simp only[hs]at d;split at d;rename_i r p i j f K;simp only[AAM]at d;subst d;obtain⟨V,bx,Q,b,F,H,N,g,R,_⟩:=h.EL K;refine⟨.pointer (some ⟨b,i*f+(j+e.offset),none⟩),?_,Lf.ME H N⟩;simp only[execOp,B,u,Cw,g,Sem.run_bind,RI C z hn l,Result.andThen_ok,Sem.run_pure,Nat.add_assoc];cases d
theorem run_indexAt_slice(g:P.underlying t=some (.slice e))(f:HX P e=some k){h:IntKind}{len:Int}(a:0<=len)(d:len<n)(w:jj):(Instr.indexAt t (.slice (some ⟨b,off,none⟩) n i) (.int h len)).run P w=.ok (.pointer (some ⟨b,off+len.toNat*k,none⟩)) w:=by simp[Instr.indexAt,asIntOf,underlying,g,a,d,run_sizeOf f,Addr.add_lit]
theorem St.s9(h:St G w S δ Fr){x:Ar}(B:Ya x){n:AV}{q:kp}(d:hd (λs=>(δ s).er) x=some (n,q)):(∀b k rows,n=.own b k rows->∃f F,f.map (·.map DV.er)=rows/\Ok w S (.own (Cw δ x) b k f) F/\∀r p,q=some (r,p)->BJ (δ r) p=some (.own (Cw δ x) b k f))/\(∀e k rows,n=.sl e k rows->(∃s,x=.t s/\(δ s).er=.sl e k rows)->Fz w S (.sl e k rows) (Cw δ x)):=by cases x with|c c=>obtain⟨D,o⟩:=B;obtain⟨g,i,m,_⟩:=JN (w:=w) (S:=S) (δ:=δ) c D o;constructor;rintro b k rows rfl;simp only[hd]at d;split at d;(simp only[AAM,AAa,AV.own.injEq]at d;obtain⟨⟨rfl,rfl,rfl⟩,rfl⟩:=d;cases D with|own v b' k'' f=>simp only[FO,AV.own.injEq]at g;obtain⟨rfl,rfl,j⟩:=g;exact⟨f,_,j,by simpa[Cw,o]using i,ak⟩|lf a v=>(simp only[Eu]at g;subst g;cases i with|lf _ _ _ ha _=>exact ha.elim)|agg|Bp=>simp at g);cases d;simp_all|t s=>simp only[hd]at d;constructor;(rintro b k rows rfl;cases hs:(δ s).er with|al r p=>simp only[hs]at d;split at d;rename_i C hn;simp only[AAM,AAa]at d;obtain⟨rfl,rfl⟩:=d;obtain⟨f,F,g,i,m⟩:=h.node hs hn;exact⟨f,F,i,m,by rintro E p' ⟨⟩;exact g⟩;cases d|own b' k' rows'=>simp only[hs,AAM,AAa]at d;obtain⟨g,rfl⟩:=d;obtain⟨f,l,z⟩:=h.Zf (hs.trans g);refine⟨f,Fr s,z,?_,?_⟩;have:=h.ok s;rw[l]at this;simpa[Cw]using this;rintro r p ⟨⟩;simpa[BJ,Cw]using l|sl e' k' rows'=>simp_all|_=>simp_all);rintro e k rows rfl ⟨H,u,y⟩;cases u;exact(h.leaf y rfl).2.1
theorem fC(h:St G w S δ Fr)(L:Rd δ a)(T:o.op=.indexAddr t x s)(U:P.underlying t=some (.slice e))(O:HX P e=some k)(hc:Cb x y)(NS:Cb s j){v:AV}(d:valOf (.WL k y j) (λi=>(δ i).er)=some v):Gives P w S δ a o v:=by obtain⟨I,M⟩:=Av hc L;obtain⟨N,g⟩:=Av NS L;simp only[valOf]at d;split at d;rename_i l rows r p n f hn;split at d;(rename_i q;obtain⟨rfl,z,h1⟩:=q;simp only[AAM]at d;subst d;obtain⟨kk,hn⟩:=QY hn;obtain⟨u,_⟩:=h.FJ N hn;obtain⟨K,F,R,W,YJ⟩:=(h.s9 I f).1 _ _ _ rfl;have V:=YJ r p rfl;generalize Cw δ y=vh at*;have Q:K.length=rows.length:=(by rw[<- R];simp);cases W with|nil=>grind|own _ _ _ b c arr E Fs _ hb gG Ei MS xK hr Qi CB LZ hF=>refine⟨.pointer (some ⟨b,n.toNat*l+0,none⟩),?_,Lf.ME V ak⟩;simp only[execOp,T,M,g,u,KT,Sem.run_bind,AAU,AAd,run_indexAt_slice U O z (show n<(K.length:Nat)by omega),Result.andThen_ok,Sem.run_pure];simp);cases d;rename_i ee l rows pl n f hn;split at d;((rename_i q;obtain⟨rfl,z⟩:=q;obtain⟨kk,hn⟩:=QY hn;obtain⟨u,_⟩:=h.FJ N hn;rw[AAx]at d;obtain⟨row,X,rfl⟩:=d;have H:∃i,y=.t i/\(δ i).er=.sl ee l rows:=by cases y with|c c=>obtain⟨D,B⟩:=I;simp only[hd]at f;grind|t i=>refine⟨i,rfl,?_⟩;simp only[hd]at f;cases hs:(δ i).er with|sl e2 k2 Fk=>simp_all|al r p=>simp only[hs]at f;split at f;rename_i n' C;simp only[AAM,AAa]at f;obtain⟨rfl,_⟩:=f;obtain⟨_,_,G6⟩:=h.leaf hs rfl;obtain⟨lE,k2,J,hl⟩:=G6;obtain⟨D,B,Z⟩:=D8 (h.ok r).LA C;rw[hl]at B;obtain rfl:=AAO B;simp at Z;cases f|own=>simp_all|_=>simp_all);have OD:=(h.s9 I f).2 _ _ _ rfl H;have EU:n.toNat<rows.length:=(AAN.1 X).1;generalize Cw δ y=vh at*;cases OD with|nil=>grind|sl _ _ _ b off c vs hx Qj hS gG CG hr=>refine⟨.pointer (some ⟨b,off+n.toNat*l,none⟩),?_,Lf.fp hS λm a R=>?_⟩;simp only[execOp,T,M,g,u,Sem.run_bind,run_indexAt_slice U O z (show n<(rows.length:Nat)by omega),Result.andThen_ok,Sem.run_pure];grind);cases d;cases d
theorem gives_bin(h:St G w S δ Fr)(z:Rd δ a)(p:o.op=.binOp op t x s e)(H:Cb x y)(F:Cb s j){v:AV}(b:valOf (.bin op y j) (λD=>(δ D).er)=some v):Gives P w S δ a o v:=by
 obtain⟨B,g⟩:=Av H z;obtain⟨C,i⟩:=Av F z;simp only[valOf]at b;unfold binF at b;split at b
 . rename_i k n K m E l;obtain⟨d,_⟩:=h.FJ B E;obtain⟨u,_⟩:=h.FJ C l;split at b;(. (rename_i I;subst I;rw[AAx]at b;obtain⟨q,c,rfl⟩:=b;have f:(eqGuard op t x s (.int k n) (.int k m)).run P w=.ok () w:=(by cases op<;>simp[eqGuard]);have J:(binOp op t (.int k n) (.int k m)).run P w=.ok q w:=by cases op<;>simp[binI]at c<;>first| (subst c;simp[binOp,Op.intArith,Op.intCmp];done)| (obtain⟨r,rfl⟩:=c;simp[binOp,Op.intDiv,r];done));refine⟨q,?_,Lf.sc q ?_⟩;simp only[execOp,p,g,i,d,u,Sem.run_bind,f,J,Result.andThen_ok,Sem.run_pure];cases op<;>simp[binI]at c<;>first| (subst c;rfl)| (obtain⟨r,rfl⟩:=c;rfl));cases b
 rename_i n m E l;obtain⟨d,_⟩:=h.FJ B E;obtain⟨u,_⟩:=h.FJ C l;have f:∀op,(eqGuard op t x s (.string n) (.string m)).run P w=.ok () w:=(by intro op;cases op<;>simp[eqGuard]);split at b;simp only[AAM]at b;subst b;refine⟨_,?_,Lf.sc _ rfl⟩;simp only[execOp,p,g,i,d,u,Sem.run_bind,f,Result.andThen_ok];simp[binOp,Op.stringOp];simp only[AAM]at b;subst b;refine⟨_,?_,Lf.sc _ rfl⟩;simp only[execOp,p,g,i,d,u,Sem.run_bind,f,Result.andThen_ok];simp[binOp,Op.stringOp];cases b;cases b
theorem gives_beq(h:St G w S δ Fr)(j:Rd δ a)(l:o.op=.binOp op t x s e)(d:op=if bx=true then .neq else .eql)(p:P.underlying t=some .bool)(D:Cb x y)(z:Cb s r){v:AV}(c:valOf (.beq bx y r) (λq=>(δ q).er)=some v):Gives P w S δ a o v:=by obtain⟨E,g⟩:=Av D j;obtain⟨F,i⟩:=Av z j;simp only[valOf]at c;split at c;(rename_i n m B C;obtain⟨u,_⟩:=h.FJ E B;obtain⟨f,_⟩:=h.FJ F C;simp only[AAM]at c;subst c;refine⟨_,?_,Lf.sc _ rfl⟩;have k:∀op,(eqGuard op t x s (.bool n) (.bool m)).run P w=.ok () w:=(by intro op;cases op<;>simp[eqGuard]);cases bx with|true=>simp only[AAq]at d;subst d;simp only[execOp,l,g,i,u,f,Sem.run_bind,k,Result.andThen_ok,run_neq_bool w t n m p,Sem.run_pure,AAq]|false=>simp only[AAU,AAd]at d;subst d;simp only[execOp,l,g,i,u,f,Sem.run_bind,k,Result.andThen_ok,run_eql_bool w t n m p,Sem.run_pure,AAU,AAd]);cases c
theorem gives_un(h:St G w S δ Fr)(j:Rd δ a){op:UnOp}(f:o.op=.unOp op t x)(l:Cb x y){v:AV}(b:valOf (.un op y) (λs=>(δ s).er)=some v):Gives P w S δ a o v:=by obtain⟨g,e⟩:=Av l j;simp only[valOf]at b;unfold unF at b;split at b;rename_i n d;obtain⟨c,_⟩:=h.FJ g d;split at b;simp only[AAM]at b;subst b;exact⟨_,by simp[execOp,f,e,c,Op.unary],Lf.sc _ rfl⟩;cases b;rename_i k n d;obtain⟨c,_⟩:=h.FJ g d;split at b;simp only[AAM]at b;subst b;exact⟨.int k (k.wrap (0-n)),by simp[execOp,f,e,c,Op.unary,Op.intArith],Lf.sc _ rfl⟩;cases b;cases b
theorem gives_cvt(h:St G w S δ Fr)(i:Rd δ a)(l:o.op=.convert t e x)(m:P.underlying t=some (.int K))(hd:P.underlying e=some (.int J))(j:Cb x y){v:AV}(b:valOf (.cvt J y) (λt=>(δ t).er)=some v):Gives P w S δ a o v:=by obtain⟨p,f⟩:=Av j i;simp only[valOf]at b;split at b;rename_i r n g;obtain⟨d,_⟩:=h.FJ p g;simp only[AAM]at b;subst b;exact⟨.int J (J.wrap n),by simp[execOp,l,f,d,convert,underlying,m,hd,Conv.intToInt],Lf.sc _ rfl⟩;cases b
end
variable{c:Call}{Q:ku}{N O:Array Operand}{V:kn}
section
variable{w w':jj}{S S':i5}{G:Gi}{δ:ju}{Fr:jc}{P:jg}
theorem fR(h:Ok w S (.own v false k rows) F):∃a c,v=.slice a rows.length c:=by cases h with|nil=>simp_all|own _ _ _ b c=>exact⟨some ⟨b,0,none⟩,c,by simp[KT]⟩
theorem Qe{rows:jh}(h:Fz w S (.sl bx k rows) v):∃a c,v=.slice a rows.length c:=by cases h with|nil _ _ a c|sl _ _ _ b off c=>simp_all
theorem St.hdSl(h:St G w S δ Fr){x:Ar}(l:Ya x){rows:jh}{n:kp}(a:hd (λs=>(δ s).er) x=some (.sl bx k rows,n)):∃s,x=.t s/\(δ s).er=.sl bx k rows:=by cases x with|c c=>obtain⟨D,b⟩:=l;simp only[hd]at a;grind|t s=>refine⟨s,rfl,?_⟩;simp only[hd]at a;cases hs:(δ s).er with|sl e2 m Fk=>simp_all|al r p=>simp only[hs]at a;split at a;rename_i q d;simp only[AAM,AAa]at a;obtain⟨rfl,_⟩:=a;obtain⟨_,_,i⟩:=h.leaf hs rfl;obtain⟨o,m,f,j⟩:=i;obtain⟨D,b,g⟩:=D8 (h.ok r).LA d;rw[j]at b;obtain rfl:=AAO b;simp at g;cases a|own=>simp_all|_=>simp_all
theorem run_len_slice(a:ABm Addr)(n c:Nat)(d:∃e,P.underlying t=some (.slice e))(ty:jz)(w:jj):(Builtin.len_ #[t] ty #[.slice a n c]).run P w=.ok (.int .i64 n) w:=by obtain⟨e,b⟩:=d;simp[Builtin.len_,underlying,b,goInt]
theorem gives_len(h:St G w S δ Fr)(B:Rd δ a)(D:o.op=.call c)(q:c.callee=.builtin .len)(p:c.args.toList=[x])(i:c.argTypes.toList=[t])(H:(∃e,P.underlying t=some (.slice e)))(C:Cb x y){v:AV}(d:valOf (.len y) (λs=>(δ s).er)=some v):Gives P w S δ a o v:=by
 obtain⟨j,z⟩:=Av C B;have u:c.args= #[x]:=by apply ABd;simpa using p
 have l:c.argTypes= #[t]:=by apply ABd;simpa using i
 have key:∀(b:ABm Addr)(n cc:Nat),Cw δ y=.slice b n cc->v=.sc (.int .i64 n)->Gives P w S δ a o v:=by rintro b n cc g rfl;refine⟨.int .i64 n,?_,Lf.sc _ rfl⟩;have:=run_len_slice (P:=P) b n cc H o.type w;simp only[execOp,D,resolve,q,u,l,invoke,builtin,Sem.run_bind,Sem.run_pure,Result.andThen_ok,List.map_toArray,AAf,AAy,z,g,this]
 simp only[valOf]at d;split at d;rename_i k rows I f;simp only[AAM]at d;obtain⟨J,F,K,m,_⟩:=(h.s9 j f).1 _ _ _ rfl;obtain⟨b,cc,E⟩:=fR m;grind;rename_i e k rows I f;simp only[AAM]at d;have r:=(h.s9 j f).2 _ _ _ rfl (h.hdSl j f);obtain⟨b,cc,E⟩:=Qe r;simp_all;cases d
theorem s6(h:St G w S δ Fr)(m:Rd δ a)(p:o.op=.call c)(g:c.callee=.builtin .len)(f:c.args.toList=[x])(d:c.argTypes.toList=[t])(r:P.underlying t=some .string)(n:Cb x y){v:AV}(b:valOf (.dV y) (λs=>(δ s).er)=some v):Gives P w S δ a o v:=by
 obtain⟨u,l⟩:=Av n m;have i:c.args= #[x]:=by apply ABd;simpa using f
 have j:c.argTypes= #[t]:=by apply ABd;simpa using d
 simp only[valOf]at b;split at b;rename_i s q;simp only[AAM]at b;subst b;obtain⟨k,_⟩:=h.FJ u q;refine⟨.int .i64 s.size,?_,Lf.sc _ rfl⟩;simp only[execOp,p,resolve,g,i,j,invoke,builtin,Sem.run_bind,Sem.run_pure,Result.andThen_ok,List.map_toArray,AAf,AAy,l,k];simp[Builtin.len_,underlying,r,goInt];cases b
theorem gives_ext(h:St G w S δ Fr)(y:Rd δ a)(C:o.op=.extract x i)(z:Cb x j){v:AV}(b:valOf (.ext j i) (λs=>(δ s).er)=some v):Gives P w S δ a o v:=by obtain⟨E,n⟩:=Av z y;cases j with|c c=>simp[valOf]at b|t s=>simp only[valOf]at b;split at b;rename_i m g;split at b;((rename_i c l;simp only[AAM]at b;subst b;obtain⟨ds,f,B⟩:∃ds,δ s=.Bp ds/\ds.map DV.er=m:=by have:=(h.ok s).LA;cases hd:δ s with|Bp ds=>simp_all|lf c v=>(rw[hd]at g this;cases this with|lf _ _ hl=>simp at g;subst g;simp[Dt]at hl)|own|agg=>simp_all);rw[<- B,AAX,AAx]at l;obtain⟨d,hd,rfl⟩:=l;have k:=h.ok s;have e:=h.al s;rw[f]at k e;cases k with|Bp _ Fs _ hr Qi CB hF=>cases e with|Bp _ e=>obtain⟨D,p,q,r,u⟩:=viewD (δ:=δ) s (hr i d hd) [(0,i,0)] (by simp[BJ,f,hd]) (e i d hd);refine⟨d.BD,?_,D,p,q,r,u⟩;have:(ds.map DV.BD).toArray[i]? =some d.BD:=(by simp[hd]);simp only[execOp,C,n,Cw,f,O6,Instr.extract,Sem.run_bind,this,Sem.run_pure,Result.andThen_ok]);cases b;cases b
theorem run_indexAt_array(f:P.underlying t=some (.array n e))(d:HX P e=some k){len:Int}(a:0<=len)(c:len<n)(w:jj):(Instr.indexAt t (.pointer (some ⟨b,off,none⟩)) (.int J len)).run P w=.ok (.pointer (some ⟨b,off+len.toNat*k,none⟩)) w:=by simp[Instr.indexAt,asIntOf,underlying,f,a,c,run_sizeOf d,Addr.add_lit,Instr.sureAddr]
theorem gives_aad(h:St G w S δ Fr)(z:Rd δ a)(D:o.op=.indexAddr t x s)(E:P.underlying t=some (.array n e))(C:HX P e=some k)(Q:Cb x y)(J:Cb s j){v:AV}(d:valOf (.aad n k y j) (λi=>(δ i).er)=some v):Gives P w S δ a o v:=by obtain⟨Z,B⟩:=Av Q z;obtain⟨R,f⟩:=Av J z;cases y with|c c=>simp[valOf]at d|t i=>simp only[valOf]at d;split at d;rename_i s' len g hn;simp only[Ar.t.injEq]at g;subst g;split at d;(rename_i I;obtain⟨q,u⟩:=I;obtain⟨kk,hn⟩:=QY hn;obtain⟨L,_⟩:=h.FJ R hn;rw[L]at f;cases hs:(δ i).er with|fp cs=>simp only[hs,AAM]at d;subst d;obtain⟨_,M,_⟩:=h.leaf hs rfl;obtain⟨b,off,l,N,V⟩:=M;refine⟨.pointer (some ⟨b,off+len.toNat*k,none⟩),?_,Lf.fp N λm a X=>?_⟩;simp only[execOp,D,B,f,Cw,l,Sem.run_bind,run_indexAt_array E C q u,Result.andThen_ok,Sem.run_pure];grind|_=>simp only[hs]at d;split at d;rename_i r p s j T K;simp only[AAM]at d;subst d;obtain⟨vh,bx,U,b,F,H,O,l,W,_⟩:=h.EL K;refine⟨.pointer (some ⟨b,s*T+(j+len.toNat*k),none⟩),?_,Lf.ME H O⟩;simp only[execOp,D,B,f,Cw,l,Sem.run_bind,run_indexAt_array E C q u,Result.andThen_ok,Sem.run_pure,Nat.add_assoc];cases d);cases d;cases d
theorem aJ{vals:jt}(hn:HX P t=some n)(b:Kc P t=some bx)(c:bx=true\/n=1)(a:((vals.drop off).take n).length=n):(part t vals.toArray off).run P w=.ok (if bx=true then .agg ((vals.drop off).take n).toArray else((vals.drop off).take n).headD undef) w:=by
 cases bx with
 |true=>
  have e:vals.toArray.extract off (off+n)=((vals.drop off).take n).toArray:=by apply ABd;simp[List.extract_eq_take_drop]
  simp[part,Rw b,run_sizeOf hn,e]
 |false=>obtain rfl:=c.resolve_left ak;match hd:(vals.drop off).take 1,a with|[v],_=>have d:vals[off]? =some v:=(by have:((vals.drop off).take 1)[0]? =some v:=(by rw[hd];rfl);simpa using this);simp[part,Rw b,d]
theorem gives_fld(h:St G w S δ Fr)(l:Rd δ a){e:Field}(u:o.op=.field t x k)(B:P.underlying t=some (.struct E))(q:E[k]? =some e)(j:e.offset=off)(hn:HX P e.type=some n)(r:Kc P e.type=some bx)(f:bx=true\/n=1)(m:Cb x y){v:AV}(d:valOf (.fld bx off n y) (λs=>(δ s).er)=some v):Gives P w S δ a o v:=by obtain⟨i,p⟩:=Av m l;cases y with|c c=>simp[valOf]at d|t s=>simp only[valOf]at d;split at d;rename_i D z;obtain⟨vals,g,b,C⟩:=Tn h z d;refine⟨_,?_,C⟩;have:=aJ (w:=w) hn r f b;simp only[execOp,u,p,Cw,g,Instr.field,run_underlying B,q,asAgg,j,Sem.run_bind,Sem.run_pure,Result.andThen_ok,this];cases d
theorem gives_idx(h:St G w S δ Fr)(m:Rd δ a)(F:o.op=.index t x s)(I:P.underlying t=some (.array n e))(p:HX P e=some k)(D:Kc P e=some bx)(z:bx=true\/k=1)(B:Cb x y)(r:Cb s j){v:AV}(b:valOf (.idx bx n k y j) (λi=>(δ i).er)=some v):Gives P w S δ a o v:=by obtain⟨L,C⟩:=Av B m;obtain⟨E,d⟩:=Av r m;cases y with|c c=>simp[valOf]at b|t i=>simp only[valOf]at b;split at b;rename_i N len f hn;simp only[Ar.t.injEq]at f;subst f;split at b;rename_i q;obtain⟨M,hn⟩:=QY hn;obtain⟨u,_⟩:=h.FJ E hn;rw[u]at d;split at b;rename_i K H;obtain⟨vals,l,g,J⟩:=Tn h H b;refine⟨_,?_,J⟩;have:=aJ (w:=w) p D z g;simp only[execOp,F,C,d,Cw,l,Instr.index,asIntOf,run_underlying I,q,and_self,AAq,run_sizeOf p,Sem.run_bind,Sem.run_pure,Result.andThen_ok,this];cases b;cases b;cases b
theorem sZ(h:St G w S δ Fr)(e:Rd δ a)(u:o.op=.index t x s)(B:P.underlying t=some .string)(p:Cb x y)(f:Cb s j){v:AV}(c:valOf (.pO y j) (λi=>(δ i).er)=some v):Gives P w S δ a o v:=by obtain⟨C,q⟩:=Av p e;obtain⟨r,d⟩:=Av f e;simp only[valOf]at c;split at c;rename_i i n z hn;obtain⟨D,hn⟩:=QY hn;obtain⟨g,_⟩:=h.FJ r hn;obtain⟨k,_⟩:=h.FJ C z;split at c;rename_i l;rw[AAx]at c;obtain⟨b,m,rfl⟩:=c;refine⟨.int .u8 b.toNat,?_,Lf.sc _ rfl⟩;simp only[execOp,u,q,d,g,k,Instr.index,asIntOf,run_underlying B,l,AAq,m,Sem.run_bind,Sem.run_pure,Result.andThen_ok];cases c;cases c
theorem St.argAgg(h:St G w S δ Fr)(n:Ya y)(g:ar (λs=>(δ s).er) y=.agg z):∃vals:List Value,Cw δ y=.agg vals.toArray/\∀(j:Nat) u,z[j]? =some (.sc u)->vals[j]? =some u:=by
 obtain⟨D,F,e,o,i⟩:∃(D:DV)(F:i5),D.er=.agg z/\D.BD=Cw δ y/\Ok w S D F:=by cases y with|t s=>exact⟨δ s,Fr s,g,rfl,h.ok s⟩|c c=>obtain⟨k,l⟩:=n;obtain⟨m,g2,p,_⟩:=JN (w:=w) (S:=S) (δ:=δ) c k l;simp only[ar]at g;exact⟨k,_,m.trans g,by simp[Cw,l],g2⟩
 obtain⟨ds,rfl⟩:∃ds,D=.agg ds:=by have:=i.LA;cases D with|agg ds=>simp_all|lf c v=>(cases this with|lf _ _ hl=>simp at e;subst e;simp[Dt]at hl)|own|Bp=>simp at e
 refine⟨ds.map DV.BD,am,λj u b=>?_⟩;simp only[Is,AV.agg.injEq]at e;subst e;simp only[AAX]at b |-;cases hd:ds[j]? with|none=>simp_all|some d=>simp only[hd,AAv,AAM]at b |-;cases i with|agg _ Fs _ hr _ _ _=>have:=hr j d hd;cases this with|lf a v _ hl _=>simp only[Eu]at b;subst b;simpa using hl.1|nil|own=>simp at b|agg|Bp=>simp at b
def kdOf:TypeDesc->ABm Nat|.bool=>some 0|.int _=>some 1|.string=>some 2|_=>none
def Rj(P:jg):Nat->List Field->List Nat->Bool|_,[],[]=>true|i,f::fs,k::ks=>f.name != "_" &&f.offset==i&&HX P f.type==some 1&&Kc P f.type==some false&&((P.underlying f.type).bind kdOf==some k)&&Rj P (i+1) fs ks|_,_,_=>false
def sK(P:jg)(t:jz)(kd:js):Bool:=match P.underlying t with|some (.struct fs)=>!P.stoodInHeld t&& !P.eqGuardType P.depth t&&Rj P 0 fs.toList kd|_=>false
theorem eqSc_run(d:Nat)(a:(P.underlying t).bind kdOf=some k)(h:eqSc k zv v=some bx):(Op.equalIn (d+1) t zv v).run P w=.ok bx w:=by cases hu:P.underlying t with|none=>simp_all|some T=>simp only[hu,AAK]at a;cases T<;>simp only[kdOf,AAM,reduceCtorEq]at a<;>subst a;cases zv<;>cases v<;>simp only[eqSc,AAM,reduceCtorEq]at h;subst h;exact run_equalIn_bool' w d t _ _ hu;cases zv<;>cases v<;>simp only[eqSc,reduceCtorEq]at h;split at h;rename_i e;subst e;simp only[AAM]at h;subst h;exact run_equalIn_int w d t _ _ _ _ hu;cases h;cases zv<;>cases v<;>simp only[eqSc,AAM,reduceCtorEq]at h;subst h;exact run_equalIn_string w d t _ _ hu
theorem iD(d:Nat)(q r:jt)(p:List Field):∀(h:js)(i:Nat)(c g:ji)(b:Bool),Rj P i p h->Rk h c g=some b->(∀(j:Nat) u,c[j]? =some (.sc u)->q[i+j]? =some u)->(∀(j:Nat) u,g[j]? =some (.sc u)->r[i+j]? =some u)->(Op.eqFields (d+1) q.toArray r.toArray p).run P w=.ok b w:=by induction p with|nil=>(intro h i c g b m e _ _;cases h with|cons=>simp[Rj]at m|nil=>cases c<;>cases g<;>simp only[Rk,AAM,reduceCtorEq]at e;subst e;simp[Op.eqFields])|cons f p ih=>intro h i c g b m e n o;cases h with|nil=>simp[Rj]at m|cons k ks=>simp only[Rj,AAL,AAb,bne_iff_ne]at m;obtain⟨⟨⟨⟨⟨E,F⟩,G⟩,H⟩,I⟩,J⟩:=m;match c,g,e with|.sc u::c,.sc v::g,e=>simp only[Rk]at e;split at e;((rename_i a B D g2;simp only[AAM]at e;have t:q[i]? =some u:=(by have:=n 0 u rfl;simpa using this);have x:r[i]? =some v:=(by have:=o 0 v rfl;simpa using this);have one:∀(l:jt)(u:jx),l[i]? =some u->(part f.type l.toArray i).run P w=.ok u w:=by(intro l u K;have C:(l.drop i).take 1=[u]:=by obtain⟨z,rfl⟩:=AAN.1 K;rw[ABH z];rfl);have:=aJ (w:=w) (off:=i) (vals:=l) G H (.inr rfl) aA;rw[this,C];rfl);have y:=ih ks (i+1) c g B J g2 (λj u s=>by have:=n (j+1) u s;grind) (λj u s=>by have:=o (j+1) u s;grind);simp only[Op.eqFields,E,ne_eq,not_false_eq_true,AAq,F,Sem.run_bind,one q u t,one r v x,Result.andThen_ok,eqSc_run d I D];cases a with|true|false=>simp_all);cases e
theorem sY(h:St G w S δ Fr)(C:Rd δ a)(E:o.op=.binOp op t x s e)(f:op=if bx=true then .neq else .eql)(d:sK P t L)(Q:Cb x y)(I:Cb s j){v:AV}(u:valOf (.pL bx L y j) (λF=>(δ F).er)=some v):Gives P w S δ a o v:=by obtain⟨U,r⟩:=Av Q C;obtain⟨V,z⟩:=Av I C;simp only[valOf]at u;split at u;rename_i g J M N;obtain⟨l,p,f1⟩:=h.argAgg U M;obtain⟨m,q,f2⟩:=h.argAgg V N;rw[AAx]at u;obtain⟨b,O,rfl⟩:=u;refine⟨_,?_,Lf.sc _ rfl⟩;unfold sK at d;split at d;(rename_i B T;simp only[AAL,AA5]at d;obtain⟨⟨K,g2⟩,k⟩:=d;have i:P.fieldsOf t=B:=(by simp[Program.fieldsOf,T]);have n:(Op.equalIn 10000 t (.agg l.toArray) (.agg m.toArray)).run P w=.ok b w:=(by rw[run_equalIn_struct w 9999 t _ _ (by simp_all) K,i];exact iD 9998 l m B.toList L 0 g J b k O (λH e R=>by simp_all) (λH e R=>by simp_all));have D:∀op,(eqGuard op t x s (.agg l.toArray) (.agg m.toArray)).run P w=.ok () w:=λop=>run_eqGuard_agg w op t x s _ _ g2;cases bx with|true=>simp only[AAq]at f;subst f;simp only[execOp,E,r,z,p,q,Sem.run_bind,D,Result.andThen_ok,run_neq_struct,n,Sem.run_pure,AAq]|false=>simp only[AAU,AAd]at f;subst f;simp only[execOp,E,r,z,p,q,Sem.run_bind,D,Result.andThen_ok,run_eql_struct,n,Sem.run_pure,AAU,AAd]);cases d;cases u
theorem gives_mm(h:St G w S δ Fr)(i:Rd δ a)(p:o.op=.call c)(d:c.callee=.builtin (if bx=true then .max else .min))(q:c.args.toList=[x,s])(u:Cb x y)(r:Cb s j){v:AV}(b:valOf (.mm bx y j) (λl=>(δ l).er)=some v):Gives P w S δ a o v:=by
 obtain⟨B,f⟩:=Av u i;obtain⟨C,g⟩:=Av r i;have e:c.args= #[x,s]:=by apply ABd;simpa using q
 simp only[valOf]at b;split at b;rename_i k n D m t g2;obtain⟨f1,_⟩:=h.FJ B t;obtain⟨f2,_⟩:=h.FJ C g2;split at b;(rename_i z;subst z;simp only[AAM]at b;subst b;refine⟨_,?_,Lf.sc _ rfl⟩;cases bx with|true=>simp only[AAq]at d;simp only[execOp,p,resolve,d,e,invoke,builtin,Sem.run_bind,Sem.run_pure,Result.andThen_ok,List.map_toArray,AAf,AAy,f,g,f1,f2,run_max_int2,AAq]|false=>simp only[AAU,AAd]at d;simp only[execOp,p,resolve,d,e,invoke,builtin,Sem.run_bind,Sem.run_pure,Result.andThen_ok,List.map_toArray,AAf,AAy,f,g,f1,f2,run_min_int2,AAU,AAd]);cases b;cases b
theorem xR(h:Ok w S (.own v true k rows) F):∃b,v=.pointer (some ⟨b,0,none⟩):=by cases h with|own _ _ _ b c arr E Fs _=>exact⟨b,by simp[KT]⟩
theorem sW(h:St G w S δ Fr)(F:Rd δ a)(l:o.op=.nilCheck x)(H:Cb x y){v:AV}(d:valOf (.I6 y) (λs=>(δ s).er)=some v):Gives P w S δ a o v:=by obtain⟨I,f⟩:=Av H F;cases y with|c c=>(obtain⟨K,J⟩:=I;simp only[valOf,ar]at d;cases c<;>first| (simp[I3]at J;done)|grind|grind)|t s=>simp only[valOf,ar]at d;cases hs:(δ s).er with|ME r p i j k=>rw[hs]at d;simp only[AAM]at d;subst d;obtain⟨B,_,g,bx,rows,b,m,g2,n⟩:=h.leaf hs rfl;exact⟨_,by simp only[execOp,l,f,Cw,n,Sem.run_pure],Lf.ME m g2⟩|fp cs=>rw[hs]at d;simp only[AAM]at d;subst d;obtain⟨B,⟨b,off,m,g2,n⟩,_⟩:=h.leaf hs rfl;exact⟨_,by simp only[execOp,l,f,Cw,m,Sem.run_pure],Lf.fp g2 n⟩|own b k rows=>(rw[hs]at d;cases b with|false=>simp at d|true=>simp only[AAM]at d;subst d;obtain⟨E,hd,L⟩:=h.Zf hs;have e:=h.ok s;rw[hd]at e;obtain⟨b,g⟩:=xR e;refine⟨(δ s).BD,?_,Lf.al (r:=s) (p:=[]) (bx:=true) (k:=k) (rows:=E) (by simp[BJ];exact hd)⟩;simp only[execOp,l,f,Cw];rw[g];simp only[Sem.run_pure])|al r p=>rw[hs]at d;simp only at d;split at d;rename_i k rows hn;simp only[AAM]at d;subst d;obtain⟨B,_,bx,M,u,q⟩:=h.leaf hs rfl;obtain⟨D,C,z⟩:=D8 (h.ok r).LA hn;rw[q]at C;obtain rfl:=AAO C;simp only[FO,AV.own.injEq]at z;obtain⟨rfl,rfl,_⟩:=z;obtain⟨F',e,_⟩:=(h.ok r).BJ q;obtain⟨b,g⟩:=xR e;refine⟨(δ s).BD,?_,Lf.al q⟩;simp only[execOp,l,f,Cw];rw[g];simp only[Sem.run_pure];cases d|_=>simp_all
theorem rY(h:St G w S δ Fr)(F:Rd δ a)(j:kn):∀{d:mi}{rs:ku},GR d j->Xa (λs=>(δ s).er) j=some rs->d.length=rs.length/\∀(i:Nat) r p u,rs[i]? =some (r,p)->(d.map a.eval)[i]? =some u->∃bx k rows,BJ (δ r) p=some (.own u bx k rows):=by induction j with|nil=>(intro d rs f b;cases d with|cons=>simp[GR]at f|nil=>simp only[Xa,AAM]at b;subst b;exact⟨rfl,ak⟩)|cons y j ih=>intro d rs f b;cases d with|nil=>simp[GR]at f|cons x d=>simp only[GR,AAL]at f;obtain⟨I,z⟩:=Av f.1 F;cases y with|c=>simp[Xa]at b|t s=>(simp only[Xa]at b;have step:∀v o l,Xa (λs=>(δ s).er) j=some l->rs=(v,o)::l->(∃bx k rows,BJ (δ v) o=some (.own (a.eval x) bx k rows))->(x::d).length=rs.length/\∀(i:Nat) r p u,rs[i]? =some (r,p)->((x::d).map a.eval)[i]? =some u->∃bx k rows,BJ (δ r) p=some (.own u bx k rows):=by rintro v o l g rfl E;obtain⟨D,g2⟩:=ih f.2 g;refine⟨by simp[D],λi r p u hi n=>?_⟩;cases i with|zero=>simp only[AA9,AAM,AAa,AAf]at hi n;obtain⟨rfl,rfl⟩:=hi;subst n;exact E|succ i=>exact g2 i r p u (by simpa using hi) (by simpa using n));split at b;rename_i k rows l m g;simp only[AAM]at b;obtain⟨B,hd,_⟩:=h.Zf m;exact step s [] l g b.symm ⟨true,k,B,by rw[z];simp[BJ,Cw];exact hd⟩;rename_i q p l m g;split at b;rename_i k rows hn;simp only[AAM]at b;obtain⟨_,_,bx,H,e,C⟩:=h.leaf m rfl;exact step q p l g b.symm ⟨bx,H,e,by rw[z];exact C⟩;cases b;cases b
theorem rZ(h:St G w S δ Fr)(q:Rd δ a)(g:kn):∀{b:mi}{f:jh},GR b g->gU (λs=>(δ s).er) g=some f->b.length=f.length/\∀(i:Nat) k u,f[i]? =some k->(b.map a.eval)[i]? =some u->q7 w S k u:=by induction g with|nil=>(intro b f e d;cases b with|cons=>simp[GR]at e|nil=>simp only[gU,AAM]at d;subst d;exact⟨rfl,ak⟩)|cons y g ih=>intro b f e d;cases b with|nil=>simp[GR]at e|cons x b=>simp only[GR,AAL]at e;obtain⟨v,o⟩:=Av e.1 q;simp only[gU]at d;split at d;(rename_i k l j r;obtain rfl:=AAO d;obtain⟨p,g2⟩:=ih e.2 r;refine⟨by simp[p],λi m u hi n=>?_⟩;cases i with|zero=>(simp only[AA9,AAM,AAf]at hi n;subst hi;subst n;cases y with|t s=>rw[o];exact(h.leaf j rfl).2.1|c c0=>obtain⟨B,z⟩:=v;simp only[ar]at j;subst j;simp[I3]at z)|succ i=>exact g2 i m u (by simpa using hi) (by simpa using n));cases d
theorem Lf.cl(a:vs.length=Q.length)(b:∀(i:Nat) r p u,Q[i]? =some (r,p)->vs[i]? =some u->∃bx f rows,BJ (δ r) p=some (.own u bx f rows)):Lf w S δ (.cl k Q) (.func (.func k) #[] vs.toArray):=⟨.lf (.cl k Q) _,ak,ak,.lf _ _ _ trivial (λ_ h=>h),.lf _ _ ⟨vs,rfl,a,b⟩⟩
theorem fD(h:St G w S δ Fr)(j:Rd δ a)(q:o.op=.makeFunc (.func k) N O)(p:N= #[])(f:GR O.toList V){v:AV}(c:valOf (.mkf k V) (λs=>(δ s).er)=some v):Gives P w S δ a o v:=by
 have e:O.map a.eval=(O.toList.map a.eval).toArray:=by apply ABd;simp
 subst p;have d:(execOp a.eval o).run P w=.ok (.value (.func (.func k) #[] (O.toList.map a.eval).toArray)) w:=by simp[execOp,q,Instr.makeFunc,e]
 simp only[valOf]at c;split at c;rename_i rs i;obtain rfl:=AAO c;obtain⟨n,g2⟩:=rY h j V f i;exact⟨_,d,Lf.cl am g2⟩;simp only[AAx]at c;obtain⟨l,m,rfl⟩:=c;obtain⟨n,g2⟩:=rZ h j V f m;exact⟨_,d,⟨.lf (.YP k l) _,ak,ak,.lf _ _ _ ⟨O.toList.map a.eval,rfl,am,g2⟩ (λ_ h=>h),.lf _ _ trivial⟩⟩
end
variable{l:jw}{M:j8}
section
variable{w w':jj}{S S':i5}{G:Gi}{δ:ju}{Fr:jc}{P:jg}
theorem LX{rows:List (List f)}{row:List f}{x:f}(c:∀row∈rows,row.length=k)(b:rows[i]? =some row)(d:row[n]? =some x):rows.flatten[i*k+n]? =some x:=by induction rows generalizing i with|nil=>simp at b|cons r rs ih=>have a:=c r ak;have e:=T1 c b d;cases i with|zero|succ i=>grind
theorem Dz{rows:List (List α)}(b:∀row∈rows,row.length=k):rows.flatten.length=rows.length*k:=by induction rows with|nil=>simp|cons r rs ih=>grind
theorem Mi(e:KP w S row F)(p:KP w S l U)(hd:∀x,F x->¬U x):KP w S (row++l) (λx=>F x\/U x):=by induction row generalizing F with|nil=>have:(λx=>F x\/U x)=U:=funext λx=>propext ⟨λh=>h.elim (λh=>absurd h (e x)) id,.inr⟩;simp_all|cons d f ih=>obtain⟨g,i,k,n,m,j⟩:=e;refine⟨g,λx=>i x\/U x,k,ih n (λx o=>hd x ((j x).2 (.inr o))),?_,λx=>?_⟩;all_goals grind
theorem KP.congr(h:KP w S l F)(a:∀x,U x↔F x):KP w S l U:=by have:U=F:=funext λx=>propext (a x);simp_all
theorem uO(v:w.heap[b]? =some (.cells M t (0,0)))(e:∀row∈rows,row.length=k)(l:if bx then rows.length=1/\M.size=k else n*k=M.size/\rows.length<=n)(E:¬S b)(g:KP w S rows.flatten F)(D:¬F b)(u:∀(c:Nat) d,rows.flatten[c]? =some d->M[c]? =some d.BD):Ok w S (.own (KT bx b rows.length n) bx k rows) (λx=>x=b\/F x):=by obtain⟨m,p,q,r,s⟩:=KV.1 g;refine .own bx k rows b n M t (λi j x=>(∃row d,rows[i]? =some row/\row[j]? =some d)/\m (i*k+j) x) _ v e l E ?_ ?_ ?_ ?_ ?_ ?_;intro i j row d hi a;exact u _ d (LX e hi a);intro i j row d hi a;refine(p _ d (LX e hi a)).congr λx=>⟨λh=>h.2,λh=>⟨⟨row,d,hi,a⟩,h⟩⟩;rintro i j H I x ⟨⟨row,d,hi,a⟩,y⟩ ⟨⟨f,G,hi',z⟩,o⟩;exact xM (T1 e hi a) (T1 e hi' z) (q _ _ x y o);simp_all;simp_all;intro x;constructor;rintro(h|h);omega;obtain⟨c,hn⟩:=(s x).1 h;obtain⟨d,hd⟩:=r c x hn;have C:c<rows.length*k:=(by rw[<- Dz e];exact(AAN.1 hd).1);have B:0<k:=(Nat.eq_zero_or_pos k).elim (λh=>am) id;have hi:c/k<rows.length:=Nat.div_lt_of_lt_mul aA;have a:c%k<(rows[c/k]).length:=(by rw[e _ (AAW hi)];exact Nat.mod_lt _ B);refine .inr ⟨c/k,c%k,⟨_,_,AAT hi,AAT a⟩,?_⟩;rw[ABZ,Nat.div_add_mod];exact hn;grind
theorem fP(h:Ok w S (.own v bx k rows) F):
 (v=.slice none 0 0/\bx=false/\rows=[]/\∀x,¬F x)\/
 ∃b c arr E o,v=KT bx b rows.length c/\w.heap[b]? =some (.cells arr E (0,0))/\(∀row∈rows,row.length=k)/\(if bx then rows.length=1/\arr.size=k else c*k=arr.size/\rows.length<=c)/\¬S b/\KP w S rows.flatten o/\¬o b/\
  (∀x,F x↔x=b\/o x)/\(∀(n:Nat) d,rows.flatten[n]? =some d->arr[n]? =some d.BD):=by
 cases h with
 |nil k _ hF=>exact .inl ⟨rfl,rfl,rfl,hF⟩
 |own _ _ _ b c arr E Fs _ hb hk Ei MS hv hr hd CB LZ hF=>
  refine .inr ⟨b,c,arr,E,λx=>∃i j,Fs i j x,rfl,hb,hk,Ei,MS,?_,λ⟨i,j,h⟩=>LZ i j h,hF,?_⟩
  . refine KV.2 ⟨λn x=>n<rows.length*k/\Fs (n/k) (n%k) x,?_,?_,?_,?_⟩
    . intro n d f;have e:n<rows.length*k:=(by rw[<- Dz hk];exact(AAN.1 f).1);have m:0<k:=(Nat.eq_zero_or_pos k).elim (λh=>by subst h;simp at e) id;have hi:n/k<rows.length:=Nat.div_lt_of_lt_mul (by rw[ABZ];exact e);have g:n%k<(rows[n/k]).length:=(by rw[hk _ (AAW hi)];exact Nat.mod_lt _ m);have a:=LX hk (AAT hi) (AAT g);rw[ABZ,Nat.div_add_mod,f]at a;obtain rfl:=AAO a;exact(hr _ _ _ _ (AAT hi) (AAT g)).congr λx=>⟨λh=>h.2,λh=>⟨e,h⟩⟩
    . rintro n t x ⟨a,p⟩ ⟨u,s⟩
      have:=hd _ _ _ _ x p s;rw[<- Nat.div_add_mod n k,<- Nat.div_add_mod t k,this.1,this.2]
    . rintro n x ⟨a,_⟩;exact⟨_,AAT (by rw[Dz hk];exact a)⟩
    . intro x;constructor
      . rintro⟨i,j,h⟩;obtain⟨row,d,a,p⟩:=CB i j x h;have l:=T1 hk a p;have hi:=(AAN.1 a).1;have m:0<k:=ah;refine⟨i*k+j,?_,?_⟩
        . calc i*k+j<i*k+k:=ah
           _=(i+1)*k:=by rw[Nat.succ_mul]
           _<=rows.length*k:=ABC _ hi
        . have q:(i*k+j)/k=i:=(by rw[ABZ,Nat.mul_add_div m,Nat.div_eq_of_lt l];rfl);have r:(i*k+j)%k=j:=(by rw[ABZ,Nat.mul_add_mod];exact Nat.mod_eq_of_lt l);rw[q,r];exact h
      . rintro⟨n,_,h⟩;exact⟨_,_,h⟩
  . intro n d f;have e:n<rows.length*k:=(by rw[<- Dz hk];exact(AAN.1 f).1);have m:0<k:=(Nat.eq_zero_or_pos k).elim (λh=>by subst h;simp at e) id;have hi:n/k<rows.length:=Nat.div_lt_of_lt_mul (by rw[ABZ];exact e);have g:n%k<(rows[n/k]).length:=(by rw[hk _ (AAW hi)];exact Nat.mod_lt _ m);have a:=LX hk (AAT hi) (AAT g);rw[ABZ,Nat.div_add_mod,f]at a;obtain rfl:=AAO a
    have:=hv _ _ _ _ (AAT hi) (AAT g);rw[ABZ,Nat.div_add_mod]at this;exact this
theorem LN(h:Ok w S new F)(f:GQ new.er):Gp new.BD:=by cases h with|lf a v _ ha _=>(cases a with|sc u=>rw[Mk,ha.1];exact ha.2|sl e k rows=>obtain⟨i,c,g⟩:=Qe (w:=w) (S:=S) ha;rw[Mk,g];rfl|own=>exact ha.elim|_=>simp[GQ]at f)|nil=>rfl|own bx k rows b c=>cases bx<;>simp[KT,Gp]|agg|Bp=>simp[GQ]at f
def cellsD:DV->List DV|.agg cs=>cs|d=>[d]
theorem Mc(d:DV)(b:eL d):(cellsD d).map DV.er=cellsOf d.er:=by cases d with|agg cs=>simp[cellsD,cellsOf]|lf a v=>(cases b with|lf _ _ h=>cases a<;>simp_all [cellsD,cellsOf,Dt])|own|Bp=>simp[cellsD,cellsOf]
theorem Wy(h:Gp v):v.cells= #[v]:=by cases v<;>simp_all [Gp,Value.cells]
theorem Mo(h:Ok w S new F)(c:(cellsOf new.er).all GQ):new.BD.cells=((cellsD new).map DV.BD).toArray:=by cases hd:new with|agg cs=>simp[cellsD,Value.cells]|lf a v=>subst hd;have e:=h.LA;rw[<- Mc _ e]at c;simp only[cellsD,AAf,AAy,AA8,List.all_nil,Bool.and_true]at c;have:=LN h c;simp only[cellsD,AAf,AAy];exact Wy this|own hh b k rows=>subst hd;have:=LN h (by simp[GQ]);simp only[cellsD,AAf,AAy];exact Wy this|Bp cs=>subst hd;simp[cellsOf,GQ]at c
theorem OL(h:Ok w S new F):KP w S (cellsD new) F:=by have b:KP w S [new] F:=⟨F,λ_=>False,h,λ_ h=>h,λ_ _ h=>h,λx=>ak⟩;cases new with|agg cs=>exact CQ.1 h|lf a v|own=>exact b|Bp=>exact b
theorem LO(a:Act)(d:Nat)(v:jx)(h:d<a.tmps.size)(s:Nat):(a.put (some d) v).tmps.getD s undef=if s=d then v else a.tmps.getD s undef:=by simp only[Act.put,AAh,ABA];grind
def SD(P:jg)(G:Gi)(w:jj)(S:i5)(Fr:jc)(a:Act)(o:Oper)(σ':Sg):Prop:=∃(n:Next)(v:jx)(w':jj)(S':i5)(δ':ju)(F':jc),(execOp a.eval o).run P w=.ok n w'/\(n=.value v\/n=.skip/\v=undef)/\Rd δ' (a.put o.dst v)/\(λs=>(δ' s).er)=σ'/\St G w' S' δ' F'/\Nx w S (BL Fr) w' S' (BL F')
def JT(G:Gi)(a:Act)(o:Oper)(d:jr):Prop:=match d with|none=>o.dst=none|some d=>o.dst=some d.d/\d.kl=G.Pr d.d/\d.rs=G.Gy d.d/\d.d<a.tmps.size
theorem Kk{e:jc}(h:St G w S1 C e)(B:Rd C a)(hd:JT G a o (some d))(E:(execOp a.eval o).run P w=.ok (.value D.BD) w')(F:∀b,S1 b->w'.heap[b]? =w.heap[b]?)(c:∀s x,e s x->w'.heap[x]? =w.heap[x]?)(p:∀b,S1 b->S' b)(r:∀s x,e s x->¬S' x)(z:Ok w' S' D Ff)(i:∀s x,e s x->¬Ff x)(m:Dp C D)(q:wr d D.er (λs=>(C s).er)=some σ')(k:Nx w S (BL Fr) w' S' (λx=>BL e x\/Ff x)):SD P G w S Fr a o σ':=by obtain⟨t,u,v,y⟩:=hd;obtain⟨f,F',g,n,j,l⟩:=h.wr u v F c p r z i m q;refine⟨_,D.BD,w',S',f,F',E,.inl rfl,?_,n,g,k.trans (Nx.less l)⟩;intro s;rw[t,LO a d.d D.BD y s,j s];split;rfl;exact B s
theorem dQ{v:AV}(h:St G w S δ Fr)(g:Rd δ a)(hd:JT G a o (some d))(i:Gives P w S δ a o v)(f:wr d v (λs=>(δ s).er)=some σ'):SD P G w S Fr a o σ':=by obtain⟨u,j,D,rfl,rfl,c,e⟩:=i;exact Kk h g hd j (λ_ _=>rfl) (λ_ _ _=>rfl) (λ_ h=>h) (λs x b=>(h.ok s).E8 x b) c (λ_ _ _ h=>h) e f (Nx.less λx b=>b.elim id False.elim)
end
section
variable{w w':jj}{S S':i5}{G:Gi}{δ:ju}{Fr:jc}{P:jg}
theorem alloc_old(w:jj)(o:Obj)(b:Nat)(h:b<w.heap.size):(w.alloc o).heap[b]? =w.heap[b]? :=by show(w.heap.push o)[b]? =_;grind
theorem eN(w:jj)(o:Obj):(w.alloc o).heap[w.heap.size]? =some o:=by show(w.heap.push o)[w.heap.size]? =_;simp
theorem Nx.alloc(w:jj)(S U c:i5)(o:Obj)(h:∀x,c x->U x\/x=w.heap.size):Nx w S U (w.alloc o) S c:=⟨rfl,rfl,rfl,ak,λb a _=>alloc_old w o b a,λ_ h=>h,λ_ h=>.inl h,λd b a=>by have:=d b a;simp;omega,λx f=>(h x f).imp id (λe=>ah)⟩
def Nx.KB{w:jj}{S d a:i5}(h:∀x,d x\/a x->U x)(e:∀x,a x->x<w.heap.size):Nx w S U w (λx=>S x\/a x) d:=⟨rfl,rfl,rfl,AAl _,λ_ _ _=>rfl,λ_ h=>.inl h,λx c=>c.imp id λg=>.inl (h x (.inr g)),λi b f=>f.elim (i b) (e b),λx c=>.inl (h x (.inl c))⟩
theorem runs_mv(h:St G w S δ Fr)(e:Rd δ a)(hd:JT G a o (some d))(l:o.op=.assign x)(k:Cb x y)(c:HY G (.mv y) (some d) (λs=>(δ s).er)=some σ'):SD P G w S Fr a o σ':=by obtain⟨p,i⟩:=Av k e;simp only[HY]at c;split at c;rename_i v τ m;obtain⟨q,r,D,Ff,b,g,f,j⟩:=h.tk p m;subst g;subst f;exact Kk b.st (λs=>(e s).trans (b.BD s).symm) hd (by simp[execOp,l,i,j]) (λ_ _=>rfl) (λ_ _ _=>rfl) (λ_ h=>h) (λs x n=>(b.st.ok s).E8 x n) b.ok b.Me b.al c (Nx.less b.own);cases c
theorem aL{j:jc}{c:Nat}{Fd:i5}{arr:j8}{E:jz}(h:St G w S C j)(m:∀b,S b->b<w.heap.size)(r:Rd C a)(hd:JT G a o (some d))(F:(execOp a.eval o).run P w=.ok (.value (KT bx w.heap.size rows.length c)) (w.alloc (.cells arr E)))(i:KP w S rows.flatten Fd)(z:∀s x,j s x->¬Fd x)(t:∀row∈rows,row.length=k)(q:if bx then rows.length=1/\arr.size=k else c*k=arr.size/\rows.length<=c)(v:∀(n:Nat) d,rows.flatten[n]? =some d->arr[n]? =some d.BD)(f:wr d (.own bx k (rows.map (·.map DV.er))) (λs=>(C s).er)=some σ')(B:∀x,BL j x\/Fd x->BL Fr x):SD P G w S Fr a o σ':=by
 have p:=(CQ.2 i).lt;have l:=(CQ.2 i).E8;have hold:∀b,b<w.heap.size->(w.alloc (.cells arr E)).heap[b]? =w.heap[b]? :=λb e=>alloc_old _ _ _ e;have y:Ok (w.alloc (.cells arr E)) S (.own (KT bx w.heap.size rows.length c) bx k rows) (λx=>x=w.heap.size\/Fd x):=by refine uO (eN w _) t q (λu=>aA) ?_ (λu=>aA) v;exact i.mono (λb e=>hold b (m b e)) (λb e=>hold b (p b e)) (λ_ h=>h) l
 refine Kk (D:=.own (KT bx w.heap.size rows.length c) bx k rows) h r hd am (λb e=>hold b (m b e)) (λs x g=>hold x ((h.ok s).lt x g)) (λ_ h=>h) (λs x g=>(h.ok s).E8 x g) y ?_ (.own _ _ _ _) am ?_;rintro s x g (rfl|hf);have:=(h.ok s).lt _ g;omega;grind;refine Nx.alloc _ _ _ _ _ ?_;grind
theorem xT(h:St G w S δ Fr)(g:∀b,S b->b<w.heap.size)(r:Rd δ a)(hd:JT G a o (some d))(B:Ya y)(x:(execOp a.eval o).run P w=.ok (.value (.pointer (some ⟨w.heap.size,0,none⟩))) (w.alloc (.cells (Cw δ y).cells t)))(f:HY G (.bx n y) (some d) (λs=>(δ s).er)=some σ'):SD P G w S Fr a o σ':=by simp only[HY]at f;split at f;(. rename_i v τ z;split at f;(. rename_i l;obtain⟨hn,i⟩:=l;obtain⟨C,F,D,Ff,e,m,j,q⟩:=h.tk B z;subst m;subst j;have u:=Mc D e.ok.LA;have H:(cellsD D).length=n:=(by rw[<- hn,<- u];simp);have p:=Mo e.ok i;rw[q]at p;refine aL (bx:=true) (k:=n) (c:=0) (rows:=[cellsD D]) (Fd:=Ff) (arr:=(Cw δ y).cells) (E:=t) e.st g (λs=>(r s).trans (e.BD s).symm) hd (by rw[x];simp[KT]) (by simpa using OL e.ok) e.Me am ?_ ?_ ?_ e.own;all_goals simp_all);cases f);cases f
theorem xS{P:jg}(t:jz)(v:jx)(w:jj):(Instr.box t v).run P w=.ok (.pointer (some ⟨w.heap.size,0,none⟩)) (w.alloc (.cells v.cells t)):=by simp[Instr.box,newVar,newRow]
theorem run_alloc{P:jg}(t:jz)(i:TypeInfo)(z:jx)(hi:P.info? t=some i)(a:i.zero=some z)(w:jj):(Instr.alloc t true (.tuple #[])).run P w=.ok (.pointer (some ⟨w.heap.size,0,none⟩)) (w.alloc (.cells z.cells t)):=by simp[Instr.alloc,zeroValue,typeInfo,hi,a,newVar,newRow]
theorem Yi(off:Nat)(z:KP w S l F)(B:KP w S row U)(hd:∀x,F x->¬U x)(G:off+row.length<=l.length):∃n,KP w S (l.take off++row++l.drop (off+row.length)) n/\∀x,n x->F x\/U x:=by
 obtain⟨g,q,g2,s,p⟩:=KV.1 z;obtain⟨Fr,C,D,E,u⟩:=KV.1 B;have d:∀i,(l.take off++row++l.drop (off+row.length))[i]? =if i<off then l[i]? else if i<off+row.length then row[i-off]? else l[i]? :=by intro i;have j:(l.take off).length=off:=an;by_cases b:i<off;rw[ABL,AAs ah,ABN,AAQ b,AAQ b];by_cases c:i<off+row.length;rw[AAs an,AAu ah,j,AAP b,AAQ c];rw[AAu an,List.getElem?_drop,AAP b,AAP c];congr 1;simp;omega
 refine⟨λx=>∃i,(if i<off then g i x else if i<off+row.length then Fr (i-off) x else g i x),KV.2 ⟨λi x=>if i<off then g i x else if i<off+row.length then Fr (i-off) x else g i x,?_,?_,?_,λx=>ABQ⟩,?_⟩;intro i e f;rw[d]at f;by_cases b:i<off;simp only[b,AAq]at f |-;exact q i e f;by_cases c:i<off+row.length;simp only[b,c,AAq,AAd]at f |-;exact C _ e f;simp only[b,c,AAd]at f |-;exact q i e f
 . intro i t x a k;have out:∀i,g i x->F x:=λi h=>(p x).2 ⟨i,h⟩;have m:∀i,Fr i x->U x:=λi h=>(u x).2 ⟨i,h⟩;by_cases b:i<off<;>by_cases c:t<off<;>by_cases v:i<off+row.length<;>by_cases y:t<off+row.length<;>simp only[b,c,v,y,AAq,AAd]at a k<;>
    first|exact g2 _ _ x a k|exact absurd (m _ k) (hd x (out _ a))|exact absurd (m _ a) (hd x (out _ k))| (have:=D _ _ x a k;omega)|omega
 intro i x a;rw[d];by_cases b:i<off;simp only[b,AAq]at a |-;exact s i x a;by_cases c:i<off+row.length;simp only[b,c,AAq,AAd]at a |-;exact E _ x a;simp only[b,c,AAd]at a |-;exact s i x a;rintro x ⟨i,a⟩;by_cases b:i<off;simp only[b,AAq]at a;exact .inl ((p x).2 ⟨i,a⟩);by_cases c:i<off+row.length;simp only[b,c,AAq,AAd]at a;exact .inr ((u x).2 ⟨_,a⟩);simp only[b,c,AAd]at a;exact .inl ((p x).2 ⟨i,a⟩)
theorem vJ(ds r:jw)(off:Nat):(ds.take off++r++ds.drop (off+r.length)).map DV.er=kI (ds.map DV.er) off (r.map DV.er):=by simp[kI,List.map_take,List.map_drop]
theorem fold_set(vs:jt)(off:Nat)(a:j8)(h:off+vs.length<=a.size)(m:Nat):((vs.zipIdx m).foldl (λd (x:Value×Nat)=>d.setIfInBounds (off+x.2) x.1) a).toList=a.toList.take (off+m)++vs++a.toList.drop (off+m+vs.length)\/off+m+vs.length>a.size:=by induction vs generalizing a m with|nil=>left;simp|cons v vs ih=>by_cases e:off+m+(v::vs).length>a.size;omega;left;(simp only[List.zipIdx_cons,List.foldl_cons];have b:=ih (a.setIfInBounds (off+m) v) aA (m+1);simp only[Array.size_setIfInBounds]at b;rcases b with b|b);rw[b];have c:off+m<a.toList.length:=(by simp at e |-;omega);simp only[Array.toList_setIfInBounds];rw[List.take_set,List.drop_set_of_lt ah];rw[show off+(m+1)=off+m+1 from by omega,AAz c,ABX _ _ an];simp only[ABg,Nat.min_eq_left (Nat.le_of_lt c),Nat.sub_self,List.set_cons_zero,ABL,AA3,ABJ,ABe];grind;grind
end
variable{T:nc}{X:List (Nat×Ar)}
section
variable{w w':jj}{S S':i5}{G:Gi}{δ:ju}{Fr:jc}{P:jg}
theorem eZ(b:na)(a:jt)(i off n:Nat)(v:jx)(c:List (Nat×Value))(vs:jt)(j:b i=some (off,n))(f:v.cells=vs.toArray)(hn:vs.length=n)(k:off+n<=a.length):Instr.fill b a.toArray ((i,v)::c)=Instr.fill b (a.take off++vs++a.drop (off+vs.length)).toArray c:=by
 have h:(decide (v.cells.size≠n)||decide (off+v.cells.size>a.toArray.size))=false:=by simp[f,hn];omega
 have d:=fold_set vs off a.toArray an 0;simp only[Nat.add_zero]at d;rcases d with d|d
 have:(v.cells.zipIdx.foldl (λg (x:Value×Nat)=>g.setIfInBounds (off+x.2) x.1) a.toArray)=(a.take off++vs++a.drop (off+vs.length)).toArray:=(by apply ABd;rw[f,<- d];have e:vs.toArray.zipIdx=vs.zipIdx.toArray:=(by simp);rw[e];simp);simp only[Instr.fill,j,h];simp only[AAU,AAd];exact congrArg (λz=>Instr.fill b z c) this;simp at d;omega
def Mp(place:na):List (Nat×Operand)->List (Nat×Nat×Ar)->Bool|[],[]=>true| (i,x)::qs,(off,n,y)::ps=>(match place i with|some (o',n')=>o'==off&&n'==n|none=>false)&&Cb x y&&Mp place qs ps|_,_=>false
theorem St.XY{b:na}(L:nc):∀(l:List (Nat×Operand)) {δ:ju} {Fr:jc} {ds:jw} {Fd:i5} {f:ji} {τ:Sg},St G w S δ Fr->Rd δ a->Mp b l L->KP w S ds Fd->(∀s x,Fr s x->¬Fd x)->(ds.map DV.er).all GQ->Abs.XY G L (ds.map DV.er) (λs=>(δ s).er)=some (f,τ)->∃B F' E J,St G w S B F'/\(λs=>(B s).er)=τ/\(∀s,(B s).BD=(δ s).BD)/\KP w S E J/\E.map DV.er=f/\Instr.fill b (ds.map DV.BD).toArray (l.map λ(i,x)=>(i,a.eval x))=some (E.map DV.BD).toArray/\(∀s x,F' s x->¬J x)/\(∀x,BL F' x\/J x->BL Fr x\/Fd x)/\f.all GQ:=by induction L with|nil=>(intro l δ Fr ds Fd f τ h P d M K C g;cases l with|cons q l=>simp[Mp]at d|nil=>simp only[Abs.XY,AAM,AAa]at g;obtain⟨rfl,rfl⟩:=g;exact⟨δ,Fr,ds,Fd,h,rfl,λ_=>rfl,M,rfl,by simp[Instr.fill],K,λx m=>m,C⟩)|cons p L ih=>obtain⟨off,n,y⟩:=p;intro l δ Fr ds Fd f τ h P d M K C g;cases l with|nil=>simp[Mp]at d|cons q l=>(obtain⟨i,x⟩:=q;simp only[Mp,AAL]at d;obtain⟨⟨H,R⟩,Q⟩:=d;have tW:b i=some (off,n):=by split at H;rename_i o' n' YJ;simp only[AAL,AAb]at H;rw[YJ,H.1,H.2];cases H);obtain⟨hy,NP⟩:=Av R P;simp only[Abs.XY]at g;split at g;rename_i v τ1 I;split at g;(rename_i GX;obtain⟨hn,X,N⟩:=GX;obtain⟨δ1,F1,D,Ff,e,KD,G1,V0⟩:=h.tk hy I;subst KD;subst G1;have U:=Mc D e.ok.LA;have Z:(cellsD D).length=n:=(by rw[<- hn,<- U];simp);have TV:=Mo e.ok N;have T:∀x,Fd x->¬Ff x:=(by intro x m hf;obtain⟨t,I⟩:=e.own x (.inr hf);exact K t x I m);have u:off+(cellsD D).length<=ds.length:=(by rw[Z];simpa using X);obtain⟨F2,cR,nI⟩:=Yi off M (OL e.ok) T u;have OQ:∀s x,F1 s x->¬F2 x:=by(intro s x m h2;rcases nI x h2 with o|o);obtain⟨t,I⟩:=e.own x (.inl ⟨s,m⟩);exact K t x I o;exact e.Me s x m o);(have V:=vJ ds (cellsD D) off;have j:((ds.take off++cellsD D++ds.drop (off+(cellsD D).length)).map DV.er).all GQ:=by(rw[AAS]at C N |-;intro c d;simp only[AA0,AAc]at d;rcases d with(d|d)|d);exact C c (by rw[List.map_take]at d;exact List.mem_of_mem_take d);rw[U]at d;exact N c d;exact C c (by rw[List.map_drop]at d;exact List.mem_of_mem_drop d));rw[<- U]at g;rw[<- V]at g;obtain⟨W,F2',E,J,Ku,TY,NY,F,SM,ZI,r,z,k⟩:=ih l e.st (λs=>(P s).trans (e.BD s).symm) Q cR OQ j g;refine⟨W,F2',E,J,Ku,TY,λs=>(NY s).trans (e.BD s),F,SM,?_,r,?_,k⟩;simp only[AAf];rw[eZ b (ds.map DV.BD) i off n (a.eval x) _ ((cellsD D).map DV.BD) tW (by rw[NP,<- V0];exact TV) (by simpa using Z) (by simpa using X)];rw[<- ZI];congr 2;simp[List.map_take,List.map_drop];(intro x m;rcases z x m with o|o);exact .inl (e.own x (.inl o));(rcases nI x o with O|O);exact .inr O;exact .inl (e.own x (.inr O));cases g;cases g
theorem runs_bld(h:St G w S δ Fr)(l:Rd δ a){b:Array (Nat×Operand)}{f:na}(hd:JT G a o (some d))(L:o.op=.build t b)(N:Y4 z=some row)(j:z.all GQ)(p:Mp f b.toList T)(M:∀c:Array Value,Instr.fill f (row.map DV.BD).toArray (b.toList.map λ(i,x)=>(i,a.eval x))=some c->(Instr.build t (b.map λ(i,x)=>(i,a.eval x))).run P w=.ok (.agg c) w)(m:HY G (.UG z T) (some d) (λs=>(δ s).er)=some σ'):SD P G w S Fr a o σ':=by
 have g:row.map DV.er=z/\KP w S row (λ_=>False):=by have:=JN (w:=w) (S:=S) (δ:=δ) (.agg z) (.agg row) (by simp[I3,N]);exact⟨by simpa using this.1,CQ.1 this.2.1⟩
 simp only[HY]at m;split at m;rename_i R τ y;rw[<- g.1]at y j;obtain⟨Q,F',J,O,v,H,E,B,I,K,C,F,u⟩:=h.XY (a:=a) T b.toList l p g.2 (λ_ _ _ h=>h) j y;subst H;subst I;refine Kk (D:=.agg J) (Ff:=O) v (λs=>(l s).trans (E s).symm) hd ?_ (λ_ _=>rfl) (λ_ _ _=>rfl) (λ_ h=>h) (λs x q=>(v.ok s).E8 x q) (CQ.2 B) C (.agg _ λi e hi=>?_) (by simpa using m) (Nx.less ?_);have:=M _ K;simp only[execOp,L,Sem.run_bind,this,Result.andThen_ok,Sem.run_pure,MM];exact TE (λa l=>by rw[AAS]at u;exact u a l) e (AAZ hi);(intro x q;rcases F x q with n|n);exact n;exact n.elim;cases m
theorem W3{rows:List (List α)}{r:List α}(b:∀row∈rows,row.length=k)(hi:i<rows.length)(g:r.length=k):(rows.set i r).flatten=rows.flatten.take (i*k)++r++rows.flatten.drop (i*k+r.length):=by induction rows generalizing i with|nil=>simp at hi|cons x xs ih=>have a:=b x ak;cases i with|zero=>simp[g,<- a]|succ i=>simp only[List.set_cons_succ,List.flatten_cons];rw[ih (λrow d=>b row (by simp[d])) (by simpa using hi)];have e:(x++xs.flatten).take ((i+1)*k)=x++xs.flatten.take (i*k):=(by rw[show(i+1)*k=x.length+i*k from by rw[Nat.succ_mul,a];omega,List.take_length_add_append]);have f:(x++xs.flatten).drop ((i+1)*k+r.length)=xs.flatten.drop (i*k+r.length):=(by rw[show(i+1)*k+r.length=x.length+(i*k+r.length)from by rw[Nat.succ_mul,a];omega,List.drop_length_add_append]);rw[e,f];simp[ABL]
def O8(k:Nat):List (Nat×Operand)->List (Nat×Ar)->Bool|[],[]=>true| (i,x)::qs,(j,y)::ps=>i==j&&Cb x y&&O8 k qs ps|_,_=>false
theorem St.XZ(K:List (Nat×Ar)):∀(d:List (Nat×Operand)) {δ:ju} {Fr:jc} {ds:jm} {Fd:i5} {rs:jh} {τ:Sg},St G w S δ Fr->Rd δ a->O8 k d K->KP w S ds.flatten Fd->(∀r∈ds,r.length=k)->(∀s x,Fr s x->¬Fd x)->Abs.XZ G k K (ds.map (·.map DV.er)) (λs=>(δ s).er)=some (rs,τ)->∃(u:ju)(F':jc)(g:jm)(I:i5),St G w S u F'/\(λs=>(u s).er)=τ/\(∀s,(u s).BD=(δ s).BD)/\KP w S g.flatten I/\(∀r∈g,r.length=k)/\g.length=ds.length/\g.map (·.map DV.er)=rs/\Instr.fill (λi=>some (i*k,k)) (ds.flatten.map DV.BD).toArray (d.map λ(i,x)=>(i,a.eval x))=some (g.flatten.map DV.BD).toArray/\(∀s x,F' s x->¬I x)/\(∀x,BL F' x\/I x->BL Fr x\/Fd x):=by induction K with|nil=>(intro d δ Fr ds Fd rs τ h N C L z J c;cases d with|cons q d=>simp[O8]at C|nil=>simp only[Abs.XZ,AAM,AAa]at c;obtain⟨rfl,rfl⟩:=c;exact⟨δ,Fr,ds,Fd,h,rfl,λ_=>rfl,L,z,rfl,rfl,by simp[Instr.fill],J,λx e=>e⟩)|cons p K ih=>obtain⟨j,y⟩:=p;intro d δ Fr ds Fd rs τ h N C L z J c;cases d with|nil=>simp[O8]at C|cons q d=>obtain⟨i,x⟩:=q;simp only[O8,AAL,AAb]at C;obtain⟨⟨rfl,P⟩,O⟩:=C;obtain⟨hy,NP⟩:=Av P N;simp only[Abs.XZ]at c;split at c;rename_i v τ1 H;split at c;(rename_i GX;obtain⟨hn,hi,II⟩:=GX;obtain⟨δ1,X,D,Ff,b,KD,G1,V0⟩:=h.tk hy H;subst KD;subst G1;have V:=Mc D b.ok.LA;have B:(cellsD D).length=k:=(by rw[<- hn,<- V];simp);have TV:=Mo b.ok II;have hi':i<ds.length:=(by simpa using hi);have Q:∀x,Fd x->¬Ff x:=(by intro x e hf;obtain⟨t,H⟩:=b.own x (.inr hf);exact J t x H e);have m:i*k+(cellsD D).length<=ds.flatten.length:=(by rw[Dz z,B,<- Nat.succ_mul];exact ABC _ hi');obtain⟨Z,U,W⟩:=Yi (i*k) L (OL b.ok) Q m;rw[<- W3 z hi' B]at U;have OQ:∀s x,X s x->¬Z x:=by(intro s x e h2;rcases W x h2 with l|l);obtain⟨t,H⟩:=b.own x (.inl ⟨s,e⟩);exact J t x H l;exact b.Me s x e l);(have Vw:∀r∈ds.set i (cellsD D),r.length=k:=by(intro r hr;rcases AA2 hr with h|rfl);exact z r h;exact B);rw[<- V]at c;rw[<- ABD (f:=λx:List DV=>x.map DV.er)]at c;obtain⟨T,F2',g,I,Ku,TY,NY,F,R,E,SM,ZI,n,o⟩:=ih d b.st (λs=>(N s).trans (b.BD s).symm) O U Vw OQ c;refine⟨T,F2',g,I,Ku,TY,λs=>(NY s).trans (b.BD s),F,R,by simpa using E,SM,?_,n,?_⟩;simp only[AAf];rw[eZ _ (ds.flatten.map DV.BD) i (i*k) k (a.eval x) _ ((cellsD D).map DV.BD) rfl (by rw[NP,<- V0];exact TV) (by simpa using B) (by rw[AAt];rw[B]at m;exact m)];rw[<- ZI,W3 z hi' B];congr 2;simp[List.map_take,List.map_drop];(intro x e;rcases o x e with l|l);exact .inl (b.own x (.inl l));(rcases W x l with M|M);exact .inr M;exact .inl (b.own x (.inr M));cases c;cases c
def AAE:List (List AV)->ABm (List (List DV))|[]=>some []|r::rs=>match Y4 r,AAE rs with|some d,some ds=>some (d::ds)|_,_=>none
theorem sP(rs:jh)(ds:jm)(h:AAE rs=some ds):ds.map (·.map DV.er)=rs/\KP w S ds.flatten (λ_=>False):=by induction rs generalizing ds with|nil=>simp only[AAE,AAM]at h;subst h;exact⟨rfl,λ_ h=>h⟩|cons r rs ih=>simp only[AAE]at h;split at h;rename_i d a c e;obtain rfl:=AAO h;obtain⟨b,g2⟩:=ih a e;have:=JN (w:=w) (S:=S) (δ:=λ_=>default) (.agg r) (.agg d) (by simp[I3,c]);refine⟨by simp[b];simpa using this.1,?_⟩;simp only[List.flatten_cons];exact(Mi (CQ.1 this.2.1) g2 (λ_ h=>h.elim)).congr λx=>ak;cases h
theorem runs_bsl(h:St G w S δ Fr)(M:∀b,S b->b<w.heap.size)(J:Rd δ a){f:Array (Nat×Operand)}{z:jh}{u:jm}(hd:JT G a o (some d))(H:o.op=.buildSlice t n f)(hz:AAE z=some u)(D:∀r∈z,r.length=k)(F:z.length=n)(B:O8 k f.toList X)(C:∀g:Array Value,Instr.fill (λi=>some (i*k,k)) (u.flatten.map DV.BD).toArray (f.toList.map λ(i,x)=>(i,a.eval x))=some g->(Instr.buildSlice t n (f.map λ(i,x)=>(i,a.eval x))).run P w=.ok (.slice (some ⟨w.heap.size,0,none⟩) n n) (w.alloc (.cells g e)))(v:HY G (.Ot k z X) (some d) (λs=>(δ s).er)=some σ'):SD P G w S Fr a o σ':=by
 obtain⟨m,q⟩:=sP (w:=w) (S:=S) z u hz;have p:∀r∈u,r.length=k:=by intro r C;have:=D (r.map DV.er) (by rw[<- m];exact ABS C);simpa using this
 have l:u.length=n:=by rw[<- F,<- m];simp
 simp only[HY]at v;split at v;rename_i rs τ K;rw[<- m]at K;obtain⟨δ',F',I,q6,N,U,R,O,L,j,V,W,Q,T⟩:=h.XZ (a:=a) X f.toList J B q p (λ_ _ _ h=>h) K;subst U;subst V;refine aL (bx:=false) (k:=k) (c:=n) (rows:=I) (Fd:=q6) (arr:=(I.flatten.map DV.BD).toArray) (E:=e) N M (λs=>(J s).trans (R s).symm) hd ?_ O Q L ?_ ?_ v ?_;have:=C _ W;simp only[execOp,H,Sem.run_bind,this,Result.andThen_ok,Sem.run_pure,KT,AAU,AAd,j,l];simp only[AAU,AAd,List.size_toArray,AAt,Dz L,j,l];exact⟨trivial,AAl _⟩;intro len d hn;rw[List.getElem?_toArray,AAX,hn];rfl;(intro x Z;rcases T x Z with y|y);exact y;exact y.elim;cases v
theorem TN(z:ji)(a:jw)(h:Y4 z=some a):a.map DV.er=z/\∀D∈a,Ok w S D (λ_=>False):=by obtain⟨f,g,_⟩:=JN (w:=w) (S:=S) (δ:=λ_=>.lf .un undef) (.agg z) (.agg a) (by simp[I3,h]);refine⟨by simpa using f,λD j=>?_⟩;obtain⟨b,c,_,_,d⟩:=KV.1 (CQ.1 g);obtain⟨i,hi⟩:=AAm j;have:=c i D hi;have e:b i=λ_=>False:=funext λx=>propext ⟨λk=>(d x).2 ⟨i,k⟩,False.elim⟩;rwa [e]at this
theorem flat_rep(a:List f)(l:Nat):∀n,n<l*a.length->(List.replicate l a).flatten[n]? =a[n%a.length]? :=by induction l with|zero=>intro n h;omega|succ l ih=>intro n h;rw[List.replicate_succ,List.flatten_cons];by_cases hn:n<a.length;rw[AAs hn,Nat.mod_eq_of_lt hn];rw[AAu ah,ih (n-a.length) (by rw[Nat.add_mul,Nat.one_mul]at h;omega),<- Nat.mod_eq_sub_mod ah]
theorem runs_mk(h:St G w S δ Fr)(C9:∀b,S b->b<w.heap.size)(v:Rd δ a){i:TypeInfo}(hd:JT G a o (some d))(ho:o.op=.makeSlice t x s)(hu:P.underlying t=some (.slice e))(hi:P.info? e=some i)(Q:i.zero=some zv)(T:i.size=k)(C:i.bytes=n)(B:0<n)(qT:0<k)(N:Y4 z=some row)(p:zv.cells.toList=row.map DV.BD)(O:z.length=k)(I:Cb x y)(J:Cb s j)(g:HY G (.mk k n z y j) (some d) (λX=>(δ X).er)=some σ'):SD P G w S Fr a o σ':=by obtain⟨M,ex⟩:=Av I v;obtain⟨hy,ey⟩:=Av J v;simp only[HY]at g;split at g;rename_i l c K F;split at g;rename_i GX;obtain⟨h0,Qj,Qo⟩:=GX;obtain⟨kl,K⟩:=QY K;obtain⟨kc,F⟩:=QY F;obtain⟨el,_⟩:=h.FJ M K;obtain⟨ec,_⟩:=h.FJ hy F;have hr:c.toNat*n<=70368744177664:=(by simpa[Aq]using Qo);have H:(c.toNat:Int)=c:=Int.toNat_of_nonneg ah;have U:c.toNat<=c.toNat*n:=Nat.le_mul_of_pos_right _ B;have r:row.length=k:=(by have:=congrArg List.length (TN (w:=w) (S:=S) z row N).1;rw[AAt]at this;rw[this,O]);have Ck:=run_make (P:=P) w t e i zv hu hi Q kl kc l c h0 Qj (by rw[C,<- H];have:(n:Int)*(c.toNat:Int)=((c.toNat*n:Nat):Int):=(by rw[ABZ];simp);rw[this];omega) ah;have q:zv.cells.size=k:=(by have:=congrArg List.length p;simp only[AAt,r]at this;simpa using this);have R:(List.replicate l.toNat row).length=l.toNat:=ak;refine aL (bx:=false) (k:=k) (c:=c.toNat) (rows:=List.replicate l.toNat row) (Fd:=λ_=>False) (arr:=madeCells zv.cells (c.toNat*i.size)) (E:=e) h C9 v hd ?_ ?_ (λ_ _ _ h=>h) ?_ ?_ ?_ ?_ (λx M=>M.elim id False.elim);simp only[execOp,ho,ex,ey,el,ec,Sem.run_bind,Ck,Result.andThen_ok,Sem.run_pure,KT,AAU,AAd,R];refine Co λD hD=>?_;obtain⟨f,u,Z⟩:=List.mem_flatten.1 hD;rw[List.eq_of_mem_replicate u]at Z;exact(TN z row N).2 D Z;intro f u;rw[List.eq_of_mem_replicate u,r];simp only[AAU,AAd,size_madeCells,T,R];exact⟨trivial,ah⟩;intro bytes D hn;have m:bytes<l.toNat*row.length:=(by have:=(AAN.1 hn).1;simpa using this);rw[flat_rep row l.toNat bytes m]at hn;have V:l.toNat*k<=c.toNat*k:=ABC _ ah;have L:bytes<c.toNat*i.size:=(by rw[T];rw[r]at m;omega);have W:bytes%k<k:=Nat.mod_lt _ qT;rw[r]at hn;have CG:zv.cells[bytes%k]? =some D.BD:=(by rw[<- Array.getElem?_toList,p,AAX,hn];rfl);simp only[madeCells,Array.getElem?_map,Array.getElem?_range,AAQ L,AAv,q];rw[getElem!_def,CG];have:(List.replicate l.toNat row).map (·.map DV.er)=List.replicate l.toNat z:=(by rw[List.map_replicate,(TN (w:=w) (S:=S) z row N).1]);rw[this];exact g;cases g;cases g
end
end Go.Abs
