/- A calculus of abstract states of Go memory, and that it is sound. -/
import Derived.Orders
import Derived.Deep.LoopGhost
import Derived.Laws.Cells
import Derived.Laws.Small
import Derived.Laws.AppendOwn
import Derived.Laws.CopyRow
import Derived.Laws.StructEq
import Derived.Laws.MakeOwn
set_option linter.all false
namespace Go.Abs
abbrev i6:=List Int
abbrev jc:=Nat->Prop
abbrev je:=Nat->Nat->Prop
abbrev jf:=List (List Bool)
abbrev jh:=Program
abbrev jl:=List (List Int)
abbrev jm:=World
abbrev ju:=List Nat
abbrev jw:=List Value
abbrev jA:=Value
abbrev j7:=TypeId
abbrev ke:=Nat->Bool
abbrev kg:=Array Value
abbrev ko:=List Bool
abbrev lg:=Operand
abbrev ml:=List (Nat×Nat×Nat×Nat)
abbrev mo:=Int×Bool
abbrev mt:=List Operand
abbrev mu:=List (Nat×Nat)
abbrev nE:=List (Nat×Bool)
abbrev oe:=Nat->List Nat
def ah{p:Prop}(h:p:=by omega):p:=h
def ak{p:Prop}(h:p:=by simp):p:=h
def am{p:Prop}(h:p:=by simp_all):p:=h
def an{p:Prop}(h:p:=by simp;omega):p:=h
def aA{p:Prop}(h:p:=by grind):p:=h
def aS{p:Prop}(h:p:=by simp only;omega):p:=h
def bg{p:Prop}(h:p:=by decide):p:=h
variable{I q:Prop}
def bk(h:I->q:=by intro h;cases h):I->q:=h
def bm{p:Prop}(h:p:=by assumption):p:=h
def cm(h:I->q:=by intro h;omega):I->q:=h
def AA0:=@List.eq_nil_iff_forall_not_mem
def AA1:=@Nat.mul_le_mul_right
def AA2:=@Array.getElem?_eq_some_iff
def AA3:=@List.cons_append
def AA4:=@List.all_cons
def AA5:=@Bool.not_eq_true'
def AA6:=@or_false
def AA7:=@Nat.zero_add
def AA8:=@List.drop_eq_getElem_cons
def AA9:=@Option.isNone_iff_eq_none
def AAG:=@Option.bind_some
def AAH:=@Bool.and_eq_true
def AAI:=@Option.some.injEq
def AAJ:=@List.getElem?_eq_some_iff
def AAK:=@Option.some.inj
def AAL:=@if_neg
def AAM:=@if_pos
def AAN:=@List.getElem?_set_self
def AAO:=@List.getElem?_eq_getElem
def AAP:=@List.all_eq_true
def AAQ:=@of_decide_eq_true
def AAR:=@Bool.false_eq_true
def AAS:=@List.getElem_mem
def AAT:=@beq_iff_eq
def AAU:=@List.getElem?_map
def AAV:=@List.getElem?_set_ne
def AAW:=@List.mem_of_getElem?
def AAX:=@List.mem_append
def AAY:=@if_false
def AAZ:=@Prod.mk.injEq
def AAa:=@decide_eq_true_eq
def AAb:=@Array.getD_eq_getD_getElem?
def AAc:=@List.mem_singleton
def AAd:=@List.map_cons
def AAe:=@List.take_append_getElem
def AAf:=@Bool.true_and
def AAg:=@List.mem_cons
def AAh:=@Bool.or_eq_true
def AAi:=@Int.toNat_natCast
def AAj:=@Nat.le_refl
def AAk:=@List.getElem?_of_mem
def AAl:=@if_true
def AAm:=@List.contains_iff_mem
def AAn:=@List.drop_zero
def AAo:=@List.take_of_length_le
def AAp:=@List.getElem?_append_right
def AAq:=@List.getElem?_append_left
def AAr:=@Option.map_some
def AAs:=@Option.map_eq_some_iff
def AAt:=@List.length_map
def AAu:=@List.map_append
def AAv:=@List.map_nil
def AAw:=@List.mem_or_eq_of_mem_set
def AAx:=@List.length_append
def AAy:=@List.take_succ_eq_append_getElem
def AAz:=@List.getElem?_cons_zero
def ABA:=@List.mem_append_left
def ABB:=@Nat.le_trans
def ABC:=@Array.getElem?_setIfInBounds
def ABD:=@List.mem_cons_self
def ABE:=@List.take_append_drop
def ABF:=@beq_self_eq_true
def ABG:=@List.getElem?_cons_succ
def ABH:=@List.mem_cons_of_mem
def ABI:=@List.map_set
def ABJ:=@Nat.lt_of_lt_of_le
def ABK:=@of_decide_eq_false
def ABL:=@List.length_cons
def ABM:=@List.getElem_of_mem
def ABN:=@Nat.mul_comm
def ABO:=@List.append_assoc
def ABP:=@List.mem_map_of_mem
def ABQ:=@beq_eq_false_iff_ne
def ABR:=@Array.getElem?_eq_getElem
def ABS:=@List.length_nil
def ABT:=@List.length_replicate
def ABU:=@List.getElem?_take
def ABV:=@List.not_mem_nil
def ABW:=@Option.getD_some
def ABX:=@List.replicate_succ'
def ABY:=@List.all_map
def ABZ:=@List.mem_map
def ABa:=@List.mem_range
def ABb:=@Iff.rfl
def ABc:=@List.append_nil
def ABd:=@List.length_take_of_le
def ABe:=@List.length_take
def ABf:=@bne_iff_ne
def ABg:=@List.pairwise_cons
def ABh:=@Nat.succ_mul
abbrev ABi(a:Type _):=Option a
abbrev ja:=Int->ABi Bool
abbrev jb:=(List (List Bool))->Int->ABi (List (List Bool))
abbrev jg:=(List Int)->Int->ABi (List Int)
abbrev jn:=ABi (Nat×Bool)
abbrev ka:=Int->Int->ABi Bool
abbrev kj:=Int->Int->Int->Int->Int->ABi (Int×Int)
abbrev kz:=Int->ABi (Int×Int)
abbrev lq:=Int->Bool->Int->ABi Bool
abbrev l0:=Int->ABi Int
abbrev mg:=(List Int)->Int->Int->ABi (List Int)
abbrev m8:=Int->Int->ABi Int
abbrev ng:=Int->Int->Int->ABi (List (List Bool))
abbrev nh:=(List Int)->Int->ABi Bool
abbrev ni:=Nat->ABi (Nat×Nat)
abbrev nr:=Int->Int->Int->ABi Bool
abbrev ns:=ABi Nat
abbrev nw:=ABi (Int×Int)
abbrev og:=ABi Int
abbrev ABj:=ByteArray
abbrev jq:=(List ABj)->Int->ABi ((List ABj)×Bool)
abbrev jt:=List ABj
abbrev lp:=ABj->Prop
abbrev ls:=List ABj->Int->ABi (List ABj×Bool)
abbrev md:=List (ABj×Value)
abbrev nd:=(List ABj)×Bool
abbrev Step:=Nat×Nat×Nat
abbrev ji:=List Step
abbrev ky:=List (Nat×List Step)
abbrev lu:=ABi (Nat×List Step)
inductive AV where
 |sc (v:Value)
 |sl (x:Bool) (k:Nat) (rows:List (List AV))
 |own (b:Bool) (k:Nat) (rows:List (List AV))
 |agg (cs:List AV)
 |Bo (cs:List AV)
 |al (r:Nat) (p:List Step)
 |Lu (r:Nat) (p:List Step) (i j k:Nat)
 |fp (cs:List AV)
 |dead
 |un
 |cl (f:Nat) (rs:List (Nat×List Step))
 |vb (s off:Nat) (us:List Value)
 |Y7 (f:Nat) (Mz:List (List AV))
 |cb (f:Nat) (vs:List Value) (b:Nat) (ss:List (Nat×Bool))
 deriving Inhabited
abbrev jj:=List AV
abbrev jk:=List (List AV)
abbrev nc:=List (List AV->Prop)
abbrev Sg:=Nat->AV
abbrev jd:=Sg->Prop
abbrev mh:=Nat->Sg->Prop
abbrev m0:=ABi (List AV×Sg)
variable{α:Type}
def Dt(h:Nat->α)(d:Nat)(v:α):Nat->α:=λs=>if s=d then v else h s
variable{f:Type}
theorem Bh(h:Nat->f)(d:Nat)(v:f):Dt h d v d=v:=by simp[Dt]
variable{k n:Nat}
theorem B5(Z:Nat->f)(v:f)(h:n≠k):Dt Z k v n=Z n:=by simp[Dt,h]
def sub:AV->List Step->ABi AV|a,[]=>some a|.own _ _ rows,(i,j,_)::p=>(match rows[i]? with|some row=>(match row[j]? with|some c=>sub c p|none=>none)|none=>none)|.agg cs,(_,j,_)::p=>(match cs[j]? with|some c=>sub c p|none=>none)|.Bo cs,(_,j,_)::p=>(match cs[j]? with|some c=>sub c p|none=>none)|_,_::_=>none
def put:AV->List Step->AV->ABi AV|_,[],x=>some x|.own b k rows,(i,j,_)::p,x=>(match rows[i]? with|some row=>(match row[j]? with|some c=>(match put c p x with|some c'=>some (.own b k (rows.set i (row.set j c')))|none=>none)|none=>none)|none=>none)|.agg cs,(_,j,_)::p,x=>(match cs[j]? with|some c=>(match put c p x with|some c'=>some (.agg (cs.set j c'))|none=>none)|none=>none)|.Bo cs,(_,j,_)::p,x=>(match cs[j]? with|some c=>(match put c p x with|some c'=>some (.Bo (cs.set j c'))|none=>none)|none=>none)|_,_::_,_=>none
inductive DV where
 |lf (a:AV) (v:Value)
 |own (h:Value) (b:Bool) (k:Nat) (rows:List (List DV))
 |agg (cs:List DV)
 |Bo (cs:List DV)
 deriving Inhabited
abbrev jp:=List (List DV)
abbrev jv:=Nat->DV
abbrev jz:=List DV
mutual
def DV.er:DV->AV|.lf a _=>a|.own _ b k rows=>.own b k (erR rows)|.agg cs=>.agg (erL cs)|.Bo cs=>.Bo (erL cs)
def erL:List DV->List AV|[]=>[]|d::r=>d.er::erL r
def erR:List (List DV)->List (List AV)|[]=>[]|d::r=>erL d::erR r
end
theorem wT(l:jz):erL l=l.map DV.er:=by induction l with|nil=>rfl|cons d r ih=>simp[erL,ih]
theorem erR_eq(l:jp):erR l=l.map (·.map DV.er):=by induction l with|nil=>rfl|cons d r ih=>simp[erR,ih,wT]
mutual
def DV.BJ:DV->Value|.lf _ v=>v|.own h _ _ _=>h|.agg cs=>.agg (annL cs).toArray|.Bo cs=>.tuple (annL cs).toArray
def annL:List DV->List Value|[]=>[]|d::r=>d.BJ::annL r
end
theorem zK(l:jz):annL l=l.map DV.BJ:=by induction l with|nil=>rfl|cons d r ih=>simp[annL,ih]
@[simp]theorem FG(a:AV)(v:jA):(DV.lf a v).er=a:=by simp[DV.er]
@[simp]theorem Ft(h:jA)(b:Bool)(k:Nat)(rows:jp):(DV.own h b k rows).er=.own b k (rows.map (·.map DV.er)):=by simp[DV.er,erR_eq]
@[simp]theorem JI(a:jz):(DV.agg a).er=.agg (a.map DV.er):=by simp[DV.er,wT]
@[simp]theorem LZ(a:jz):(DV.Bo a).er=.Bo (a.map DV.er):=by simp[DV.er,wT]
@[simp]theorem LX(a:AV)(v:jA):(DV.lf a v).BJ=v:=by simp[DV.BJ]
@[simp]theorem Mm(h:jA)(b:Bool)(k:Nat)(rows:jp):(DV.own h b k rows).BJ=h:=by simp[DV.BJ]
@[simp]theorem Ml(a:jz):(DV.agg a).BJ=.agg (a.map DV.BJ).toArray:=by simp[DV.BJ,zK]
@[simp]theorem PZ(a:jz):(DV.Bo a).BJ=.tuple (a.map DV.BJ).toArray:=by simp[DV.BJ,zK]
def BO:DV->List Step->Option DV|a,[]=>some a|.own _ _ _ rows,(i,j,_)::p=>(match rows[i]? with|some row=>(match row[j]? with|some c=>BO c p|none=>none)|none=>none)|.agg cs,(_,j,_)::p=>(match cs[j]? with|some c=>BO c p|none=>none)|.Bo cs,(_,j,_)::p=>(match cs[j]? with|some c=>BO c p|none=>none)|_,_::_=>none
def FH:DV->List Step->DV->Option DV|_,[],x=>some x|.own h b k rows,(i,j,_)::p,x=>(match rows[i]? with|some row=>(match row[j]? with|some c=>(match FH c p x with|some c'=>some (.own h b k (rows.set i (row.set j c')))|none=>none)|none=>none)|none=>none)|.agg cs,(_,j,_)::p,x=>(match cs[j]? with|some c=>(match FH c p x with|some c'=>some (.agg (cs.set j c'))|none=>none)|none=>none)|.Bo cs,(_,j,_)::p,x=>(match cs[j]? with|some c=>(match FH c p x with|some c'=>some (.Bo (cs.set j c'))|none=>none)|none=>none)|_,_::_,_=>none
def EK:AV->Bool|.own .. |.agg _|.Bo _=>false|_=>true
inductive gV:DV->Prop
 |lf (a v) (h:EK a=true):gV (.lf a v)
 |own (h b k rows) (hr:∀(i j:Nat) row d,rows[i]? =some row->row[j]? =some d->gV d):gV (.own h b k rows)
 |agg (cs) (hr:∀(i:Nat) d,cs[i]? =some d->gV d):gV (.agg cs)
 |Bo (cs) (hr:∀(i:Nat) d,cs[i]? =some d->gV d):gV (.Bo cs)
variable{new D:DV}{p:ji}
theorem gV.BO(h:gV new)(e:BO new p=some D):gV D:=by induction p generalizing new with|nil=>simp only[Abs.BO,Option.some.injEq]at e;exact e▸h|cons s p ih=>obtain⟨i,j,k⟩:=s;cases h with|lf a v h=>simp[Abs.BO]at e|own hh b k' rows hr=>simp only[Abs.BO]at e;split at e;split at e;rename_i row g _ c f;exact ih (hr i j row c g f) e;cases e;cases e|agg cs hr|Bo cs hr=>simp only[Abs.BO]at e;split at e;rename_i c f;exact ih (hr j c f) e;cases e
theorem EY{a:AV}(h:gV new)(e:sub new.er p=some a):∃x,BO new p=some x/\x.er=a:=by induction p generalizing new with|nil=>simp only[sub,Option.some.injEq]at e;exact⟨new,rfl,e⟩|cons s p ih=>obtain⟨i,j,k⟩:=s;cases h with|lf b v h=>cases b<;>simp_all [sub,EK]|own hh b k' rows hr=>(simp only[Ft,sub,List.getElem?_map]at e;cases hi:rows[i]? with|none=>simp[hi]at e|some row=>simp only[hi,Option.map_some,List.getElem?_map]at e;cases hj:row[j]? with|none=>simp[hj]at e|some c=>simp only[hj,Option.map_some]at e;obtain⟨x,g,f⟩:=ih (hr i j row c hi hj) e;exact⟨x,by simp[BO,hi,hj,g],f⟩)|agg cs hr|Bo cs hr=>simp only[JI,LZ,sub,List.getElem?_map]at e;cases hj:cs[j]? with|none=>simp[hj]at e|some c=>simp only[hj,Option.map_some]at e;obtain⟨x,g,f⟩:=ih (hr j c hj) e;exact⟨x,by simp[BO,hj,g],f⟩
theorem IQ{d:DV}{a:AV}(x:DV)(h:gV d)(e:put d.er p x.er=some a):∃t,FH d p x=some t/\t.er=a:=by induction p generalizing d a with|nil=>simp only[put,Option.some.injEq]at e;exact⟨x,rfl,e⟩|cons s p ih=>obtain⟨i,j,k⟩:=s;cases h with|lf b v h=>cases b<;>simp_all [put,EK]|own hh b k' rows hr=>(simp only[Ft,put,List.getElem?_map]at e;cases hi:rows[i]? with|none=>simp[hi]at e|some row=>simp only[hi,Option.map_some,List.getElem?_map]at e;cases hj:row[j]? with|none=>simp[hj]at e|some c=>simp only[hj,Option.map_some]at e;cases hp:put c.er p x.er with|none=>simp[hp]at e|some c'=>simp only[hp,Option.some.injEq]at e;obtain⟨t,g,f⟩:=ih (hr i j row c hi hj) hp;refine⟨.own hh b k' (rows.set i (row.set j t)),by simp[FH,hi,hj,g],?_⟩;rw[<- e,<- f];simp[List.map_set])|agg cs hr=>(simp only[JI,put,List.getElem?_map]at e;cases hj:cs[j]? with|none=>simp[hj]at e|some c=>simp only[hj,Option.map_some]at e;cases hp:put c.er p x.er with|none=>simp[hp]at e|some c'=>simp only[hp,Option.some.injEq]at e;obtain⟨t,g,f⟩:=ih (hr j c hj) hp;refine⟨.agg (cs.set j t),by simp[FH,hj,g],?_⟩;rw[<- e,<- f];simp[List.map_set])|Bo cs hr=>simp only[LZ,put,List.getElem?_map]at e;cases hj:cs[j]? with|none=>simp[hj]at e|some c=>simp only[hj,Option.map_some]at e;cases hp:put c.er p x.er with|none=>simp[hp]at e|some c'=>simp only[hp,Option.some.injEq]at e;obtain⟨t,g,f⟩:=ih (hr j c hj) hp;refine⟨.Bo (cs.set j t),by simp[FH,hj,g],?_⟩;rw[<- e,<- f];simp[List.map_set]
variable{v:jA}{z:jj}
section
def HI:Value->Bool|.agg _|.tuple _=>false|_=>true
def Kh(bx:Bool)(b n c:Nat):Value:=if bx then .pointer (some ⟨b,0,none⟩)else .slice (some ⟨b,0,none⟩) n c
inductive Fz (w:World) (S:Nat->Prop):AV->Value->Prop
 |sc (v:Value) (hp:HI v=true):Fz w S (.sc v) v
 |dead (v:Value):Fz w S .dead v
 |nil (x:Bool) (k:Nat) (a:ABi Addr) (c:Nat) (hx:x=true->c=0):Fz w S (.sl x k []) (.slice a 0 c)
 |sl (x:Bool) (k:Nat) (rows:List (List AV)) (b off c:Nat) (vs:Nat->Nat->Value) (hx:x=true->c=rows.length) (TQ:rows.length<=c) (hS:S b)
  (hk:∀row∈rows,row.length=k)
  (hc:∀i j row a,rows[i]? =some row->row[j]? =some a->w.cell? ⟨b,off+(i*k+j),none⟩=some (vs i j))
  (hr:∀i j row a,rows[i]? =some row->row[j]? =some a->Fz w S a (vs i j)):Fz w S (.sl x k rows) (.slice (some ⟨b,off,none⟩) rows.length c)
 |agg (cs:List AV) (vs:List Value) (hs:vs.length=cs.length) (h:∀(i:Nat) a v,cs[i]? =some a->vs[i]? =some v->Fz w S a v):Fz w S (.agg cs) (.agg vs.toArray)
 |Bo (cs:List AV) (vs:List Value) (hs:vs.length=cs.length) (h:∀(i:Nat) a v,cs[i]? =some a->vs[i]? =some v->Fz w S a v):Fz w S (.Bo cs) (.tuple vs.toArray)
theorem Fz.mono{w w':jm}{S S':jc}{a:AV}(h:Fz w S a v)(g:∀b,S b->w'.heap[b]? =w.heap[b]?)(f:∀b,S b->S' b):Fz w' S' a v:=by induction h with|sc v hp=>exact .sc v hp|dead v=>exact .dead v|nil x k a c hx=>exact .nil x k a c hx|sl x k rows b off c vs hx TQ hb hk hc hr ih=>refine .sl x k rows b off c vs hx TQ (f b hb) hk (λi j row a d e=>?_) (λi j row a d e=>ih i j row a d e);rw[<- hc i j row a d e];simp only[World.cell?,g b hb]|agg cs vs hs h ih=>exact .agg cs vs hs ih|Bo cs vs hs h ih=>exact .Bo cs vs hs ih
def uM(w:jm)(S:jc)(cs:jj)(v:jA):Prop:=∃b off,v=.pointer (some ⟨b,off,none⟩)/\S b/\∀(j:Nat) a,cs[j]? =some a->∃u,w.cell? ⟨b,off+j,none⟩=some u/\Fz w S a u
theorem uM.mono{w w':jm}{S S':jc}(h:uM w S z v)(f:∀b,S b->w'.heap[b]? =w.heap[b]?)(d:∀b,S b->S' b):uM w' S' z v:=by obtain⟨b,off,rfl,e,g⟩:=h;refine⟨b,off,rfl,d b e,λj a k=>?_⟩;obtain⟨u,l,i⟩:=g j a k;refine⟨u,?_,i.mono f d⟩;rw[<- l];simp only[World.cell?,f b e]
def IF(w:jm)(S:jc):AV->Value->Prop|.sc u,v=>v=u/\HI u=true|.sl x k rows,v=>Fz w S (.sl x k rows) v|.fp cs,v=>∃b off,v=.pointer (some ⟨b,off,none⟩)/\S b/\∀(j:Nat) a,cs[j]? =some a->∃u,w.cell? ⟨b,off+j,none⟩=some u/\Fz w S a u|.un,v=>v=undef|.al ..,_=>True|.Lu ..,_=>True|.dead,_=>True|.cl ..,_=>True|.Y7 f Mz,v=>∃vs:List Value,v=.func (.func f) #[] vs.toArray/\vs.length=Mz.length/\∀(i:Nat) cs u,Mz[i]? =some cs->vs[i]? =some u->uM w S cs u|.vb _ off us,v=>∃b,v=.pointer (some ⟨b,off,none⟩)/\S b/\∀(j:Nat) u,us[j]? =some u->w.cell? ⟨b,j,none⟩=some u|.cb f vs b _,v=>v=.pointer (some ⟨b,0,none⟩)/\S b/\w.cell? ⟨b,0,none⟩=some (.func (.func f) #[] (vs++[v]).toArray)|_,_=>False
theorem IF.EK{w:jm}{S:jc}{a:AV}(h:IF w S a v):EK a:=by cases a<;>simp_all [IF,Abs.EK]
theorem IF.mono{w w':jm}{S S':jc}{a:AV}(h:IF w S a v)(e:∀b,S b->w'.heap[b]? =w.heap[b]?)(d:∀b,S b->S' b):IF w' S' a v:=by cases a with|sl x k rows=>exact Fz.mono h e d|fp o=>obtain⟨b,off,rfl,c,g⟩:=h;refine⟨b,off,rfl,d b c,λj a m=>?_⟩;obtain⟨u,n,r⟩:=g j a m;refine⟨u,?_,r.mono e d⟩;rw[<- n];simp only[World.cell?,e b c]|sc u|own=>exact h|agg|Bo=>exact h|al|Lu=>exact h|dead|un=>exact h|cl=>exact h|Y7 f Mz=>obtain⟨vs,l,p,q⟩:=h;exact⟨vs,l,p,λi o u hi n=>(q i o u hi n).mono e d⟩|vb s off us=>obtain⟨b,rfl,c,g⟩:=h;refine⟨b,rfl,d b c,λj u m=>?_⟩;rw[<- g j u m];simp only[World.cell?,e b c]|cb f vs b ss=>obtain⟨l,c,g⟩:=h;refine⟨l,d b c,?_⟩;rw[<- g];simp only[World.cell?,e b c]
inductive Ok (w:World) (S:Nat->Prop):DV->(Nat->Prop)->Prop
 |lf (a:AV) (v:Value) (F:Nat->Prop) (ha:IF w S a v) (hF:∀x,¬F x):Ok w S (.lf a v) F
 |nil (k:Nat) (F:Nat->Prop) (hF:∀x,¬F x):Ok w S (.own (.slice none 0 0) false k []) F
 |own (bx:Bool) (k:Nat) (rows:List (List DV)) (b c:Nat) (arr:Array Value) (E:TypeId) (Fs:Nat->Nat->Nat->Prop) (F:Nat->Prop)
  (hb:w.heap[b]? =some (.cells arr E (0,0))) (hk:∀row∈rows,row.length=k)
  (Ex:if bx then rows.length=1/\arr.size=k else c*k=arr.size/\rows.length<=c) (hS:¬S b)
  (hv:∀(i j:Nat) row d,rows[i]? =some row->row[j]? =some d->arr[i*k+j]? =some d.BJ)
  (hr:∀(i j:Nat) row d,rows[i]? =some row->row[j]? =some d->Ok w S d (Fs i j))
  (hd:∀i j i' j' x,Fs i j x->Fs i' j' x->i=i'/\j=j')
  (CG:∀i j x,Fs i j x->∃row d,rows[i]? =some row/\row[j]? =some d) (Lb:∀i j,¬Fs i j b)
  (hF:∀x,F x↔x=b\/∃i j,Fs i j x):Ok w S (.own (Kh bx b rows.length c) bx k rows) F
 |agg (cs:List DV) (Fs:Nat->Nat->Prop) (F:Nat->Prop) (hr:∀(i:Nat) d,cs[i]? =some d->Ok w S d (Fs i))
  (hd:∀i i' x,Fs i x->Fs i' x->i=i') (CG:∀i x,Fs i x->∃d,cs[i]? =some d) (hF:∀x,F x↔∃i,Fs i x):Ok w S (.agg cs) F
 |Bo (cs:List DV) (Fs:Nat->Nat->Prop) (F:Nat->Prop) (hr:∀(i:Nat) d,cs[i]? =some d->Ok w S d (Fs i))
  (hd:∀i i' x,Fs i x->Fs i' x->i=i') (CG:∀i x,Fs i x->∃d,cs[i]? =some d) (hF:∀x,F x↔∃i,Fs i x):Ok w S (.Bo cs) F
variable{w w':jm}{S S':jc}{d:DV}{F F':jc}
theorem Ok.Lq(h:Ok w S d F):gV d:=by induction h with|lf a v F ha hF=>exact .lf a v ha.EK|nil k F hF=>exact .own _ _ _ _ ak|own bx k rows b c arr E Fs F hb hk Ex hS hv hr hd CG Lb hF ih=>exact .own _ _ _ _ ih|agg cs Fs F hr hd CG hF ih=>exact .agg cs ih|Bo cs Fs F hr hd CG hF ih=>exact .Bo cs ih
theorem Ok.GF(h:Ok w S d F):∀x,F x->¬S x:=by induction h with|lf a v F ha hF|nil k F hF=>simp_all|own bx k rows b c arr E Fs F hb hk Ex hS hv hr hd CG Lb hF ih|agg cs Fs F hr hd CG hF ih=>grind|Bo cs Fs F hr hd CG hF ih=>grind
theorem Ok.lt(h:Ok w S d F):∀x,F x->x<w.heap.size:=by induction h with|lf a v F ha hF|nil k F hF=>simp_all|own bx k rows b c arr E Fs F hb hk Ex hS hv hr hd CG Lb hF ih=>grind|agg cs Fs F hr hd CG hF ih|Bo cs Fs F hr hd CG hF ih=>grind
theorem Ok.congr(h:Ok w S d F)(a:∀x,F' x↔F x):Ok w S d F':=by have:F'=F:=funext λx=>propext (a x);simp_all
theorem Ok.mono(h:Ok w S d F)(n:∀b,S b->w'.heap[b]? =w.heap[b]?)(g:∀b,F b->w'.heap[b]? =w.heap[b]?)(m:∀b,S b->S' b)(hn:∀x,F x->¬S' x):Ok w' S' d F:=by induction h with|lf a v F ha hF=>exact .lf a v F (ha.mono n m) hF|nil k F hF=>exact .nil k F hF|own bx k rows b c arr E Fs F hb hk Ex Mp hv hr hd CG Lb hF ih=>refine .own bx k rows b c arr E Fs F ?_ hk Ex (hn b ((hF b).2 (.inl rfl))) hv (λi j row d f l=>ih i j row d f l ?_ ?_) hd CG Lb hF;all_goals grind|agg cs Fs F hr hd CG hF ih=>exact .agg cs Fs F (λi d f=>ih i d f (λx e=>g x ((hF x).2 ⟨i,e⟩)) (λx e=>hn x ((hF x).2 ⟨i,e⟩))) hd CG hF|Bo cs Fs F hr hd CG hF ih=>exact .Bo cs Fs F (λi d f=>ih i d f (λx e=>g x ((hF x).2 ⟨i,e⟩)) (λx e=>hn x ((hF x).2 ⟨i,e⟩))) hd CG hF
theorem Ok.BO(h:Ok w S d F)(e:BO d p=some new):∃F',Ok w S new F'/\∀y,F' y->F y:=by induction p generalizing d F with|nil=>simp only[Abs.BO,AAI]at e;grind|cons s p ih=>obtain⟨i,j,k⟩:=s;cases h with|lf a v _ ha hF|nil k _ hF=>simp[Abs.BO]at e|own bx k rows b c arr E Fs _ hb hk Ex Mp hv hr hd CG Lb hF|agg cs Fs _ hr hd CG hF=>simp only[Abs.BO]at e;grind|Bo cs Fs _ hr hd CG hF=>simp only[Abs.BO]at e;grind
mutual
def KX:AV->AV|.own false k rows=>.sl false k (NG rows)|.own true _ _=>.dead|.agg cs=>.agg (eY cs)|.Bo cs=>.Bo (eY cs)|.sc v=>.sc v|.sl x k rows=>.sl x k rows|_=>.dead
def eY:List AV->List AV|[]=>[]|a::r=>KX a::eY r
def NG:List (List AV)->List (List AV)|[]=>[]|a::r=>eY a::NG r
end
theorem Y8(l:jj):eY l=l.map KX:=by induction l with|nil=>rfl|cons d r ih=>simp[eY,ih]
theorem Uz(l:jk):NG l=l.map (·.map KX):=by induction l with|nil=>rfl|cons d r ih=>simp[NG,ih,Y8]
@[simp]theorem Pk(k:Nat)(rows:jk):KX (.own false k rows)=.sl false k (rows.map (·.map KX)):=by simp[KX,Uz]
@[simp]theorem AAB(k:Nat)(rows:jk):KX (.own true k rows)=.dead:=by simp[KX]
@[simp]theorem AAA(a:jj):KX (.agg a)=.agg (a.map KX):=by simp[KX,Y8]
@[simp]theorem AAC(a:jj):KX (.Bo a)=.Bo (a.map KX):=by simp[KX,Y8]
@[simp]theorem frz_sc(v:jA):KX (.sc v)=.sc v:=by simp[KX]
@[simp]theorem frz_sl(x:Bool)(k:Nat)(rows:jk):KX (.sl x k rows)=.sl x k rows:=by simp[KX]
theorem frz_leaf{a:AV}(h:IF w S a v):Fz w S (KX a) v:=by cases a with|sc u=>obtain⟨rfl,b⟩:=h;simpa using Fz.sc v b|sl x k rows=>rw[frz_sl];exact h|_=>first|exact h.elim| (simp only[KX];exact .dead v)
theorem Ok.freeze(h:Ok w S d F):Fz w (λx=>S x\/F x) (KX d.er) d.BJ:=by
 induction h with
 |lf a v F ha hF=>simp only[FG,LX];exact(frz_leaf ha).mono (λ_ _=>rfl) (λ_ h=>.inl h)
 |nil k F hF=>simpa using Fz.nil false k none 0 ak
 |own bx k rows b c arr E Fs F hb hk Ex Mp hv hr hd CG Lb hF ih=>cases bx with|true=>simp only[Ft,AAB];exact .dead _|false=>simp only[Ft,Pk,Mm,Kh,List.map_map];have g:((rows.map ((λx=>x.map KX) ∘ λx=>x.map DV.er))).length=rows.length:=ak;rw[show(Value.slice (some ⟨b,0,none⟩) rows.length c)=Value.slice (some ⟨b,0,none⟩) (rows.map ((λx=>x.map KX) ∘ λx=>x.map DV.er)).length c from by rw[g]];refine Fz.sl false k _ b 0 c (λi j=>(arr[i*k+j]?).getD undef) ak am (.inr ((hF b).2 (.inl rfl))) ?_ ?_ ?_;simp_all;intro i j row a e f;simp only[List.getElem?_map,Option.map_eq_some_iff]at e;obtain⟨n,l,rfl⟩:=e;simp only[Function.comp,List.map_map,List.getElem?_map,Option.map_eq_some_iff]at f;obtain⟨d0,m,rfl⟩:=f;simp[World.cell?,hb,hv i j n d0 l m];intro i j row a e f;simp only[List.getElem?_map,Option.map_eq_some_iff]at e;obtain⟨n,l,rfl⟩:=e;simp only[Function.comp,List.map_map,List.getElem?_map,Option.map_eq_some_iff]at f;obtain⟨d0,m,rfl⟩:=f;simp only[hv i j n d0 l m,Option.getD_some];refine(ih i j n d0 l m).mono (λ_ _=>rfl) ?_;grind
 |agg cs Fs F hr hd CG hF ih|Bo cs Fs F hr hd CG hF ih=>
  simp only[JI,LZ,AAA,AAC,Ml,PZ];first|refine Fz.agg _ _ ak ?_|refine Fz.Bo _ _ ak ?_
  intro i a v e f;simp only[List.map_map,List.getElem?_map,Option.map_eq_some_iff]at e f;obtain⟨d1,e,rfl⟩:=e;obtain⟨o,f,rfl⟩:=f;obtain rfl:d1=o:=am;refine(ih i d1 e).mono (λ_ _=>rfl) ?_;grind
end
variable{i off b:Nat}{bx:Bool}{rows:jp}{row:jz}{Q:DV}
section
variable{w w':jm}{S S':jc}{d:DV}{F F':jc}
def U7:Value->ABi Nat|.slice (some a) _ _=>some a.block|.pointer (some a)=>some a.block|_=>none
@[simp]theorem Z1(bx:Bool)(b n c:Nat):U7 (Kh bx b n c)=some b:=by cases bx<;>rfl
theorem idx_inj(e:n<k)(d:b<k)(h:i*k+n=off*k+b):i=off/\n=b:=by
 have c:0<k:=ah;have f:(i*k+n)/k=i:=by rw[ABN,Nat.mul_add_div c,Nat.div_eq_of_lt e];rfl
 have g:(off*k+b)/k=off:=by rw[ABN,Nat.mul_add_div c,Nat.div_eq_of_lt d];rfl
 simp_all
theorem Tb(w:jm)(b o:Nat)(v:jA)(arr:kg)(E:j7)(fz:Nat×Nat)(a:w.heap[b]? =some (.cells arr E fz)):(w.setCell ⟨b,o,none⟩ v).heap[b]? =some (.cells (arr.setIfInBounds o v) E fz):=by simp[World.setCell,Array.getElem?_modify,a]
theorem EX(w:jm)(b o x:Nat)(v:jA)(h:x≠b):(w.setCell ⟨b,o,none⟩ v).heap[x]? =w.heap[x]? :=by simp only[World.setCell,Array.getElem?_modify];grind
theorem US{rows:List (List f)}{row:List f}{x:f}(d:∀row∈rows,row.length=k)(b:rows[i]? =some row)(c:row[n]? =some x):n<k:=aA
theorem Ok.store{Fn:jc}(p:ji)(h:Ok w S d F)(y:Abs.BO d p=some (.own v bx k rows))(H:rows[i]? =some row)(R:row[n]? =some Q)(hb:U7 v=some b)(hn:Ok (w.setCell ⟨b,i*k+n,none⟩ new.BJ) S new Fn)(G:∀x,Fn x->¬F x):∃t F',FH d (p++[(i,n,k)]) new=some t/\Ok (w.setCell ⟨b,i*k+n,none⟩ new.BJ) S t F'/\(∀x,F' x->F x\/Fn x)/\t.BJ=d.BJ/\F b:=by induction p generalizing d F with|nil=>(simp only[Abs.BO,AAI]at y;subst y;generalize Z:v=xK at h;cases h with|nil k _ hF=>simp at H|own _ _ _ b' c arr E Fs _ hbb hk Ex Mp v hr hd CG Lb hF=>subst Z;simp only[Z1,AAI]at hb;subst hb;have W:=US hk H R;have z:=(AAJ.1 H).1;have B:=(AAJ.1 R).1;have Mw:i*k+n<arr.size:=(by have:=v i n row Q H R;exact(AA2.1 this).1);refine⟨.own (Kh bx b' rows.length c) bx k (rows.set i (row.set n new)),λx=>x=b'\/∃g o,(if g=i/\o=n then Fn else Fs g o) x,?_,?_,?_,ak,(hF b').2 (.inl rfl)⟩;simp[FH,H,R];rw[show(Kh bx b' rows.length c)=Kh bx b' (rows.set i (row.set n new)).length c from by simp];refine Ok.own bx k _ b' c (arr.setIfInBounds (i*k+n) new.BJ) E (λg o=>if g=i/\o=n then Fn else Fs g o) _ (Tb _ _ _ _ _ _ _ hbb) ?_ ?_ Mp ?_ ?_ ?_ ?_ ?_ (λx=>ABb);(intro r mC;rcases AAw mC with h|rfl);exact hk r h;simp[hk row (AAW H)];simpa using Ex;intro g o r e m l;by_cases hi:g=i;subst hi;rw[AAN z]at m;obtain rfl:=AAK m;by_cases M:o=n;subst M;rw[AAN B]at l;obtain rfl:=AAK l;simp[Mw];rw[AAV ah]at l;rw[Array.getElem?_setIfInBounds_ne (by have:=US hk H l;omega)];exact v g o row e H l;rw[AAV ah]at m;rw[Array.getElem?_setIfInBounds_ne];exact v g o r e m l;intro he;exact hi (idx_inj (US hk m l) W he.symm).1;intro g o r e m l;by_cases u:g=i/\o=n;obtain⟨rfl,rfl⟩:=u;rw[AAN z]at m;obtain rfl:=AAK m;rw[AAN B]at l;obtain rfl:=AAK l;simpa using hn;(simp only[u,AAY];have hold:Ok w S e (Fs g o):=by by_cases hi:g=i;subst hi;have M:o≠n:=λe=>u ⟨rfl,e⟩;rw[AAN z]at m;obtain rfl:=AAK m;rw[AAV ah]at l;exact hr g o row e H l;rw[AAV ah]at m;exact hr g o r e m l);refine hold.mono (λx f=>EX _ _ _ _ _ ?_) (λx f=>EX _ _ _ _ _ ?_) (λ_ h=>h) hold.GF;rintro rfl;exact Mp f;rintro rfl;exact Lb _ _ f;intro i1 j1 i2 j2 x f q;split at f<;>split at q;rename_i a b;omega;exact absurd ((hF x).2 (.inr ⟨i2,j2,q⟩)) (G x f);exact absurd ((hF x).2 (.inr ⟨i1,j1,f⟩)) (G x q);exact hd _ _ _ _ x f q;intro i1 j1 x f;split at f;rename_i u;obtain⟨rfl,rfl⟩:=u;exact⟨_,new,AAN z,AAN B⟩;obtain⟨r,e,m,l⟩:=CG i1 j1 x f;by_cases hi:i1=i;subst hi;rename_i P;have M:j1≠n:=λe=>P ⟨rfl,e⟩;obtain rfl:row=r:=(by rw[H]at m;exact AAK m);exact⟨_,e,AAN z,by rw[AAV ah];exact l⟩;exact⟨r,e,by rw[AAV ah];exact m,l⟩;intro i1 j1 f;split at f;exact G b' f ((hF b').2 (.inl rfl));exact Lb _ _ f;rintro x (rfl|⟨i1,j1,f⟩);exact .inl ((hF x).2 (.inl rfl));split at f;exact .inr f;exact .inl ((hF x).2 (.inr ⟨i1,j1,f⟩)))|cons s p ih=>obtain⟨i0,j0,k0⟩:=s;cases h with|lf a D _ ha hF|nil k _ hF=>simp[Abs.BO]at y|own bx0 k1 MR b0 c arr E Fs _ hbb hk Ex Mp v hr hd CG Lb hF=>simp only[Abs.BO]at y;split at y;split at y;rename_i J I _ O C;obtain⟨t,N,X,T,K,U,L⟩:=ih (hr i0 j0 J O I C) y (λx f V=>G x f ((hF x).2 (.inr ⟨i0,j0,V⟩)));have P:b0≠b:=(by rintro rfl;exact Lb _ _ L);have z:=(AAJ.1 I).1;have B:=(AAJ.1 C).1;refine⟨.own (Kh bx0 b0 MR.length c) bx0 k1 (MR.set i0 (J.set j0 t)),λx=>x=b0\/∃g o,(if g=i0/\o=j0 then N else Fs g o) x,?_,?_,?_,ak,(hF b).2 (.inr ⟨i0,j0,L⟩)⟩;simp[FH,I,C,X];rw[show(Kh bx0 b0 MR.length c)=Kh bx0 b0 (MR.set i0 (J.set j0 t)).length c from by simp];refine Ok.own bx0 k1 _ b0 c arr E (λg o=>if g=i0/\o=j0 then N else Fs g o) _ (by rw[EX _ _ _ _ _ P];exact hbb) ?_ (by simpa using Ex) Mp ?_ ?_ ?_ ?_ ?_ (λx=>ABb);(intro r mC;rcases AAw mC with h|rfl);exact hk r h;simp[hk J (AAW I)];intro g o r e m l;by_cases hi:g=i0;subst hi;rw[AAN z]at m;obtain rfl:=AAK m;by_cases M:o=j0;subst M;rw[AAN B]at l;obtain rfl:=AAK l;rw[U];exact v g o J O I C;rw[AAV ah]at l;exact v g o J e I l;rw[AAV ah]at m;exact v g o r e m l;intro g o r e m l;by_cases u:g=i0/\o=j0;obtain⟨rfl,rfl⟩:=u;rw[AAN z]at m;obtain rfl:=AAK m;rw[AAN B]at l;obtain rfl:=AAK l;simpa using T;(simp only[u,AAY];have hold:Ok w S e (Fs g o):=by by_cases hi:g=i0;subst hi;have M:o≠j0:=λe=>u ⟨rfl,e⟩;rw[AAN z]at m;obtain rfl:=AAK m;rw[AAV ah]at l;exact hr g o J e I l;rw[AAV ah]at m;exact hr g o r e m l);refine hold.mono (λx f=>EX _ _ _ _ _ ?_) (λx f=>EX _ _ _ _ _ ?_) (λ_ h=>h) hold.GF;rintro rfl;exact(hr i0 j0 J O I C).GF x L f;rintro rfl;exact u (hd _ _ _ _ x f L);intro i1 j1 i2 j2 x f q;split at f<;>split at q;rename_i a b;omega;(rename_i a b;rcases K x f with h|h);exact absurd (hd _ _ _ _ x q h) b;exact absurd ((hF x).2 (.inr ⟨i2,j2,q⟩)) (G x h);(rename_i a b;rcases K x q with h|h);exact absurd (hd _ _ _ _ x f h) a;exact absurd ((hF x).2 (.inr ⟨i1,j1,f⟩)) (G x h);exact hd _ _ _ _ x f q;intro i1 j1 x f;split at f;rename_i u;obtain⟨rfl,rfl⟩:=u;exact⟨_,t,AAN z,AAN B⟩;obtain⟨r,e,m,l⟩:=CG i1 j1 x f;by_cases hi:i1=i0;subst hi;rename_i P;have M:j1≠j0:=λe=>P ⟨rfl,e⟩;obtain rfl:J=r:=(by rw[I]at m;exact AAK m);exact⟨_,e,AAN z,by rw[AAV ah];exact l⟩;exact⟨r,e,by rw[AAV ah];exact m,l⟩;intro i1 j1 f;split at f;(rcases K b0 f with h|h);exact Lb _ _ h;exact G b0 h ((hF b0).2 (.inl rfl));exact Lb _ _ f;rintro x (rfl|⟨i1,j1,f⟩);exact .inl ((hF x).2 (.inl rfl));split at f;(rcases K x f with h|h);exact .inl ((hF x).2 (.inr ⟨i0,j0,h⟩));exact .inr h;exact .inl ((hF x).2 (.inr ⟨i1,j1,f⟩));cases y;cases y|agg cs Fs _ hr hd CG hF|Bo cs Fs _ hr hd CG hF=>simp only[Abs.BO]at y;split at y;rename_i O C;obtain⟨t,N,X,T,K,U,L⟩:=ih (hr j0 O C) y (λx f V=>G x f ((hF x).2 ⟨j0,V⟩));have B:=(AAJ.1 C).1;refine⟨_,λx=>∃g,(if g=j0 then N else Fs g) x,(by simp only[AA3,FH,C,X];rfl),?_,?_,?_,(hF b).2 ⟨j0,L⟩⟩;(first|refine Ok.agg _ (λg=>if g=j0 then N else Fs g) _ ?_ ?_ ?_ (λx=>ABb)|refine Ok.Bo _ (λg=>if g=j0 then N else Fs g) _ ?_ ?_ ?_ (λx=>ABb));intro g e l;by_cases hi:g=j0;subst hi;rw[AAN B]at l;obtain rfl:=AAK l;simpa using T;simp only[hi,AAY];rw[AAV ah]at l;refine(hr g e l).mono (λx f=>EX _ _ _ _ _ ?_) (λx f=>EX _ _ _ _ _ ?_) (λ_ h=>h) (hr g e l).GF;rintro rfl;exact(hr j0 O C).GF x L f;rintro rfl;exact hi (hd _ _ x f L);intro i1 i2 x f q;split at f<;>split at q;omega;(rename_i a b;rcases K x f with h|h);exact absurd (hd _ _ x q h) b;exact absurd ((hF x).2 ⟨i2,q⟩) (G x h);(rename_i a b;rcases K x q with h|h);exact absurd (hd _ _ x f h) a;exact absurd ((hF x).2 ⟨i1,f⟩) (G x h);exact hd _ _ x f q;intro i1 x f;split at f;rename_i u;subst u;exact⟨t,AAN B⟩;rename_i u;obtain⟨e,m⟩:=CG i1 x f;exact⟨e,by rw[AAV ah];exact m⟩;rintro x ⟨i1,f⟩;split at f;(rcases K x f with h|h);exact .inl ((hF x).2 ⟨j0,h⟩);exact .inr h;exact .inl ((hF x).2 ⟨i1,f⟩);simp only[Ml,PZ,ABI,U];congr 2;apply List.ext_getElem?;intro j;by_cases hn:j=j0;subst hn;rw[AAN (by simpa using B)];simp[C];rw[AAV ah];cases y
end
variable{δ:jv}{L:ju}
section
structure Gi where
 rt:List (Nat×List Nat)
def Gi.HR(G:Gi)(s:Nat):List Nat:=match G.rt.find? (·.1==s)with|some x=>x.2|none=>[]
def Gi.QH(G:Gi)(d:Nat):List Nat:=(G.rt.filter (λx=>x.2.contains d)).map (·.1)
variable{G:Gi}
theorem Gi.mem_als(h:n∈G.HR k):k∈G.QH n:=by unfold Gi.HR at h;split at h;rename_i x b;have a:=List.find?_some b;have c:=List.mem_of_find?_eq_some b;simp only[AAT]at a;subst a;simp only[Gi.QH,ABZ,List.mem_filter];grind;cases h
mutual
def Gl(L:ju):AV->Bool|.al r _=>L.contains r|.Lu r _ _ _ _=>L.contains r|.cl _ rs=>rs.all λx=>L.contains x.1|.vb s _ _=>L.contains s|.cb _ _ _ ss=>ss.all λx=>L.contains x.1|.agg cs=>Rn L cs|.Bo cs=>Rn L cs|_=>true
def cr{p:Prop}(h:p:=by simp[Gl]):p:=h
def Rn(L:ju):List AV->Bool|[]=>true|a::r=>Gl L a&&Rn L r
end
theorem mY(L:ju)(l:jj):Rn L l=l.all (Gl L):=by induction l with|nil=>rfl|cons d r ih=>simp[Rn,ih]
mutual
def Gj(d:Nat):AV->Bool|.al r _=>r != d|.Lu r _ _ _ _=>r != d|.cl _ rs=>rs.all λx=>x.1 != d|.vb s _ _=>s != d|.cb _ _ _ ss=>ss.all λx=>x.1 != d|.agg cs=>Pv d cs|.Bo cs=>Pv d cs|_=>true
def Pv(d:Nat):List AV->Bool|[]=>true|a::r=>Gj d a&&Pv d r
end
theorem jY(d:Nat)(l:jj):Pv d l=l.all (Gj d):=by induction l with|nil=>rfl|cons a r ih=>simp[Pv,ih]
mutual
def EJ(d:Nat):AV->AV|.al r p=>if r=d then .dead else .al r p|.Lu r p i j k=>if r=d then .dead else .Lu r p i j k|.cl f rs=>if(rs.all λx=>x.1 != d)=true then .cl f rs else .dead|.vb s o us=>if s=d then .dead else .vb s o us|.cb f vs b ss=>if(ss.all λx=>x.1 != d)=true then .cb f vs b ss else .dead|.agg cs=>.agg (RD d cs)|.Bo cs=>.Bo (RD d cs)|a=>a
def cT{p:Prop}(h:p:=by simp[EJ]):p:=h
def RD(d:Nat):List AV->List AV|[]=>[]|a::r=>EJ d a::RD d r
end
theorem jT(d:Nat)(l:jj):RD d l=l.map (EJ d):=by induction l with|nil=>rfl|cons a r ih=>simp[RD,ih]
@[simp]theorem rin_sc(L:ju)(v:jA):Gl L (.sc v):=cr
@[simp]theorem rin_sl(L:ju)(x:Bool)(k:Nat)(rows:jk):Gl L (.sl x k rows):=cr
@[simp]theorem rin_own(L:ju)(x:Bool)(k:Nat)(rows:jk):Gl L (.own x k rows):=cr
@[simp]theorem rin_fp(L:ju)(a:jj):Gl L (.fp a):=cr
@[simp]theorem rin_dead(L:ju):Gl L .dead:=cr
@[simp]theorem rin_un(L:ju):Gl L .un:=cr
@[simp]theorem LJ(L:ju)(r:Nat)(p:ji):Gl L (.al r p)=L.contains r:=cr
@[simp]theorem ZC(L:ju)(r:Nat)(p:ji)(i j k:Nat):Gl L (.Lu r p i j k)=L.contains r:=cr
@[simp]theorem LH(L:ju)(a:jj):Gl L (.agg a)=a.all (Gl L):=by simp[Gl,mY]
@[simp]theorem P5(L:ju)(a:jj):Gl L (.Bo a)=a.all (Gl L):=by simp[Gl,mY]
@[simp]theorem killr_sc(d:Nat)(v:jA):EJ d (.sc v)=.sc v:=cT
@[simp]theorem killr_sl(d:Nat)(x:Bool)(k:Nat)(rows:jk):EJ d (.sl x k rows)=.sl x k rows:=cT
@[simp]theorem killr_own(d:Nat)(x:Bool)(k:Nat)(rows:jk):EJ d (.own x k rows)=.own x k rows:=cT
@[simp]theorem killr_fp(d:Nat)(a:jj):EJ d (.fp a)=.fp a:=cT
@[simp]theorem killr_dead(d:Nat):EJ d .dead=.dead:=cT
@[simp]theorem killr_un(d:Nat):EJ d .un=.un:=cT
@[simp]theorem aL(d r:Nat)(p:ji):EJ d (.al r p)=if r=d then .dead else .al r p:=cT
@[simp]theorem Wy(d r:Nat)(p:ji)(i j k:Nat):EJ d (.Lu r p i j k)=if r=d then .dead else .Lu r p i j k:=cT
@[simp]theorem killr_agg(d:Nat)(a:jj):EJ d (.agg a)=.agg (a.map (EJ d)):=by simp[EJ,jT]
@[simp]theorem killr_tup(d:Nat)(a:jj):EJ d (.Bo a)=.Bo (a.map (EJ d)):=by simp[EJ,jT]
@[simp]theorem rin_fcl(L:ju)(f:Nat)(a:jk):Gl L (.Y7 f a):=cr
@[simp]theorem killr_fcl(d f:Nat)(a:jk):EJ d (.Y7 f a)=.Y7 f a:=cT
@[simp]theorem rin_vb(L:ju)(s o:Nat)(a:jw):Gl L (.vb s o a)=L.contains s:=cr
@[simp]theorem aM(d s o:Nat)(a:jw):EJ d (.vb s o a)=if s=d then .dead else .vb s o a:=cT
@[simp]theorem nroot_vb(d s o:Nat)(a:jw):Gj d (.vb s o a)=(s != d):=by simp[Gj]
@[simp]theorem rin_cl(L:ju)(f:Nat)(rs:ky):Gl L (.cl f rs)=rs.all λx=>L.contains x.1:=cr
@[simp]theorem VK(d f:Nat)(rs:ky):EJ d (.cl f rs)=if(rs.all λx=>x.1 != d)=true then .cl f rs else .dead:=cT
@[simp]theorem nroot_cl(d f:Nat)(rs:ky):Gj d (.cl f rs)=rs.all λx=>x.1 != d:=by simp[Gj]
@[simp]theorem rin_cb(L:ju)(f:Nat)(vs:jw)(b:Nat)(a:nE):Gl L (.cb f vs b a)=a.all λx=>L.contains x.1:=cr
@[simp]theorem VJ(d f:Nat)(vs:jw)(b:Nat)(a:nE):EJ d (.cb f vs b a)=if(a.all λx=>x.1 != d)=true then .cb f vs b a else .dead:=cT
@[simp]theorem nroot_cb(d f:Nat)(vs:jw)(b:Nat)(a:nE):Gj d (.cb f vs b a)=a.all λx=>x.1 != d:=by simp[Gj]
@[simp]theorem nroot_agg(d:Nat)(a:jj):Gj d (.agg a)=a.all (Gj d):=by simp[Gj,jY]
@[simp]theorem nroot_tup(d:Nat)(a:jj):Gj d (.Bo a)=a.all (Gj d):=by simp[Gj,jY]
@[simp]theorem nroot_al(d r:Nat)(p:ji):Gj d (.al r p)=(r != d):=by simp[Gj]
@[simp]theorem nroot_adr(d r:Nat)(p:ji)(i j k:Nat):Gj d (.Lu r p i j k)=(r != d):=by simp[Gj]
mutual
def JY(d:Nat):DV->DV|.lf a v=>.lf (EJ d a) v|.own h b k rows=>.own h b k rows|.agg cs=>.agg (aE d cs)|.Bo cs=>.Bo (aE d cs)
def aE(d:Nat):List DV->List DV|[]=>[]|a::r=>JY d a::aE d r
end
theorem jQ(d:Nat)(l:jz):aE d l=l.map (JY d):=by induction l with|nil=>rfl|cons a r ih=>simp[aE,ih]
@[simp]theorem VG(d:Nat)(a:AV)(v:jA):JY d (.lf a v)=.lf (EJ d a) v:=by simp[JY]
@[simp]theorem SX(d:Nat)(h:jA)(b:Bool)(k:Nat)(rows:jp):JY d (.own h b k rows)=.own h b k rows:=by simp[JY]
@[simp]theorem O5(d:Nat)(a:jz):JY d (.agg a)=.agg (a.map (JY d)):=by simp[JY,jQ]
@[simp]theorem O6(d:Nat)(a:jz):JY d (.Bo a)=.Bo (a.map (JY d)):=by simp[JY,jQ]
variable{w w':jm}{S S':jc}{x:DV}{F F':jc}
theorem MH(d:Nat)(h:Ok w S x F):(JY d x).er=EJ d x.er/\(JY d x).BJ=x.BJ/\Ok w S (JY d x) F/\Gj d (JY d x).er:=by
 induction h with
 |lf a v F ha hF=>refine⟨ak,ak,?_,?_⟩;(rw[VG];refine .lf _ v F ?_ hF;cases a with|al r p=>rw[aL];by_cases h:r=d<;>simp[h,IF]|Lu r p i j k=>rw[Wy];by_cases h:r=d<;>simp[h,IF]|cl f rs=>rw[VK];split<;>trivial|vb s o us=>(rw[aM];split<;>first|trivial|exact ha)|cb f vs b ss=>(rw[VJ];split<;>first|trivial|exact ha)|agg cs|Bo cs=>exact ha.elim|own=>exact ha.elim|_=>simp_all);have:=ha.EK;cases a with|al r p|Lu r p i j k=>by_cases h:r=d<;>simp[h,Gj]|vb s o us=>by_cases h:s=d<;>simp[h,Gj]|cl f rs=>simp only[VG,FG,VK];split;rename_i h;simpa using h;simp[Gj]|cb f vs b ss=>simp only[VG,FG,VJ];split;simp_all;simp[Gj]|agg cs=>exact ha.elim|Bo cs|own=>exact ha.elim|_=>simp[Gj]
 |nil k F hF=>exact⟨ak,ak,by rw[SX];exact .nil k F hF,by simp[Gj]⟩
 |own bx k rows b c arr E Fs F hb hk Ex Mp hv hr hd CG Lb hF ih=>exact⟨ak,ak,by rw[SX];exact .own bx k rows b c arr E Fs F hb hk Ex Mp hv hr hd CG Lb hF,by simp[Gj]⟩
 |agg cs Fs F hr hd CG hF ih|Bo cs Fs F hr hd CG hF ih=>
  have key:∀e∈cs,(JY d e).er=EJ d e.er/\(JY d e).BJ=e.BJ/\Gj d (JY d e).er:=by intro e g;obtain⟨i,hi⟩:=List.getElem?_of_mem g;exact⟨(ih i e hi).1,(ih i e hi).2.1,(ih i e hi).2.2.2⟩
  refine⟨?_,?_,?_,?_⟩;simp_all;simp_all;(. (first|rw[O5]|rw[O6]);(first|refine .agg _ Fs F ?_ hd ?_ hF|refine .Bo _ Fs F ?_ hd ?_ hF);all_goals grind);simp only[O5,O6,JI,LZ,nroot_agg,nroot_tup,List.map_map,List.all_map,List.all_eq_true];grind
def OQ(δ:jv):AV->Value->Prop|.al r p,v=>∃bx k rows,BO (δ r) p=some (.own v bx k rows)|.Lu r p i j k,v=>∃h bx rows b,BO (δ r) p=some (.own h bx k rows)/\U7 h=some b/\v=.pointer (some ⟨b,i*k+j,none⟩)|.vb s _ us,_=>(δ s).BJ=.agg us.toArray|.cb _ vs _ ss,_=>vs.length=ss.length/\∀(i:Nat) s fl u,ss[i]? =some (s,fl)->vs[i]? =some u->(δ s).BJ=u/\(fl=true->∃bx k rows,BO (δ s) []=some (.own u bx k rows))|.cl f rs,v=>∃vs:List Value,v=.func (.func f) #[] vs.toArray/\vs.length=rs.length/\∀(i:Nat) r p u,rs[i]? =some (r,p)->vs[i]? =some u->∃bx k rows,BO (δ r) p=some (.own u bx k rows)|_,_=>True
inductive EC (δ:Nat->DV):DV->Prop
 |lf (a v) (h:OQ δ a v):EC δ (.lf a v)
 |own (h b k rows):EC δ (.own h b k rows)
 |agg (cs) (hr:∀(i:Nat) d,cs[i]? =some d->EC δ d):EC δ (.agg cs)
 |Bo (cs) (hr:∀(i:Nat) d,cs[i]? =some d->EC δ d):EC δ (.Bo cs)
theorem EC.mono{e:jv}(h:EC δ x)(g:Gl L x.er)(w:∀r∈L,∀p v bx k rows,BO (δ r) p=some (.own v bx k rows)->∃c,BO (e r) p=some (.own v bx k c))(y:∀r∈L,(e r).BJ=(δ r).BJ):EC e x:=by
 induction h with
 |lf a v h=>refine .lf a v ?_;cases a with|al r p=>obtain⟨bx,k,rows,h⟩:=h;obtain⟨c,l⟩:=w r am p v bx k rows h;exact⟨bx,k,c,l⟩|Lu r p i j k=>obtain⟨t,bx,rows,b,h,B,rfl⟩:=h;obtain⟨c,l⟩:=w r am p t bx k rows h;exact⟨t,bx,c,b,l,B,rfl⟩|vb s o us=>exact(y s am).trans h|cb f vs b ss=>refine⟨h.1,λi s fl u hi m=>?_⟩;simp only[FG,rin_cb,List.all_eq_true]at g;have C:s∈L:=(by simpa using g _ (List.mem_of_getElem? hi));obtain⟨n,q⟩:=h.2 i s fl u hi m;grind|cl f rs=>obtain⟨vs,n,q,z⟩:=h;refine⟨vs,n,q,λi r p u hi m=>?_⟩;obtain⟨bx,k,rows,C⟩:=z i r p u hi m;simp only[FG,rin_cl,List.all_eq_true]at g;grind|_=>trivial
 |own=>exact .own _ _ _ _
 |agg cs _ ih|Bo cs _ ih=>
  first|refine .agg cs λi d hd=>ih i d hd ?_|refine .Bo cs λi d hd=>ih i d hd ?_
  simp only[JI,LZ,LH,P5,List.all_map,List.all_eq_true]at g;grind
theorem rin_nroot{a:AV}:Gl L a->k∉L->Gj k a:=by
 refine AV.rec (motive_1:=λa=>Gl L a=true->k∉L->Gj k a) (motive_2:=λ_=>True) (motive_3:=λl=>Rn L l=true->k∉L->Pv k l)
  ?_ ?_ ?_ ?_ ?_ ?_ ?_ ?_ ?_ ?_ ?_ ?_ ?_ ?_ ?_ ?_ ?_ ?_ a
 all_goals intros
 all_goals first|trivial|simp[Gj];done|skip
 all_goals simp_all [Gl,Rn,Pv,Gj]
 all_goals grind
theorem killr_rin{a:AV}:Gl L a->Gl L (EJ k a):=by
 refine AV.rec (motive_1:=λa=>Gl L a=true->Gl L (EJ k a)) (motive_2:=λ_=>True) (motive_3:=λl=>Rn L l=true->Rn L (RD k l))
  ?_ ?_ ?_ ?_ ?_ ?_ ?_ ?_ ?_ ?_ ?_ ?_ ?_ ?_ ?_ ?_ ?_ ?_ a
 all_goals intros
 all_goals first|trivial| (simp_all [Gl,Rn,EJ,RD];done)|skip
 all_goals first| (simp only[EJ];split<;>simp_all [Gl];done)| (simp only[EJ];split<;>first|assumption|simp[Gl])| (rename_i b h;simp only[EJ,Gl]at h |-;exact b h)
end
variable{m:DV}
section
variable{w w':jm}{S S':jc}{d:DV}{F F':jc}
theorem Ok.replace(p:ji)(h:Ok w S d F)(C:Abs.BO d p=some new):∃u,Ok w S new u/\(∀x,u x->F x)/\∀(w':jm)(S':jc)(n:DV)(Fn:jc),n.BJ=new.BJ->Ok w' S' n Fn->(∀x,Fn x->F x->u x)->(∀b,S b->w'.heap[b]? =w.heap[b]?)->(∀b,F b->¬u b->w'.heap[b]? =w.heap[b]?)->(∀b,S b->S' b)->(∀b,F b->¬u b->¬S' b)->∃t F',FH d p n=some t/\Ok w' S' t F'/\(∀x,F' x↔(F x/\¬u x)\/Fn x)/\t.BJ=d.BJ:=by
 induction p generalizing d F with
 |nil=>simp only[Abs.BO,AAI]at C;subst C;refine⟨F,h,λ_ h=>h,λw' S' n Fn W hn _ _ _ _ _=>⟨n,Fn,rfl,hn,λx=>⟨.inr,?_⟩,W⟩⟩;rintro(⟨z,K⟩|h);exact absurd z K;exact h
 |cons s p ih=>
  obtain⟨i0,j0,k0⟩:=s;cases h with
  |lf a v _ W hF|nil k _ hF=>simp[Abs.BO]at C
  |own bx0 k1 MR b0 c arr E Fs _ hbb hk Ex Mp hv hr hd CG Lb hF=>
   simp only[Abs.BO]at C;split at C
   . split at C
     . rename_i O N _ e0 J;obtain⟨u,ho,U,Pm⟩:=ih (hr i0 j0 O e0 N J) C;have R:∀x,u x->F x:=λx f=>(hF x).2 (.inr ⟨i0,j0,U x f⟩);refine⟨u,ho,R,?_⟩;intro w' S' n Fn W hn B hS X OY V;have Z:=(AAJ.1 N).1;have Q:=(AAJ.1 J).1;obtain⟨t,M,ht,C8,H,Es⟩:=Pm w' S' n Fn W hn (λx f D=>B x f ((hF x).2 (.inr ⟨i0,j0,D⟩))) hS
        (λb T=>X b ((hF b).2 (.inr ⟨i0,j0,T⟩))) OY (λb T=>V b ((hF b).2 (.inr ⟨i0,j0,T⟩)))
       have L:¬u b0:=λh=>Lb _ _ (U _ h);have y:F b0:=(hF b0).2 (.inl rfl);have P:∀i j,¬(i=i0/\j=j0)->∀x,Fs i j x->¬u x:=λi j m x f dU=>m (hd _ _ _ _ x f (U x dU));refine⟨.own (Kh bx0 b0 MR.length c) bx0 k1 (MR.set i0 (O.set j0 t)),λx=>x=b0\/∃g q,(if g=i0/\q=j0 then M else Fs g q) x,?_,?_,?_,ak⟩;simp[FH,N,J,ht];rw[show(Kh bx0 b0 MR.length c)=Kh bx0 b0 (MR.set i0 (O.set j0 t)).length c from by simp];refine Ok.own bx0 k1 _ b0 c arr E (λg q=>if g=i0/\q=j0 then M else Fs g q) _ (by rw[X b0 y L];exact hbb) ?_ (by simpa using Ex) (V b0 y L) ?_ ?_ ?_ ?_ ?_ (λx=>ABb);(intro r mC;rcases AAw mC with h|rfl);exact hk r h;simp[hk O (AAW N)];intro g q r e l o;by_cases hi:g=i0;subst hi;rw[AAN Z]at l;obtain rfl:=AAK l;by_cases hj:q=j0;subst hj;rw[AAN Q]at o;obtain rfl:=AAK o;rw[Es];exact hv g q O e0 N J;rw[AAV ah]at o;exact hv g q O e N o;rw[AAV ah]at l;exact hv g q r e l o;intro g q r e l o;by_cases m:g=i0/\q=j0;obtain⟨rfl,rfl⟩:=m;rw[AAN Z]at l;obtain rfl:=AAK l;rw[AAN Q]at o;obtain rfl:=AAK o;simpa using C8;(simp only[m,AAY];have hold:Ok w S e (Fs g q):=by by_cases hi:g=i0;subst hi;have hj:q≠j0:=λe=>m ⟨rfl,e⟩;rw[AAN Z]at l;obtain rfl:=AAK l;rw[AAV ah]at o;exact hr g q O e N o;rw[AAV ah]at l;exact hr g q r e l o);have I:∀x,Fs g q x->F x/\¬u x:=λx f=>⟨(hF x).2 (.inr ⟨g,q,f⟩),P g q m x f⟩;exact hold.mono hS (λx f=>X x (I x f).1 (I x f).2) OY (λx f=>V x (I x f).1 (I x f).2);(intro i1 j1 i2 j2 x f D;have G:∀i j,¬(i=i0/\j=j0)->Fs i j x->¬M x:=by(intro i j m z K;rcases(H x).1 K with⟨l,o⟩|l);exact m (hd _ _ _ _ x z l);exact P i j m x z (B x l ((hF x).2 (.inr ⟨i,j,z⟩))));split at f<;>split at D;rename_i a b;omega;rename_i a b;exact absurd f (G _ _ b D);rename_i a b;exact absurd D (G _ _ a f);exact hd _ _ _ _ x f D;intro i1 j1 x f;split at f;rename_i m;obtain⟨rfl,rfl⟩:=m;exact⟨_,t,AAN Z,AAN Q⟩;obtain⟨r,e,l,o⟩:=CG i1 j1 x f;by_cases hi:i1=i0;subst hi;rename_i KK;have hj:j1≠j0:=λe=>KK ⟨rfl,e⟩;obtain rfl:O=r:=(by rw[N]at l;exact AAK l);exact⟨_,e,AAN Z,by rw[AAV ah];exact o⟩;exact⟨r,e,by rw[AAV ah];exact l,o⟩;intro i1 j1 f;split at f;(rcases(H b0).1 f with h|h);exact Lb _ _ h.1;exact L (B b0 h y);exact Lb _ _ f;intro x;constructor;rintro(rfl|⟨i1,j1,f⟩);exact .inl ⟨y,L⟩;split at f;(rcases(H x).1 f with h|h);exact .inl ⟨(hF x).2 (.inr ⟨i0,j0,h.1⟩),h.2⟩;exact .inr h;rename_i m;exact .inl ⟨(hF x).2 (.inr ⟨i1,j1,f⟩),P _ _ m x f⟩;rintro(⟨z,K⟩|h);(rcases(hF x).1 z with rfl|⟨i1,j1,l⟩);exact .inl rfl;by_cases m:i1=i0/\j1=j0;obtain⟨rfl,rfl⟩:=m;exact .inr ⟨i1,j1,by simp;exact(H x).2 (.inl ⟨l,K⟩)⟩;exact .inr ⟨i1,j1,by simp only[m,AAY];exact l⟩;exact .inr ⟨i0,j0,by simp;exact(H x).2 (.inr h)⟩
     . cases C
   . cases C
  |agg cs Fs _ hr hd CG hF|Bo cs Fs _ hr hd CG hF=>
   simp only[Abs.BO]at C;split at C
   . rename_i e0 J;obtain⟨u,ho,U,Pm⟩:=ih (hr j0 e0 J) C;have R:∀x,u x->F x:=λx f=>(hF x).2 ⟨j0,U x f⟩;refine⟨u,ho,R,?_⟩;intro w' S' n Fn W hn B hS X OY V;have Q:=(AAJ.1 J).1;obtain⟨t,M,ht,C8,H,Es⟩:=Pm w' S' n Fn W hn (λx f D=>B x f ((hF x).2 ⟨j0,D⟩)) hS
      (λb T=>X b ((hF b).2 ⟨j0,T⟩)) OY (λb T=>V b ((hF b).2 ⟨j0,T⟩))
     have P:∀i,¬i=j0->∀x,Fs i x->¬u x:=λi m x f dU=>m (hd _ _ x f (U x dU));refine⟨_,λx=>∃g,(if g=j0 then M else Fs g) x,(by simp only[FH,J,ht];rfl),?_,?_,?_⟩;(first|refine Ok.agg _ (λg=>if g=j0 then M else Fs g) _ ?_ ?_ ?_ (λx=>ABb)|refine Ok.Bo _ (λg=>if g=j0 then M else Fs g) _ ?_ ?_ ?_ (λx=>ABb));intro g e o;by_cases hi:g=j0;subst hi;rw[AAN Q]at o;obtain rfl:=AAK o;simpa using C8;simp only[hi,AAY];rw[AAV ah]at o;have I:∀x,Fs g x->F x/\¬u x:=λx f=>⟨(hF x).2 ⟨g,f⟩,P g hi x f⟩;exact(hr g e o).mono hS (λx f=>X x (I x f).1 (I x f).2) OY (λx f=>V x (I x f).1 (I x f).2);(intro i1 i2 x f D;have G:∀i,¬i=j0->Fs i x->¬M x:=by(intro i m z K;rcases(H x).1 K with⟨l,o⟩|l);exact m (hd _ _ x z l);exact P i m x z (B x l ((hF x).2 ⟨i,z⟩)));split at f<;>split at D;omega;rename_i a b;exact absurd f (G _ b D);rename_i a b;exact absurd D (G _ a f);exact hd _ _ x f D;intro i1 x f;split at f;rename_i m;subst m;exact⟨t,AAN Q⟩;rename_i m;obtain⟨e,l⟩:=CG i1 x f;exact⟨e,by rw[AAV ah];exact l⟩;intro x;constructor;rintro⟨i1,f⟩;split at f;(rcases(H x).1 f with h|h);exact .inl ⟨(hF x).2 ⟨j0,h.1⟩,h.2⟩;exact .inr h;rename_i m;exact .inl ⟨(hF x).2 ⟨i1,f⟩,P _ m x f⟩;rintro(⟨z,K⟩|h);obtain⟨i1,l⟩:=(hF x).1 z;by_cases m:i1=j0;subst m;exact⟨i1,by simp;exact(H x).2 (.inl ⟨l,K⟩)⟩;exact⟨i1,by simp only[m,AAY];exact l⟩;exact⟨j0,by simp;exact(H x).2 (.inr h)⟩;simp only[Ml,PZ,ABI,Es];congr 2;apply List.ext_getElem?;intro new;by_cases hn:new=j0;subst hn;rw[AAN (by simpa using Q)];simp[J];rw[AAV ah]
   . cases C
theorem Td(n:ji)(d:FH D n new=some Q)(g:Abs.BO D n=some m)(z:∀h b k rows,m≠ .own h b k rows)(r:∀f,m≠ .agg f)(u:∀f,m≠ .Bo f)(q:ji)(v:jA)(bx:Bool)(k:Nat)(rows:jp)(l:Abs.BO D q=some (.own v bx k rows)):∃e,Abs.BO Q q=some (.own v bx k e):=by induction n generalizing D Q q with|nil=>(simp only[Abs.BO,AAI]at g;subst g;cases q with|nil=>simp only[Abs.BO,AAI]at l;grind|cons s q=>cases D with|lf a v=>simp[Abs.BO]at l|own h b k rows=>grind|agg f|Bo f=>simp_all)|cons s n ih=>obtain⟨i,j,B⟩:=s;cases D with|lf a v=>simp[FH]at d|own h b k1 Kk=>(simp only[FH]at d;simp only[Abs.BO]at g;cases hi:Kk[i]? with|none=>simp_all|some row=>simp only[hi]at d g;cases hj:row[j]? with|none=>simp_all|some c=>simp only[hj]at d g;cases hc:FH c n new with|none=>simp_all|some c'=>simp only[hc,AAI]at d;subst d;have y:=(AAJ.1 hi).1;have p:=(AAJ.1 hj).1;cases q with|nil=>simp only[Abs.BO,AAI,DV.own.injEq]at l;obtain⟨rfl,rfl,rfl,_⟩:=l;exact⟨_,rfl⟩|cons s2 q=>obtain⟨i2,w,x⟩:=s2;simp only[Abs.BO]at l |-;grind)|agg f|Bo f=>simp only[FH]at d;simp only[Abs.BO]at g;cases hj:f[j]? with|none=>simp_all|some c=>simp only[hj]at d g;cases hc:FH c n new with|none=>simp_all|some c'=>simp only[hc,AAI]at d;subst d;have p:=(AAJ.1 hj).1;cases q with|nil=>simp[Abs.BO]at l|cons s2 q=>obtain⟨i2,w,x⟩:=s2;simp only[Abs.BO]at l |-;grind
end
section
variable{w w':jm}{S S':jc}{F F':jc}
structure St (G:Gi) (w:World) (S:Nat->Prop) (δ:Nat->DV) (F:Nat->Nat->Prop):Prop where
 ok:∀s,Ok w S (δ s) (F s)
 Na:∀s t x,F s x->F t x->s=t
 al:∀s,EC δ (δ s)
 rt:∀s,Gl (G.HR s) (δ s).er=true
 self:∀s,s∉G.HR s
mutual
def Fw(n d:Nat):AV->AV|.al r p=>if r=d/\n<=p.length then .dead else .al r p|.Lu r p i j k=>if r=d/\n<=p.length then .dead else .Lu r p i j k|.cl f rs=>if(rs.all λx=>x.1 != d)=true then .cl f rs else .dead|.vb s o us=>if s=d then .dead else .vb s o us|.cb f vs b ss=>if(ss.all λx=>x.1 != d||(x.2&&decide (0<n)))=true then .cb f vs b ss else .dead|.agg cs=>.agg (Ww n d cs)|.Bo cs=>.Bo (Ww n d cs)|a=>a
def da{p:Prop}(h:p:=by simp[Fw]):p:=h
def Ww(n d:Nat):List AV->List AV|[]=>[]|a::r=>Fw n d a::Ww n d r
end
theorem jS(n d:Nat)(l:jj):Ww n d l=l.map (Fw n d):=by induction l with|nil=>rfl|cons a r ih=>simp[Ww,ih]
mutual
def IZ(n d:Nat):DV->DV|.lf a v=>.lf (Fw n d a) v|.own h b k rows=>.own h b k rows|.agg cs=>.agg (VH n d cs)|.Bo cs=>.Bo (VH n d cs)
def VH(n d:Nat):List DV->List DV|[]=>[]|a::r=>IZ n d a::VH n d r
end
theorem aF(n d:Nat)(l:jz):VH n d l=l.map (IZ n d):=by induction l with|nil=>rfl|cons a r ih=>simp[VH,ih]
def Ge(G:Gi)(n d:Nat)(h:Sg):Sg:=λs=>if s∈G.QH d then Fw n d (h s)else h s
def E6(G:Gi)(n d:Nat)(δ:jv):Nat->DV:=λs=>if s∈G.QH d then IZ n d (δ s)else δ s
def Ki(G:Gi)(d:Nat)(h:Sg):Sg:=λs=>if s∈G.QH d then EJ d (h s)else h s
def Ie(G:Gi)(d:Nat)(δ:jv):Nat->DV:=λs=>if s∈G.QH d then JY d (δ s)else δ s
theorem dJ(d:Nat)(q:ji)(e:Abs.BO new q=some (.own v bx k rows)):Abs.BO (JY d new) q=some (.own v bx k rows):=by induction q generalizing new with|nil=>simp only[Abs.BO,Option.some.injEq]at e;subst e;simp[Abs.BO]|cons s q ih=>obtain⟨i,j,f⟩:=s;cases new with|lf a v=>simp[Abs.BO]at e|own h b k1 Kk=>rw[SX];exact e|agg cs|Bo cs=>simp only[O5,O6,Abs.BO,List.getElem?_map]at e |-;cases hj:cs[j]? with|none=>simp[hj]at e|some c=>simp only[hj,Option.map_some]at e |-;exact ih e
theorem EC.kill{δ:jv}(d:Nat)(h:EC δ new)(c:gV new):EC δ (JY d new):=by induction h with|lf a v h=>(rw[VG];refine .lf _ v ?_;cases c with|lf _ _ c=>cases a with|al r p=>rw[aL];by_cases e:r=d;simp only[e,if_true];trivial;simp only[e,if_false];exact h|Lu r p i j k=>rw[Wy];by_cases e:r=d;simp only[e,if_true];trivial;simp only[e,if_false];exact h|vb s o us=>rw[aM];split;trivial;exact h|cl f rs=>rw[VK];split;exact h;trivial|cb f vs b ss=>rw[VJ];split;exact h;trivial|agg cs|Bo cs=>simp[EK]at c|own=>simp[EK]at c|_=>simp only[EJ];trivial)|own=>rw[SX];exact .own _ _ _ _|agg cs _ ih=>(rw[O5];cases c with|agg _ c=>refine .agg _ λi l hd=>?_;simp only[List.getElem?_map,Option.map_eq_some_iff]at hd;obtain⟨e,g,rfl⟩:=hd;exact ih i e g (c i e g))|Bo cs _ ih=>rw[O6];cases c with|Bo _ c=>refine .Bo _ λi l hd=>?_;simp only[List.getElem?_map,Option.map_eq_some_iff]at hd;obtain⟨e,g,rfl⟩:=hd;exact ih i e g (c i e g)
variable{G:Gi}{δ:jv}{Fr:je}
theorem St.q8(h:St G w S δ Fr)(d s:Nat):(Ie G d δ s).er=Ki G d (λs=>(δ s).er) s:=by unfold Ie Ki;split;exact(MH d (h.ok s)).1;rfl
theorem St.Wz(h:St G w S δ Fr)(d s:Nat):(Ie G d δ s).BJ=(δ s).BJ:=by unfold Ie;split;exact(MH d (h.ok s)).2.1;rfl
theorem St.q9(h:St G w S δ Fr)(d s:Nat):Gj d (Ie G d δ s).er:=by unfold Ie;split;exact(MH d (h.ok s)).2.2.2;rename_i hn;exact rin_nroot (h.rt s) λa=>hn (Gi.mem_als a)
theorem St.killδ_ok(h:St G w S δ Fr)(d s:Nat):Ok w S (Ie G d δ s) (Fr s):=by unfold Ie;split;exact(MH d (h.ok s)).2.2.1;exact h.ok s
theorem St.rA(h:St G w S δ Fr)(d s:Nat):Gl (G.HR s) (Ie G d δ s).er:=by unfold Ie;split;rw[(MH d (h.ok s)).1];exact killr_rin (h.rt s);exact h.rt s
theorem St.killδ_al(h:St G w S δ Fr)(d s:Nat):EC δ (Ie G d δ s):=by unfold Ie;split;exact(h.al s).kill d (h.ok s).Lq;exact h.al s
theorem killδ_own(d r:Nat)(p:ji)(a:Abs.BO (δ r) p=some (.own v bx k rows)):Abs.BO (Ie G d δ r) p=some (.own v bx k rows):=by unfold Ie;split;exact dJ d p a;exact a
theorem nroot_rin{a:AV}:Gl L a->Gj k a->Gl (L.filter (· != k)) a:=by
 refine AV.rec (motive_1:=λa=>Gl L a=true->Gj k a->Gl (L.filter (· != k)) a) (motive_2:=λ_=>True) (motive_3:=λl=>Rn L l=true->Pv k l->Rn (L.filter (· != k)) l)
  ?_ ?_ ?_ ?_ ?_ ?_ ?_ ?_ ?_ ?_ ?_ ?_ ?_ ?_ ?_ ?_ ?_ ?_ a
 all_goals intros
 all_goals first|trivial| (simp[Gl];done)|skip
 all_goals first| (simp_all [Gl,Gj];done)| (simp_all [Rn,Pv];done)| (rename_i b c;simp only[Gl,Gj,List.all_eq_true,List.contains_iff_mem,List.mem_filter]at b c |-;exactλx e=>⟨b x e,c x e⟩)| (rename_i f b c;simp only[Gl,Gj]at b c |-;exact f b c)
theorem St.set(h:St G w S δ Fr)(d:Nat)(e:DV)(Fn:jc)(D:∀b,S b->w'.heap[b]? =w.heap[b]?)(B:∀s,s≠d->∀x,Fr s x->w'.heap[x]? =w.heap[x]?)(y:∀b,S b->S' b)(z:∀s,s≠d->∀x,Fr s x->¬S' x)(hn:Ok w' S' e Fn)(m:∀s,s≠d->∀x,Fn x->¬Fr s x)(q:Gl (G.HR d) e.er)(u:EC δ e):St G w' S' (Dt (Ie G d δ) d e) (Dt Fr d Fn):=by
 have n:∀(L:ju),d∉L->∀r∈L,∀p v bx k rows,Abs.BO (δ r) p=some (.own v bx k rows)->∃c,Abs.BO (Dt (Ie G d δ) d e r) p=some (.own v bx k c):=by intro L j r l p v bx k rows C;refine⟨rows,?_⟩;rw[B5 _ _ (by rintro rfl;exact j l)];exact killδ_own d r p C
 have o:∀(L:ju),d∉L->∀r∈L,(Dt (Ie G d δ) d e r).BJ=(δ r).BJ:=by intro L j r l;rw[B5 _ _ (by rintro rfl;exact j l)];exact h.Wz d r
 refine⟨?_,?_,?_,?_,h.self⟩;intro s;by_cases a:s=d;subst a;rw[Bh,Bh];exact hn;rw[B5 _ _ a,B5 _ _ a];exact(h.killδ_ok d s).mono D (B s a) y (z s a);intro s t x f g;by_cases a:s=d<;>by_cases i:t=d;omega;subst a;rw[Bh]at f;rw[B5 _ _ i]at g;exact absurd g (m t i x f);subst i;rw[Bh]at g;rw[B5 _ _ a]at f;exact absurd f (m s a x g);rw[B5 _ _ a]at f;rw[B5 _ _ i]at g;exact h.Na s t x f g;intro s;by_cases a:s=d;subst a;rw[Bh];exact u.mono q (n _ (h.self s)) (o _ (h.self s));rw[B5 _ _ a];refine(h.killδ_al d s).mono (nroot_rin (h.rA d s) (h.q9 d s)) (n _ ?_) (o _ ?_);simp;simp;intro s;by_cases a:s=d;subst a;rw[Bh];exact q;rw[B5 _ _ a];exact h.rA d s
theorem St.poke(h:St G w S δ Fr)(d:Nat)(e:DV)(Fn:jc)(C:∀b,S b->w'.heap[b]? =w.heap[b]?)(B:∀s,s≠d->∀x,Fr s x->w'.heap[x]? =w.heap[x]?)(hn:Ok w' S e Fn)(l:∀s,s≠d->∀x,Fn x->¬Fr s x)(o:Gl (G.HR d) e.er)(y:EC δ e)(z:∀p v bx k rows,Abs.BO (δ d) p=some (.own v bx k rows)->∃c,Abs.BO e p=some (.own v bx k c))(u:e.BJ=(δ d).BJ):St G w' S (Dt δ d e) (Dt Fr d Fn):=by
 have m:∀(L:ju),∀r∈L,∀p v bx k rows,Abs.BO (δ r) p=some (.own v bx k rows)->∃c,Abs.BO (Dt δ d e r) p=some (.own v bx k c):=by intro L r _ p v bx k rows q;by_cases i:r=d;subst i;rw[Bh];exact z p v bx k rows q;rw[B5 _ _ i];exact⟨rows,q⟩
 have n:∀(L:ju),∀r∈L,(Dt δ d e r).BJ=(δ r).BJ:=by intro L r _;by_cases i:r=d;subst i;rw[Bh];exact u;rw[B5 _ _ i]
 refine⟨?_,?_,?_,?_,h.self⟩;intro s;by_cases a:s=d;subst a;rw[Bh,Bh];exact hn;rw[B5 _ _ a,B5 _ _ a];exact(h.ok s).mono C (B s a) (λ_ h=>h) (h.ok s).GF;intro s t x f g;by_cases a:s=d<;>by_cases j:t=d;omega;subst a;rw[Bh]at f;rw[B5 _ _ j]at g;exact absurd g (l t j x f);subst j;rw[Bh]at g;rw[B5 _ _ a]at f;exact absurd f (l s a x g);rw[B5 _ _ a]at f;rw[B5 _ _ j]at g;exact h.Na s t x f g;intro s;by_cases a:s=d;subst a;rw[Bh];exact y.mono o (m _) (n _);rw[B5 _ _ a];exact(h.al s).mono (h.rt s) (m _) (n _);intro s;by_cases a:s=d;subst a;rw[Bh];exact o;rw[B5 _ _ a];exact h.rt s
def St.world(h:St G w S δ Fr)(e:∀b,S b->w'.heap[b]? =w.heap[b]?)(d:∀s x,Fr s x->w'.heap[x]? =w.heap[x]?)(a:∀b,S b->S' b)(c:∀s x,Fr s x->¬S' x):St G w' S' δ Fr:=⟨λs=>(h.ok s).mono e (d s) a (c s),h.Na,h.al,h.rt,h.self⟩
end
inductive Ar where
 |t (s:Nat)
 |c (a:AV)
 deriving Inhabited
abbrev kv:=List Ar
abbrev nj:=List (Nat×Nat×Ar)
inductive dV where
 |cp (x:Ar)
 |mv (x:Ar)
 |fz (x:Ar)
 |pick (c a b:Ar)
 |bx (n:Nat) (x:Ar)
 |To (z:List AV) (ps:List (Nat×Nat×Ar))
 |Ox (k:Nat) (z:List (List AV)) (ps:List (Nat×Ar))
 |ld (agg:Bool) (n:Nat) (a:Ar)
 |st (n:Nat) (a v:Ar)
 |Xe (off:Nat) (x:Ar)
 |fld (agg:Bool) (off n:Nat) (x:Ar)
 |Wu (k:Nat) (x i:Ar)
 |aad (len k:Nat) (x i:Ar)
 |idx (agg:Bool) (len k:Nat) (x i:Ar)
 |bin (op:BinOp) (x y:Ar)
 |beq (neg:Bool) (x y:Ar)
 |un (op:UnOp) (x:Ar)
 |cvt (k:IntKind) (x:Ar)
 |mm (mx:Bool) (x y:Ar)
 |len (x:Ar)
 |gE (x:Ar)
 |sO (x i:Ar)
 |sN (neg:Bool) (kd:List Nat) (x y:Ar)
 |app (k bytes:Nat) (x y:Ar)
 |slc (k:Nat) (fr:Bool) (x:Ar) (lo hi mx:ABi Ar)
 |ext (x:Ar) (i:Nat)
 |mk (k bytes:Nat) (z:List AV) (l c:Ar)
 |JQ (x:Ar)
 |mkf (f:Nat) (xs:List Ar)
 |aR (a:Ar)
 |fl
 |flk (x:Ar) (k:Nat)
 |qX (r off kb k:Nat) (i:Ar)
 |ZE (a v:Ar)
 |std (a:Ar)
 |call (f:Nat) (args:List Ar) (m:Nat)
 |W0 (f:Nat) (pre:List Ar) (x:Ar) (c:ABi Nat) (post:List Ar)
 |bad
 deriving Inhabited
structure EH where
 d:Nat
 kl:List Nat
 rs:List Nat
 deriving Inhabited
abbrev jx:=ABi EH
structure BP where
 dst:ABi EH
 op:dV
 guard:ABi (Nat×Bool)
 deriving Inhabited
abbrev kq:=List BP
structure Apd where
 s:Nat
 e:Nat
 ap:Nat
 i7:Nat
 i8:Nat
 i9:Nat
 i11:Nat
 i12:Nat
 deriving Inhabited
inductive o0 where
 |o (o:BP)
 |bxv (d:EH) (n:Nat) (s:Nat)
 |clo (d:ABi EH) (f:Nat) (x:Ar) (args:List Ar) (g:ABi (Nat×Bool))
 |mK (d:EH) (neg:Bool) (x:Ar)
 |lb (d:ABi EH) (f:Nat) (x:Ar) (VQ:List Ar) (y:Ar)
 |gld (d:EH) (g n:Nat)
 |clv (d:ABi EH) (x:Ar) (args:List Ar)
 deriving Inhabited
structure Flo where
 r:Nat
 off:Nat
 kb:Nat
 i0:Nat
 i1:Nat
 i2:Nat
 d0:Nat
 d1:Nat
 deriving Inhabited
inductive Tr where
 |leaf
 |one (i:Nat) (t:Tr)
 |fork (f m:Nat) (a b:Tr)
inductive IC where
 |skip
 |bad
 |kH (ops:List o0)
 |gz (c:Bool) (r:Nat) (p:List Step) (a:IC)
 |pg (c:Bool) (r:Nat) (p:List Step) (a:IC)
 |apd (f:Apd) (ops:List BP)
 |fY (ops:List BP)
 |drw (t:Tr) (ops:List BP)
 |flo (f:Flo) (a b:List BP)
 |l7 (fs:List (Nat×Nat×Nat×Nat)) (ops:List BP)
 |seq (a b:IC)
 |cond (c:Ar) (a b:IC)
 |block (id:Nat) (a:IC)
 |loop (a:IC)
 |exit (id:Nat)
 |ret
 deriving Inhabited
def ar(h:Sg):Ar->AV|.t s=>h s|.c a=>a
def JK:AV->Bool|.sc _|.sl .. =>true|_=>false
def K8:AV->AV|.sc u=>.sc u|.sl x k rows=>.sl x k rows|_=>.dead
def Gz:AV->Bool|.sc _|.sl .. |.own .. =>true|_=>false
mutual
def view(r:Nat):List Step->AV->AV|p,.own _ _ _=>.al r p|p,.agg cs=>.agg (Rx r p 0 cs)|p,.Bo cs=>.Bo (Rx r p 0 cs)|_,a=>a
def Rx(r:Nat)(p:ji):Nat->List AV->List AV|_,[]=>[]|i,c::cs=>view r (p++[(0,i,0)]) c::Rx r p (i+1) cs
end
def vC(r:Nat)(p:ji)(i j k:Nat):AV->AV|.own _ _ _=>.al r (p++[(i,j,k)])|.sc v=>.sc v|.sl x k' rows=>.sl x k' rows|_=>.dead
def vF(s j:Nat):AV->AV|.own _ _ _=>.al s [(0,j,0)]|.agg _=>.dead|.Bo _=>.dead|a=>a
def Rw(r:Nat)(p:ji)(i k:Nat):Nat->List AV->List AV|_,[]=>[]|j,c::cs=>vC r p i j k c::Rw r p i k (j+1) cs
def OO(s:Nat):Nat->List AV->List AV|_,[]=>[]|j,c::cs=>vF s j c::OO s (j+1) cs
def Jx(kl:ju)(d:Nat)(h:Sg):Sg:=match kl with|[]=>h|_=>λs=>if s∈kl then EJ d (h s)else h s
def wr(d:EH)(v:AV)(h:Sg):Option Sg:=if Gl d.rs v=true then some (Dt (Jx d.kl d.d h) d.d v)else none
def gG(G:Gi)(r:Nat)(p:ji)(h:Sg):Option (AV×Sg):=match sub (h r) p with|some (.own b k rows)=>(match put (h r) p .dead with|some t=>some (.own b k rows,Dt (Ge G p.length r h) r t)|none=>none)|_=>none
def uB(G:Gi):List AV->Sg->Option (List AV×Sg)
 |[],h=>some ([],h)
 |a::cs,h=>match a with
  |.al r p=>match gG G r p h with|some (n,τ)=>(match uB G cs τ with|some (l,τ')=>some (n::l,τ')|none=>none)|none=>none
  |a=>if Gz a=true then
   match uB G cs h with|some (l,τ)=>some (a::l,τ)|none=>none
   else none
def tk(G:Gi)(x:Ar)(h:Sg):Option (AV×Sg):=
 match x with
 |.c a=>some (a,h)
 |.t s=>match h s with
  |.al r p=>gG G r p h
  |.own b k rows=>some (.own b k rows,Dt (Ki G s h) s .dead)
  |.agg cs=>if cs.all JK=true then some (.agg cs,h)else
   match uB G cs (Dt (Ki G s h) s .dead)with|some (l,τ)=>some (.agg l,τ)|none=>none
  |.sc v=>some (.sc v,h)
  |.sl e k rows=>some (.sl e k rows,h)
  |.Lu r p i j k=>some (.Lu r p i j k,h)
  |.fp cs=>some (.fp cs,h)
  |_=>none
def cellsOf:AV->List AV|.agg cs=>cs|a=>[a]
def hd(h:Sg)(x:Ar):Option (AV×Option (Nat×List Step)):=match x with|.c a=>(match a with|.own b k rows=>some (.own b k rows,none)|_=>none)|.t s=>match h s with|.al r p=>(match sub (h r) p with|some n=>some (n,some (r,p))|none=>none)|.own b k rows=>some (.own b k rows,some (s,[]))|.sl e k rows=>some (.sl e k rows,none)|_=>none
def Sm(G:Gi)(r:Nat)(p:ji)(h:Sg):Option (AV×Sg):=match sub (h r) p with|some (.own b k rows)=>(match put (h r) p (KX (.own b k rows))with|some t=>some (KX (.own b k rows),Dt (Ki G r h) r t)|none=>none)|_=>none
def vB:AV->Option Int|.sc (.int _ n)=>some n|_=>none
def Eh(h:Sg)(x:Ar):Option (Nat×List Step×Nat×Nat×Nat):=match x with|.c _=>none|.t s=>match h s with|.Lu r p i j k=>some (r,p,i,j,k)|.own true k _=>some (s,[],0,0,k)|.al r p=>(match sub (h r) p with|some (.own true k _)=>some (r,p,0,0,k)|_=>none)|_=>none
def binI(op:BinOp)(k:IntKind)(x y:Int):Option Value:=match op with|.add=>some (.int k (k.wrap (x+y)))|.sub=>some (.int k (k.wrap (x-y)))|.mul=>some (.int k (k.wrap (x*y)))|.quo=>if y=0 then none else some (.int k (k.wrap (x.tdiv y)))|.rem=>if y=0 then none else some (.int k (x.tmod y))|.eql=>some (.bool (x==y))|.neq=>some (.bool (x != y))|.lss=>some (.bool (x<y))|.leq=>some (.bool (x<=y))|.gtr=>some (.bool (x>y))|.geq=>some (.bool (x>=y))|_=>none
def binF(op:BinOp):AV->AV->Option AV|.sc (.int k x),.sc (.int k' y)=>if k=k' then(binI op k x y).map .sc else none|.sc (.string x),.sc (.string y)=>(match op with|.eql=>some (.sc (.bool (x.toList==y.toList)))|.neq=>some (.sc (.bool (!(x.toList==y.toList))))|_=>none)|_,_=>none
def unF(op:UnOp):AV->Option AV|.sc (.bool x)=>(match op with|.not=>some (.sc (.bool (!x)))|_=>none)|.sc (.int k x)=>(match op with|.neg=>some (.sc (.int k (k.wrap (0-x))))|_=>none)|_=>none
def JM(agg:Bool)(n:Nat)(cs:jj):Option AV:=if cs.length=n then(if agg=true then some (.agg cs)else match cs with|[c]=>some c|_=>none)else none
def Uu(rows:jk)(lo hi:Nat):Option (List (List AV)):=if lo<=hi/\hi<=rows.length then some ((rows.drop lo).take (hi-lo))else none
def PB(h:Sg)(x:Option Ar)(d:Nat):Option Nat:=match x with|none=>some d|some a=>match vB (ar h a)with|some n=>if 0<=n then some n.toNat else none|none=>none
def mxI(Z:Sg)(mx:Option Ar)(h:Nat):Option Nat:=match mx with|none=>some h|some a=>PB Z (some a) 0
def eqSc:Nat->Value->Value->Option Bool|0,.bool a,.bool b=>some (a==b)|1,.int k n,.int k' m=>if k=k' then some (n==m)else none|2,.string a,.string b=>some (a.toList==b.toList)|_,_,_=>none
def SS:List Nat->List AV->List AV->Option Bool|[],[],[]=>some true|kd::ks,.sc u::xs,.sc v::ys=>(match eqSc kd u v,SS ks xs ys with|some a,some b=>some (a&&b)|_,_=>none)|_,_,_=>none
def YE(h:Sg):List Ar->Option (List (Nat×List Step))|[]=>some []|x::r=>match x with|.t s=>(match h s,YE h r with|.own true _ _,some l=>some ((s,[])::l)|.al q p,some l=>(match sub (h q) p with|some (.own true _ _)=>some ((q,p)::l)|_=>none)|_,_=>none)|.c _=>none
def lP(h:Sg):List Ar->Option (List (List AV))|[]=>some []|x::r=>match ar h x,lP h r with|.fp cs,some l=>some (cs::l)|_,_=>none
def valOf(o:dV)(h:Sg):Option AV:=
 match o with
 |.cp x=>match x with|.t s=>some (view s [] (h s))|.c a=>some a
 |.pick c a b=>match ar h c with|.sc (.bool x)=>(match ar h (if x=true then a else b)with|.sc v=>some (.sc v)|_=>none)|_=>none
 |.ld agg n a=>match a with|.c _=>none|.t s=>match h s with|.fp cs=>JM agg n ((cs.take n).map K8)|.vb q o _=>(match h q with|.agg cs=>JM agg n (OO q o ((cs.drop o).take n))|_=>none)|.cb f vs b _=>if agg=false/\n=1 then some (.sc (.func (.func f) #[] (vs++[Value.pointer (some ⟨b,0,none⟩)]).toArray))else none|_=>match Eh h (.t s)with|some (r,p,i,j,k)=>(match sub (h r) p with|some (.own _ _ rows)=>(match rows[i]? with|some row=>JM agg n (Rw r p i k j ((row.drop j).take n))|none=>none)|_=>none)|none=>none
 |.Xe off x=>match x with|.c _=>none|.t s=>match h s with|.fp cs=>some (.fp (cs.drop off))|.vb q o us=>some (.vb q (o+off) us)|_=>match Eh h (.t s)with|some (r,p,i,j,k)=>some (.Lu r p i (j+off) k)|none=>none
 |.fld agg off n x=>match x with|.c _=>none|.t s=>match h s with|.agg cs=>JM agg n (OO s off ((cs.drop off).take n))|_=>none
 |.Wu k x i=>match hd h x,vB (ar h i)with|some (.own false k' rows,some (r,p)),some n=>if k'=k/\0<=n/\n<rows.length then some (.Lu r p n.toNat 0 k)else none|some (.sl _ k' rows,_),some n=>if k'=k/\0<=n then(rows[n.toNat]?).map .fp else none|_,_=>none
 |.aad len k x i=>match x,vB (ar h i)with
  |.t s,some n=>if 0<=n/\n<len then
   match h s with|.fp cs=>some (.fp (cs.drop (n.toNat*k)))|_=>match Eh h (.t s)with|some (r,p,i,j,k')=>some (.Lu r p i (j+n.toNat*k) k')|none=>none
   else none
  |_,_=>none
 |.idx agg len k x i=>match x,vB (ar h i)with
  |.t s,some n=>if 0<=n/\n<len then
   match h s with|.agg cs=>JM agg k (OO s (n.toNat*k) ((cs.drop (n.toNat*k)).take k))|_=>none
   else none
  |_,_=>none
 |.bin op x y=>binF op (ar h x) (ar h y)
 |.beq neg x y=>match ar h x,ar h y with|.sc (.bool a),.sc (.bool b)=>some (.sc (.bool (if neg=true then !(a==b)else(a==b))))|_,_=>none
 |.un op x=>unF op (ar h x)
 |.cvt k x=>match ar h x with|.sc (.int _ n)=>some (.sc (.int k (k.wrap n)))|_=>none
 |.mm mx x y=>match ar h x,ar h y with|.sc (.int k n),.sc (.int k' m)=>if k=k' then some (.sc (.int k (if mx=true then(if m>n then m else n)else(if m<n then m else n))))else none|_,_=>none
 |.len x=>match hd h x with|some (.own false _ rows,_)=>some (.sc (.int .i64 rows.length))|some (.sl _ _ rows,_)=>some (.sc (.int .i64 rows.length))|_=>none
 |.gE x=>match ar h x with|.sc (.string s)=>some (.sc (.int .i64 s.size))|_=>none
 |.sO x i=>match ar h x,vB (ar h i)with|.sc (.string s),some n=>if 0<=n then(s[n.toNat]?).map λb=>.sc (.int .u8 b.toNat)else none|_,_=>none
 |.sN neg kd x y=>match ar h x,ar h y with|.agg xs,.agg ys=>(SS kd xs ys).map λb=>.sc (.bool (if neg=true then !b else b))|_,_=>none
 |.ext x i=>match x with|.t s=>(match h s with|.Bo cs=>(match cs[i]? with|some c=>some (view s [(0,i,0)] c)|none=>none)|_=>none)|_=>none
 |.JQ x=>match ar h x with|.Lu r p i j k=>some (.Lu r p i j k)|.fp cs=>some (.fp cs)|.al r p=>(match sub (h r) p with|some (.own true _ _)=>some (.al r p)|_=>none)|.own true _ _=>(match x with|.t s=>some (.al s [])|_=>none)|_=>none
 |.mkf f xs=>match YE h xs with|some rs=>some (.cl f rs)|none=>(lP h xs).map (.Y7 f)
 |.fl=>some .dead
 |.flk x k=>match x with|.t s=>(match h s with|.Bo cs=>if k<cs.length then some .dead else none|_=>none)|_=>none
 |.qX r off kb k i=>match h r,vB (ar h i)with|.own true kb' [row],some n=>(match row[off]? with|some (.own false k' rows)=>if kb'=kb/\k'=k/\0<=n/\n<rows.length then some (.Lu r [(0,off,kb)] n.toNat 0 k)else none|_=>none)|_,_=>none
 |.aR a=>match Eh h a with|some (r,p,i,j,k)=>(match sub (h r) p with|some (.own _ _ rows)=>(match rows[i]? with|some row=>(match row[j]? with|some (.own _ _ _)=>some (.al r (p++[(i,j,k)]))|_=>none)|none=>none)|_=>none)|none=>none
 |_=>none
def nM(cs:jj)(off:Nat)(xs:jj):List AV:=cs.take off++xs++cs.drop (off+xs.length)
def YC(G:Gi):List (Nat×Nat×Ar)->List AV->Sg->Option (List AV×Sg)|[],cs,h=>some (cs,h)| (off,n,x)::ps,cs,h=>match tk G x h with|some (a,τ)=>if(cellsOf a).length=n/\off+n<=cs.length/\(cellsOf a).all Gz=true then YC G ps (nM cs off (cellsOf a)) τ else none|none=>none
def YD(G:Gi)(k:Nat):List (Nat×Ar)->List (List AV)->Sg->Option (List (List AV)×Sg)|[],rows,h=>some (rows,h)| (i,x)::ps,rows,h=>match tk G x h with|some (a,τ)=>if(cellsOf a).length=k/\i<rows.length/\(cellsOf a).all Gz=true then YD G k ps (rows.set i (cellsOf a)) τ else none|none=>none
def stC(p:ji)(i k:Nat):Nat->List AV->AV->Option AV|_,[],t=>some t|j,c::cs,t=>match put t (p++[(i,j,k)]) c with|some t'=>stC p i k (j+1) cs t'|none=>none
def Ap(n bytes:Nat):Bool:=n*bytes<=70368744177664
def ZZ(G:Gi)(k:Nat)(y:Ar)(h:Sg):Option (List (List AV)×Sg):=match y with|.t s=>(match h s with|.own false k' rows=>if k'=k/\rows.all (·.all Gz)=true then some (rows,Dt (Ki G s h) s .dead)else none|.sl _ k' rows=>if k'=k/\rows.all (·.all JK)=true then some (rows,h)else none|.al r p=>(match Sm G r p h with|some (.sl _ k' rows,τ)=>if k'=k/\rows.all (·.all JK)=true then some (rows,τ)else none|_=>none)|_=>none)|.c a=>match a with|.own false _ []=>some ([],h)|_=>none
def YB(G:Gi)(k:Nat)(x:Ar)(τ:Sg):Option (AV×Sg):=match x with|.t s=>(match τ s with|.sl true k' rows=>if k'=k/\rows.all (·.all JK)=true then some (.sl true k' rows,τ)else none|.own false k' rows=>if k'=k then some (.own false k' rows,Dt (Ki G s τ) s .dead)else none|.al r p=>(match gG G r p τ with|some (.own false k' rows,τ')=>if k'=k then some (.own false k' rows,τ')else none|_=>none)|_=>none)|.c a=>match a with|.own false _ []=>some (.own false k [],τ)|_=>none
def HT(G:Gi)(o:dV)(d:Option EH)(Z:Sg):Option Sg:=
 match o,d with
 |.mv x,some d=>match tk G x Z with|some (v,τ)=>wr d v τ|none=>none
 |.fz x,some d=>match x with|.t s=>(match Z s with|.al r p=>(match Sm G r p Z with|some (v,τ)=>wr d v τ|none=>none)|.own _ _ _=>(match Sm G s [] Z with|some (v,τ)=>wr d v τ|none=>none)|.sc v=>wr d (.sc v) Z|.sl e k rows=>wr d (.sl e k rows) Z|_=>none)|.c _=>none
 |.bx n x,some d=>match tk G x Z with|some (v,τ)=>if(cellsOf v).length=n/\(cellsOf v).all Gz=true then wr d (.own true n [cellsOf v]) τ else none|none=>none
 |.To z ps,some d=>match YC G ps z Z with|some (cs,τ)=>wr d (.agg cs) τ|none=>none
 |.Ox k z ps,some d=>match YD G k ps z Z with|some (rows,τ)=>wr d (.own false k rows) τ|none=>none
 |.mk k bytes z l c,some d=>match vB (ar Z l),vB (ar Z c)with|some l,some c=>if 0<=l/\l<=c/\Ap c.toNat bytes=true then wr d (.own false k (List.replicate l.toNat z)) Z else none|_,_=>none
 |.slc k fr x lo hi mx,some d=>match hd Z x with
  |some (.sl _ k' rows,_)=>match PB Z lo 0,PB Z hi rows.length with|some l,some h=>(match Uu rows l h,mxI Z mx h with|some rs,some m=>if k'=k/\m=h then wr d (.sl mx.isSome k rs) Z else none|_,_=>none)|_,_=>none
  |some (.own false k' rows,some (r,p))=>match PB Z lo 0,PB Z hi rows.length with
   |some l,some h=>match Uu rows l h,mxI Z mx h with
    |some rs,some m=>if k'=k/\m=h then
     (if fr=true then
      match Sm G r p Z with|some (_,τ)=>wr d (.sl mx.isSome k (rs.map (·.map KX))) τ|none=>none
     else if l=0/\mx.isNone=true then
      match gG G r p Z with|some (_,τ)=>wr d (.own false k rs) τ|none=>none
     else none)
     else none
    |_,_=>none
   |_,_=>none
  |_=>none
 |.app k bytes x y,some d=>match ZZ G k y Z with
  |some (ys,τ)=>match YB G k x τ with
   |some (.own _ _ rows,τ')=>if Ap (rows.length+ys.length) bytes=true then wr d (.own false k (rows++ys)) τ' else none
   |some (.sl _ _ rows,τ')=>if ys.isEmpty=true then wr d (.sl false k rows) τ'
    else if Ap (rows.length+ys.length) bytes=true then wr d (.own false k (rows++ys)) τ' else none
   |_=>none
  |none=>none
 |.st n a v,none=>match tk G v Z with
  |some (x,τ)=>match Eh τ a with
   |some (r,p,i,j,k)=>match sub (τ r) p with
    |some (.own _ _ rows)=>match rows[i]? with
     |some row=>
      if(cellsOf x).length=n/\(cellsOf x).all Gz/\j+n<=row.length then
       match stC p i k j (cellsOf x) (τ r)with|some t=>if((row.drop j).take n).all EK=true then some (Dt τ r t)else some (Dt (Ki G r τ) r t)|none=>none
      else none
     |none=>none
    |_=>none
   |none=>none
  |none=>none
 |.ZE a v,none=>match ar Z v with|.sc u=>(match Eh Z a with|some (r,p,i,j,k)=>(match sub (Z r) p with|some (.own _ _ rows)=>(match rows[i]? with|some row=>(match row[j]? with|some (.sc _)=>(match put (Z r) (p++[(i,j,k)]) (.sc u)with|some t=>some (Dt Z r t)|none=>none)|_=>none)|none=>none)|_=>none)|none=>none)|_=>none
 |.std a,none=>match Eh Z a with|some (r,p,i,j,_)=>(match sub (Z r) (p++[(i,j,0)])with|some .dead=>some Z|_=>none)|none=>none
 |o,some d=>match valOf o Z with|some v=>wr d v Z|none=>none
 |_,none=>none
variable{y:Ar}{σ':Sg}
theorem lda_ld{v:AV}(h:valOf (.aR y) σ'=some v):valOf (.ld false 1 y) σ'=some v:=by simp only[valOf]at h |-;split at h;rename_i r p i j k d;split at h;rename_i b x rows n;split at h;rename_i row m;split at h;(rename_i f w e g;obtain rfl:=Option.some.inj h;have hd:(row.drop j).take 1=[.own f w e]:=(by obtain⟨l,u⟩:=List.getElem?_eq_some_iff.1 g;rw[List.drop_eq_getElem_cons l,u];rfl);cases y with|c=>simp[Eh]at d|t s=>simp only;cases hσ:σ' s with|fp cs=>simp[Eh,hσ]at d|vb q o us=>simp[Eh,hσ]at d|cb=>simp[Eh,hσ]at d|_=>simp only[d,n,m,hd];rfl);cases h;cases h;cases h;cases h
variable{G:Gi}{τ:Sg}
theorem sts_st{v:Ar}(h:HT G (.ZE y v) none σ'=some τ):HT G (.st 1 y v) none σ'=some τ:=by simp only[HT]at h |-;split at h;(. (rename_i u d;have e:tk G v σ'=some (.sc u,σ'):=by cases v with|c c=>simp only[ar]at d;subst d;rfl|t s=>simp only[ar]at d;simp[tk,d]);rw[e];simp only;split at h;(. rename_i r p i j k f;(try simp only[f]);split at h;(. rename_i b x rows n;(try simp only[n]);split at h;(. rename_i row m;(try simp only[m]);split at h;rename_i w g;obtain⟨l,q⟩:=List.getElem?_eq_some_iff.1 g;have hd:(row.drop j).take 1=[.sc w]:=(by rw[List.drop_eq_getElem_cons l,q];rfl);split at h;rename_i t o;obtain rfl:=Option.some.inj h;rw[if_pos ⟨by simp[cellsOf],by simp[cellsOf,Gz],ah⟩];simp[cellsOf,stC,o,hd,EK];cases h;cases h);cases h);cases h);cases h);cases h
def mE(kb off:Nat):AV->Bool|.own true k [row]=>k==kb&&decide (off<row.length)|_=>false
structure Ext (w w':World) (F:Nat->Prop):Prop where
 os:w'.os=w.os
 tape:w'.tape=w.tape
 output:w'.output=w.output
 size:w.heap.size<=w'.heap.size
 block:∀b,b<w.heap.size->¬F b->w'.heap[b]? =w.heap[b]?
def NH:List ABj:=[⟨#[118,97,114]⟩,⟨#[118,111,108,97,116,105,108,101]⟩,⟨#[109,117,116,101,120]⟩,⟨#[114,119,108,111,99,107]⟩,⟨#[99,111,110,100]⟩,⟨#[102,117,116,117,114,101]⟩,⟨#[116,104,114,101,97,100]⟩,⟨#[105,102]⟩,⟨#[101,108,115,101]⟩,⟨#[119,104,105,108,101]⟩,⟨#[108,111,99,107]⟩,⟨#[114,101,97,100]⟩,⟨#[119,114,105,116,101]⟩,⟨#[116,114,97,110,115,97,99,116,105,111,110]⟩,⟨#[97,116,111,109,105,99]⟩,⟨#[119,97,105,116]⟩,⟨#[110,111,116,105,102,121]⟩,⟨#[110,111,116,105,102,121,97,108,108]⟩,⟨#[115,112,97,119,110]⟩,⟨#[106,111,105,110]⟩,⟨#[115,101,116]⟩,⟨#[103,101,116]⟩]
def Gam:List (Nat×List Value):=[(0,NH.map Value.string)]
def GI(w:jm)(S:jc):Prop:=∀x∈Gam,S x.1/\∃arr E fz,w.heap[x.1]? =some (.cells arr E fz)/\∀(j:Nat) v,x.2[j]? =some v->arr[j]? =some v
def BM(P:jh)(f:Nat)(args:jj)(res:AV)(outs:jj):Prop:=∀(w:jm)(S:jc)(ds:jz)(F:jc),GI w S->ds.map DV.er=args->Ok w S (.Bo ds) F->(∀b,S b->b<w.heap.size)->Calls P f (ds.map DV.BJ).toArray w λe w'=>∃(r:DV)(os:jz)(S' F':jc),e=.returned r.BJ/\r.er=res/\os.map DV.er=outs/\os.map DV.BJ=ds.map DV.BJ/\Ok w' S' (.Bo (r::os)) F'/\Ext w w' F/\(∀b,S b->S' b)/\(∀b,S' b->S b\/F b\/w.heap.size<=b)/\(∀b,S' b->b<w'.heap.size)/\(∀x,F' x->F x\/w.heap.size<=x)
def Says(P:jh)(f:Nat)(args:jj)(res:AV):Prop:=BM P f args res (args.map λ_=>.dead)
def Wf(h:Sg):AV->ABi AV|.al r p=>(match sub (h r) p with|some (.own false k rows)=>some (KX (.own false k rows))|some (.own true _ [row])=>some (.fp (row.map KX))|_=>none)|.own false k rows=>some (KX (.own false k rows))|.own true _ [row]=>some (.fp (row.map KX))|.fp cs=>some (.fp cs)|.sc v=>some (.sc v)|.sl _ k rows=>some (.sl false k rows)|_=>none
def rdL(h:Sg):List AV->ABi (List AV)|[]=>some []|a::r=>match Wf h a,rdL h r with|some x,some l=>some (x::l)|_,_=>none
def uA(h:Sg):AV->ABi AV|.agg cs=>(match rdL h cs with|some l=>some (.agg l)|none=>none)|.al r p=>Wf h (.al r p)|.own b k rows=>Wf h (.own b k rows)|.sc v=>Wf h (.sc v)|.sl e k rows=>Wf h (.sl e k rows)|.fp cs=>Wf h (.fp cs)|.Y7 f Mz=>some (.Y7 f Mz)|_=>none
def KE(h:Sg):List Ar->ABi (List AV)|[]=>some []|x::r=>match uA h (ar h x),KE h r with|some a,some l=>some (a::l)|_,_=>none
def fzl:AV->AV|.sl _ k rows=>.sl false k rows|a=>KX a
def fzn:AV->AV|.agg cs=>.agg (cs.map fzl)|a=>fzl a
def Oj(G:Gi):List Ar->Sg->ABi (List AV×Sg)|[],h=>some ([],h)|x::r,h=>match tk G x h with|some (a,τ)=>(match Oj G r τ with|some (l,τ')=>some (fzn a::l,τ')|none=>none)|none=>none
def Te(G:Gi):List Ar->Sg->ABi (List AV×Sg)|[],h=>some ([],h)|x::r,h=>match tk G x h with|some (a,τ)=>(match Te G r τ with|some (l,τ')=>some (a::l,τ')|none=>none)|none=>none
def Zj(h:Sg):List (Nat×List Step)->ABi (List (List AV))|[]=>some []| (r,p)::l=>match Wf h (.al r p),Zj h l with|some (.fp cs),some Mz=>some (cs::Mz)|_,_=>none
def Yv(G:Gi):List Ar->Sg->ABi (List AV×Sg)|[],_=>none|x::r,h=>match r with|[]=>(match ar h x with|.cl f rs=>(match Zj h rs with|some Mz=>some ([.Y7 f Mz],h)|none=>none)|_=>none)|y::r=>match tk G x h with|some (a,τ)=>(match Yv G (y::r) τ with|some (l,τ')=>some (a::l,τ')|none=>none)|none=>none
def qG:AV->Bool|.sc _=>true|.agg cs=>(cs.all λ|.sc _=>true|_=>false)|.Bo cs=>(cs.all λ|.sc _=>true|_=>false)|_=>false
mutual
def fresh:AV->Bool|.sc _=>true|.own _ _ rows=>Tw rows|.agg cs=>Q3 cs|.Bo cs=>Q3 cs|_=>false
def Q3:List AV->Bool|[]=>true|a::r=>fresh a&&Q3 r
def Tw:List (List AV)->Bool|[]=>true|a::r=>Q3 a&&Tw r
end
def Mb:AV->Bool|.sc _|.sl .. |.own .. =>true|_=>false
def clean:AV->Bool|.agg cs=>cs.all Mb|.Bo cs=>(cs.all λ|.agg l=>l.all Mb|a=>Mb a)|a=>Mb a
def Rm(m:Nat)(res:AV):Option AV:=match m with|0=>if qG res=true then some res else none|1=>some (KX res)|2=>if fresh res=true then some res else none|3=>if clean res=true then some res else none|4=>if fresh res=true then some res else none|_=>none
def HQ(G:Gi)(m:Nat)(args:kv)(h:Sg):Option (List AV×Sg):=match m with|1=>Oj G args h|3=>Te G args h|4=>Yv G args h|_=>match KE h args with|some l=>some (l,h)|none=>none
def DF(dst:Option EH)(v:AV)(K:jd)(τ:Sg):Prop:=match dst with|some d=>(match wr d v τ with|some τ'=>K τ'|none=>False)|none=>K τ
def plc(h:Sg):Ar->Option (Nat×List Step)|.t s=>(match h s with|.al r p=>some (r,p)|.own _ _ _=>some (s,[])|_=>none)|.c _=>none
def JU:AV->Bool|.own .. |.dead=>true|_=>false
def XC:AV->AV|.sc v=>.sc v|.sl _ k rows=>.sl false k rows|_=>.dead
def rdF(h:Sg):Ar->Option AV|.t s=>(match h s with|.agg cs=>some (.agg (cs.map XC))|a=>some (XC a))|.c a=>match a with|.sc v=>some (.sc v)|.own false k []=>some (.sl false k [])|_=>none
def Od(h:Sg):List Ar->Option (List AV)|[]=>some []|x::r=>match rdF h x,Od h r with|some a,some l=>some (a::l)|_,_=>none
def RP(h:Sg)(x:Ar)(c:Option Nat):Option (Nat×List Step):=match c with|none=>plc h x|some j=>match x with|.t s=>(match h s with|.agg cs=>(match cs[j]? with|some (.al r p)=>some (r,p)|some (.own _ _ _)=>some (s,[(0,j,0)])|_=>none)|_=>none)|.c _=>none
def VN(h:Sg)(x:Ar)(c:Option Nat)(n:AV):AV:=match c with|none=>n|some j=>match ar h x with|.agg cs=>.agg ((cs.map XC).set j n)|_=>.dead
def Qy(c:Option Nat)(out:AV):Option AV:=match c with|none=>some out|some j=>match out with|.agg cs=>cs[j]?|_=>none
def UD(u:AV)(b:Bool)(k:Nat)(p:ji):Nat:=match u with|.own b' k' _=>if b'=b/\k'=k then p.length+1 else 0|_=>0
def EZ(P:jh)(G:Gi)(o:BP)(K:jd)(h:Sg):Prop:=match o.op with|.call f args m=>(match HQ G m args h with|some (aZ9,τ)=>∃res,Says P f aZ9 res/\(match Rm m res with|some v=>DF o.dst v K τ|none=>False)|none=>False)|.W0 f pre x c post=>(match RP h x c,Od h pre,Od h post with|some (r,p),some aZ9,some bs=>(match sub (h r) p with|some (.own b k rows)=>∃res out u,BM P f (aZ9++VN h x c (.own b k rows)::bs) res ((aZ9.map λ_=>.dead)++out::bs.map λ_=>.dead)/\Qy c out=some u/\JU u/\clean res/\(match put (h r) p u with|some t=>DF o.dst res K (Dt (Ge G (UD u b k p) r h) r t)|none=>False)|_=>False)|_,_,_=>False)|op=>match HT G op o.dst h with|some τ=>K τ|none=>False
def KA(P:jh)(G:Gi)(o:BP)(K:jd)(h:Sg):Prop:=
 match o.guard with
 |none=>EZ P G o K h
 |some (g,want)=>match h g with
  |.sc (.bool b)=>if b=want then EZ P G o K h else
   (match o.dst with|some d=>K (Dt (Jx d.kl d.d h) d.d .un)|none=>K h)
  |.un=>(match o.dst with|some d=>K (Dt (Jx d.kl d.d h) d.d .un)|none=>K h)
  |_=>False
def Pa(P:jh)(G:Gi):List BP->(Sg->Prop)->Sg->Prop|[],K,h=>K h|o::os,K,h=>KA P G o (Pa P G os K) h
def rowsOf:AV->Option (List (List AV))|.own false _ rows=>some rows|.sl _ _ rows=>some rows|_=>none
def capR(h:Sg):List (Nat×List Step)->Option (List AV)|[]=>some []| (r,p)::l=>match Wf h (.al r p),capR h l with|some a,some aZ9=>some (a::aZ9)|_,_=>none
def cloA(h:Sg)(f:Nat)(x:Ar)(args:kv):Option (List AV):=match ar h x with|.cl f' rs=>if f'=f then(match KE h args,capR h rs with|some aZ9,some bs=>some (aZ9++bs)|_,_=>none)else none|.Y7 f' Mz=>if f'=f then(match KE h args with|some aZ9=>some (aZ9++Mz.map .fp)|none=>none)else none|_=>none
def qI(g n:Nat):Option (List Value):=match Gam.find? (λx=>x.1==g)with|some x=>if x.2.length=n/\x.2.all HI=true then some x.2 else none|none=>none
def dH(d:Option EH)(K:jd)(h:Sg):Prop:=match d with|some d=>K (Dt (Jx d.kl d.d h) d.d .un)|none=>K h
def gdP(g:Option (Nat×Bool))(A B:jd)(h:Sg):Prop:=match g with|none=>A h|some (g,want)=>match h g with|.sc (.bool b)=>if b=want then A h else B h|.un=>B h|_=>False
def wI(P:jh)(d:Option EH)(f:Nat)(x:Ar)(args:kv)(K:jd)(h:Sg):Prop:=match cloA h f x args with|some aZ9=>∃res,Says P f aZ9 res/\(match Rm 0 res with|some v=>DF d v K h|none=>False)|none=>False
def lbQ(P:jh)(G:Gi)(d:Option EH)(f r r2:Nat)(p p2:ji)(v n:AV)(b:Bool)(k:Nat)(ms:jj)(K:jd)(τ:Sg):Prop:=r≠r2/\∃res out,BM P f (n::(ms++[v])) res (out::((ms.map λ_=>.dead)++[v]))/\JU out/\clean res/\(match put (τ r) p out with|some t=>(match put (Dt (Ge G (UD out b k p) r τ) r t r2) p2 v with|some t2=>DF d res K (Dt (Ge G p2.length r2 (Dt (Ge G (UD out b k p) r τ) r t)) r2 t2)|none=>False)|none=>False)
def lbP(P:jh)(G:Gi)(d:Option EH)(f:Nat)(x:Ar)(VQ:kv)(y:Ar)(K:jd)(h:Sg):Prop:=match plc h y with|some (r2,p2)=>(match gG G r2 p2 h with|some (v,τ)=>(match plc τ x,Od τ VQ with|some (r,p),some ms=>(match sub (τ r) p with|some (.own b k rows)=>lbQ P G d f r r2 p p2 v (.own b k rows) b k ms K τ|_=>False)|_,_=>False)|none=>False)|none=>False
def fnOK(P:jh)(f:Nat):Bool:=match P.funcs[f]? with|some fn=>fn.body.isSome&&fn.name != "runtime.NumGoroutine"|none=>false
def clvP(P:jh)(d:Option EH)(x:Ar)(args:kv)(K:jd)(h:Sg):Prop:=match ar h x,KE h args with|.sc (.func (.func f) a b),some aZ9=>a= #[]/\b= #[]/\fnOK P f/\∃res,Says P f aZ9 res/\(match Rm 0 res with|some v=>DF d v K h|none=>False)|_,_=>False
def MY(P:jh)(G:Gi):List o0->(Sg->Prop)->Sg->Prop|[],K,h=>K h|.o o::xs,K,h=>KA P G o (MY P G xs K) h|.mK d neg x::xs,K,h=>(match hd h x with|some (a,_)=>(match rowsOf a with|some rows=>∀b:Bool,(b=true->rows=[])->DF (some d) (.sc (.bool (if neg=true then !b else b))) (MY P G xs K) h|none=>False)|none=>False)|.gld d g n::xs,K,h=>(match qI g n with|some cs=>DF (some d) (.agg (cs.map .sc)) (MY P G xs K) h|none=>False)|.bxv d n s::xs,K,h=>(match h s with|.agg cs=>cs.length=n/\∀us:List Value,us.length=n->DF (some d) (.vb s 0 us) (MY P G xs K) h|_=>False)|.lb d f x VQ y::xs,K,h=>lbP P G d f x VQ y (MY P G xs K) h|.clv d x args::xs,K,h=>clvP P d x args (MY P G xs K) h|.clo d f x args g::xs,K,h=>gdP g (wI P d f x args (MY P G xs K)) (dH d (MY P G xs K)) h
def czS(G:Gi)(r:Nat)(p:ji)(h:Sg):Option Sg:=match sub (h r) p with|some (.own b k rows)=>(match put (h r) p (.own b k (NG rows))with|some t=>some (Dt (Ge G (p.length+1) r h) r t)|none=>none)|_=>none
def gzS(G:Gi)(c:Bool)(r:Nat)(p:ji)(h:Sg):Option Sg:=if c=true then czS G r p h else match sub (h r) p with|some (.sl _ _ _)=>some h|_=>match Sm G r p h with|some (_,τ)=>some τ|none=>none
def pgQ(G:Gi)(c:Bool)(r:Nat)(p:ji)(Q:Exit->Sg->Prop):Exit->Sg->Prop|.normal,h=>(match gzS G c r p h with|some τ=>Q .normal τ|none=>False)|e,h=>Q e h
def TL(P:jh)(G:Gi)(f:Flo):List BP->(Sg->Prop)->Sg->Prop|[],K,h=>K h|o::os,K,h=>mE f.kb f.off (h f.r)=true/\KA P G o (TL P G f os K) h
def T9:AV->Bool|.own false _ _=>true|_=>false
def T8:AV->Bool|.Lu .. =>true|_=>false
def okD(f:Apd)(m:Nat)(h:Sg):Bool:=(decide (m<=f.i7)||T9 (h f.s))&&(decide (m<=f.i8)||T8 (h f.e))&&(decide (m<=f.i11)||T8 (h f.ap))
def QI(P:jh)(G:Gi)(f:Apd):Nat->List BP->(Sg->Prop)->Sg->Prop|m,[],K,h=>okD f m h=true/\K h|m,o::os,K,h=>okD f m h=true/\KA P G o (QI P G f (m+1) os K) h
def runT(P:jh)(G:Gi)(Cs:kq):Tr->(Sg->Prop)->Sg->Prop|.leaf,K,h=>K h|.one i t,K,h=>(match Cs[i]? with|some o=>KA P G o (runT P G Cs t K) h|none=>False)|.fork _ _ a b,K,h=>runT P G Cs a K h/\runT P G Cs b K h
def Exit.TF(next:jd)(Q:Exit->Sg->Prop):Exit->Sg->Prop|.normal,h=>next h|e,h=>Q e h
def Exit.Zh(id:Nat)(Q:Exit->Sg->Prop):Exit->Sg->Prop|.exit i,h=>if i=id then Q .normal h else Q (.exit i) h|e,h=>Q e h
def It(P:jh)(G:Gi):IC->(Exit->Sg->Prop)->Sg->Prop|.skip,Q,h=>Q .normal h|.bad,_,_=>False|.kH xs,Q,h=>MY P G xs (Q .normal) h|.apd f ops,Q,h=>QI P G f 0 ops (KA P G ⟨none,.st 1 (.t f.ap) (.t f.s),none⟩ (Q .normal)) h|.pg c r p a,Q,h=>It P G a (pgQ G c r p Q) h|.gz c r p a,Q,h=>(match gzS G c r p h with|some τ=>It P G a Q τ|none=>False)|.fY ops,Q,h=>Pa P G ops (Q .normal) h|.flo f a b,Q,h=>TL P G f a (Pa P G b (Q .normal)) h|.l7 _ ops,Q,h=>Pa P G ops (Q .normal) h|.drw t ops,Q,h=>runT P G ops t (Q .normal) h|.seq a b,Q,h=>It P G a (Exit.TF (It P G b Q) Q) h|.cond c a b,Q,h=>(match ar h c with|.sc (.bool x)=>if x=true then It P G a Q h else It P G b Q h|_=>False)|.block id a,Q,h=>It P G a (Exit.Zh id Q) h|.loop a,Q,h=>∃I:Nat->Sg->Prop,(∃n,I n h)/\∀n τ,I n τ->It P G a (Exit.TF (λτ'=>∃n',n'<n/\I n' τ') Q) τ|.exit id,Q,h=>Q (.exit id) h|.ret,Q,h=>Q .ret h
def awp_skip(P:jh)(G:Gi)(Q:Exit->Sg->Prop)(h:Sg):It P G .skip Q h=Q .normal h:=(rfl)
def awp_reg(P:jh)(G:Gi)(ops:kq)(Q:Exit->Sg->Prop)(h:Sg):It P G (.fY ops) Q h=Pa P G ops (Q .normal) h:=(rfl)
def awp_rex(P:jh)(G:Gi)(a:List o0)(Q:Exit->Sg->Prop)(h:Sg):It P G (.kH a) Q h=MY P G a (Q .normal) h:=(rfl)
def zN(P:jh)(G:Gi)(a b:IC)(Q:Exit->Sg->Prop)(h:Sg):It P G (.seq a b) Q h=It P G a (Exit.TF (It P G b Q) Q) h:=(rfl)
def awp_block(P:jh)(G:Gi)(b:Nat)(a:IC)(Q:Exit->Sg->Prop)(h:Sg):It P G (.block b a) Q h=It P G a (Exit.Zh b Q) h:=(rfl)
def awp_exit(P:jh)(G:Gi)(a:Nat)(Q:Exit->Sg->Prop)(h:Sg):It P G (.exit a) Q h=Q (.exit a) h:=(rfl)
def awp_ret(P:jh)(G:Gi)(Q:Exit->Sg->Prop)(h:Sg):It P G .ret Q h=Q .ret h:=(rfl)
theorem pU(P:jh)(G:Gi)(c:Ar)(a b:IC)(Q:Exit->Sg->Prop)(h:Sg):It P G (.cond c a b) Q h=match ar h c with|.sc (.bool x)=>if x=true then It P G a Q h else It P G b Q h|_=>False:=rfl
variable{P:jh}{W:Exit->Sg->Prop}
def awp_loop{a:IC}(I:mh)(n:Nat)(h:I n σ')(b:∀n τ,I n τ->It P G a (Exit.TF (λc=>∃d,d<n/\I d c) W) τ):It P G (.loop a) W σ':=⟨I,⟨n,h⟩,b⟩
def sL(next:jd)(Q:Exit->Sg->Prop)(h:Sg):Exit.TF next Q .normal h=next h:=(rfl)
def seqA_exit(next:jd)(Q:Exit->Sg->Prop)(a:Nat)(h:Sg):Exit.TF next Q (.exit a) h=Q (.exit a) h:=(rfl)
def seqA_ret(next:jd)(Q:Exit->Sg->Prop)(h:Sg):Exit.TF next Q .ret h=Q .ret h:=(rfl)
def eQ(a:Nat)(Q:Exit->Sg->Prop)(h:Sg):Exit.Zh a Q .normal h=Q .normal h:=(rfl)
def Qz(a i:Nat)(Q:Exit->Sg->Prop)(h:Sg):Exit.Zh a Q (.exit i) h=if i=a then Q .normal h else Q (.exit i) h:=(rfl)
def vM(a:Nat)(Q:Exit->Sg->Prop)(h:Sg):Exit.Zh a Q .ret h=Q .ret h:=(rfl)
inductive RV where
 |tmp (t:Nat)
 |cell (a:Nat) (agg:Bool) (n:Nat)
 deriving Inhabited
abbrev oc:=List RV
def HD(G:Gi):List RV->Sg->Option (List AV×Sg)|[],h=>some ([],h)|.tmp t::l,h=>(match tk G (.t t) h with|some (v,τ)=>(match HD G l τ with|some (vs,τ')=>some (v::vs,τ')|none=>none)|none=>none)|.cell a agg n::l,h=>match h a with|.own true _ [row]=>(match JM agg n row with|some v=>(match HD G l (Dt (Ki G a h) a .dead)with|some (vs,τ')=>some (v::vs,τ')|none=>none)|none=>none)|_=>none
def one:List AV->AV|[v]=>v|vs=>.Bo vs
def Ends(G:Gi)(rs:oc)(res:AV)(e:Exit)(h:Sg):Prop:=(match e with|.normal=>True|.ret=>True|_=>False)/\∃vs τ,HD G rs h=some (vs,τ)/\one vs=res
def start(args:jj):Sg:=λs=>args.getD s .un
section
variable{w w':jm}{S S':jc}{F F':jc}{G:Gi}{δ δ':jv}{Fr:je}
theorem aG(n d r:Nat)(p:ji):Fw n d (.al r p)=if r=d/\n<=p.length then .dead else .al r p:=da
theorem Wx(n d r:Nat)(p:ji)(i j k:Nat):Fw n d (.Lu r p i j k)=if r=d/\n<=p.length then .dead else .Lu r p i j k:=da
@[simp]theorem killn_agg(n d:Nat)(a:jj):Fw n d (.agg a)=.agg (a.map (Fw n d)):=by simp[Fw,jS]
@[simp]theorem killn_tup(n d:Nat)(a:jj):Fw n d (.Bo a)=.Bo (a.map (Fw n d)):=by simp[Fw,jS]
theorem aJ(n d s o:Nat)(a:jw):Fw n d (.vb s o a)=if s=d then .dead else .vb s o a:=da
theorem aI(n d f:Nat)(rs:ky):Fw n d (.cl f rs)=if(rs.all λx=>x.1 != d)=true then .cl f rs else .dead:=da
theorem aH(n d f:Nat)(vs:jw)(b:Nat)(a:nE):Fw n d (.cb f vs b a)=if(a.all λx=>x.1 != d||(x.2&&decide (0<n)))=true then .cb f vs b a else .dead:=by simp only[Fw]
@[simp]theorem jR(n d:Nat)(a:AV)(v:jA):IZ n d (.lf a v)=.lf (Fw n d a) v:=by simp[IZ]
@[simp]theorem Pp(n d:Nat)(h:jA)(b:Bool)(k:Nat)(rows:jp):IZ n d (.own h b k rows)=.own h b k rows:=by simp[IZ]
@[simp]theorem Po(n d:Nat)(a:jz):IZ n d (.agg a)=.agg (a.map (IZ n d)):=by simp[IZ,aF]
@[simp]theorem Pq(n d:Nat)(a:jz):IZ n d (.Bo a)=.Bo (a.map (IZ n d)):=by simp[IZ,aF]
theorem SY(L:ju)(n d:Nat):∀(a:AV),Gl L a->Gl L (Fw n d a)=true|.al r p,h=>by rw[aG];split;all_goals simp_all|.Lu r p i j k,h=>by rw[Wx];split;all_goals simp_all|.agg cs,h=>by rw[LH,AAP]at h;rw[killn_agg,LH,ABY,AAP];intro c e;exact SY L n d c (h c e)|.Bo cs,h=>by rw[P5,AAP]at h;rw[killn_tup,P5,ABY,AAP];intro c e;exact SY L n d c (h c e)|.sc _,_=>da|.sl ..,_=>da|.own ..,_=>da|.fp _,_=>da|.dead,_=>da|.un,_=>da|.Y7 ..,_=>by simp[Fw,Gl]|.vb s o us,h=>by rw[aJ];split;all_goals simp_all|.cl f rs,h=>by rw[aI];split;exact h;simp|.cb f vs b ss,h=>by rw[aH];split;all_goals simp_all
theorem xQ{a:AV}(n d:Nat)(c:IF w S a v):IF w S (Fw n d a) v:=by cases a with|al r p=>rw[aG];split<;>simp[IF]|Lu r p i j k=>rw[Wx];split<;>simp[IF]|cl f rs=>rw[aI];split<;>trivial|vb s o us=>(rw[aJ];split<;>first|trivial|exact c)|cb f vs b ss=>(rw[aH];split<;>first|trivial|exact c)|agg cs|Bo cs=>exact c.elim|own=>exact c.elim|_=>simpa[Fw]using c
theorem Mq(n d:Nat)(h:Ok w S new F):(IZ n d new).er=Fw n d new.er/\(IZ n d new).BJ=new.BJ/\Ok w S (IZ n d new) F:=by
 induction h with
 |lf a v F ha hF=>refine⟨ak,ak,?_⟩;rw[jR];exact .lf _ v F (xQ n d ha) hF
 |nil k F hF=>exact⟨da,ak,by rw[Pp];exact .nil k F hF⟩
 |own bx k rows b c arr E Fs F hb hk Ex Mp hv hr hd CG Lb hF ih=>exact⟨da,ak,by rw[Pp];exact .own bx k rows b c arr E Fs F hb hk Ex Mp hv hr hd CG Lb hF⟩
 |agg cs Fs F hr hd CG hF ih|Bo cs Fs F hr hd CG hF ih=>
  have key:∀e∈cs,(IZ n d e).er=Fw n d e.er/\(IZ n d e).BJ=e.BJ:=by intro e f;obtain⟨i,hi⟩:=AAk f;exact⟨(ih i e hi).1,(ih i e hi).2.1⟩
  refine⟨?_,?_,?_⟩;simp_all;simp_all;(. (first|rw[Po]|rw[Pq]);(first|refine .agg _ Fs F ?_ hd ?_ hF|refine .Bo _ Fs F ?_ hd ?_ hF);all_goals grind)
theorem EC.Fw(n d:Nat)(h:EC δ new)(g:gV new)(q:∀r p v bx k rows,(r≠d\/p.length<n)->BO (δ r) p=some (.own v bx k rows)->∃c,BO (δ' r) p=some (.own v bx k c))(B:∀r,r≠d->(δ' r).BJ=(δ r).BJ):EC δ' (IZ n d new):=by induction h with|lf a v h=>(rw[jR];refine .lf _ v ?_;cases g with|lf _ _ g=>cases a with|al r p=>rw[aG];split;trivial;rename_i e;obtain⟨bx,k,rows,h⟩:=h;obtain⟨c,m⟩:=q r p v bx k rows ah h;exact⟨bx,k,c,m⟩|Lu r p i j k=>rw[Wx];split;trivial;obtain⟨y,bx,rows,b,h,F,rfl⟩:=h;obtain⟨c,m⟩:=q r p y bx k rows ah h;exact⟨y,bx,c,b,m,F,rfl⟩|vb s o us=>rw[aJ];split;trivial;exact(B s bm).trans h|cb f vs b ss=>rw[aH];split;rename_i t;refine⟨h.1,λi s fl u hi z=>?_⟩;rw[AAP]at t;have l:=t _ (AAW hi);simp only[AAh,ABf,ne_eq,AAH,AAa]at l;obtain⟨G,g2⟩:=h.2 i s fl u hi z;by_cases e:s=d;obtain⟨rfl,hn⟩:=l.resolve_left ah;obtain⟨bx,k,rows,D⟩:=g2 rfl;obtain⟨c,w⟩:=q s [] u bx k rows (.inr hn) D;refine⟨?_,λ_=>⟨bx,k,c,w⟩⟩;simp only[BO,AAI]at w;simp_all;grind;trivial|cl f rs=>rw[aI];split;rename_i t;obtain⟨vs,l,E,H⟩:=h;refine⟨vs,l,E,λi r p u hi z=>?_⟩;grind;trivial|agg cs|Bo cs=>simp[EK]at g|own=>simp[EK]at g|_=>simp only[Abs.Fw];trivial)|own=>rw[Pp];exact .own _ _ _ _|agg cs _ ih=>(rw[Po];cases g with|agg _ g=>refine .agg _ λi C hd=>?_;grind)|Bo cs _ ih=>rw[Pq];cases g with|Bo _ g=>refine .Bo _ λi C hd=>?_;grind
theorem St.SZ(h:St G w S δ Fr)(n d s:Nat):(E6 G n d δ s).er=Ge G n d (λs=>(δ s).er) s:=by unfold E6 Ge;split;exact(Mq n d (h.ok s)).1;rfl
theorem St.NJ(h:St G w S δ Fr)(n d s:Nat):(E6 G n d δ s).BJ=(δ s).BJ:=by unfold E6;split;exact(Mq n d (h.ok s)).2.1;rfl
theorem St.killnδ_ok(h:St G w S δ Fr)(n d s:Nat):Ok w S (E6 G n d δ s) (Fr s):=by unfold E6;split;exact(Mq n d (h.ok s)).2.2;exact h.ok s
theorem St.killnδ_rt(h:St G w S δ Fr)(n d s:Nat):Gl (G.HR s) (E6 G n d δ s).er:=by unfold E6;split;rw[(Mq n d (h.ok s)).1];exact SY _ n d _ (h.rt s);exact h.rt s
theorem Yu(n d:Nat)(q:ji):Abs.BO (IZ n d new) q=some (.own v bx k rows)↔Abs.BO new q=some (.own v bx k rows):=by induction q generalizing new with|nil=>simp only[Abs.BO,AAI];cases new<;>simp|cons s q ih=>obtain⟨i,j,c⟩:=s;cases new with|lf a v=>simp[Abs.BO]|own h b k1 Kk=>simp_all|agg cs|Bo cs=>simp only[Po,Pq,Abs.BO,AAU];grind
theorem aK(n d r:Nat)(p:ji):Abs.BO (E6 G n d δ r) p=some (.own v bx k rows)↔Abs.BO (δ r) p=some (.own v bx k rows):=by unfold E6;split;exact Yu n d p;simp_all
theorem PD(q:ji):∀(p:ji),q.length<=p.length->FH new p Q=some D->(q.length=p.length->∀v bx k rows,Abs.BO new p=some (.own v bx k rows)->∃f,Q=.own v bx k f)->∀{v:jA}{bx:Bool}{k:Nat}{rows:jp},Abs.BO new q=some (.own v bx k rows)->∃f,Abs.BO D q=some (.own v bx k f):=by induction q generalizing new D with|nil=>(intro p n d r v bx k rows g;simp only[Abs.BO,AAI]at g;subst g;match p,n with|[],_=>simp only[FH,AAI]at d;subst d;obtain⟨f,h⟩:=r rfl v bx k rows rfl;exact⟨f,by rw[h];rfl⟩| (i,j,z)::p,_=>simp only[FH]at d;split at d;split at d;split at d;simp only[AAI]at d;subst d;exact⟨_,by simp[Abs.BO];rfl⟩;cases d;cases d;cases d)|cons s q ih=>intro p n d r v bx k rows g;obtain⟨i,j,z⟩:=s;match p,n with| (i',j',k')::p,n=>have o:q.length<=p.length:=(by simpa using n);cases new with|lf a v=>simp[Abs.BO]at g|own h b k1 Kk=>simp only[FH]at d;split at d;rename_i row B;split at d;rename_i c m;split at d;(rename_i c' x;simp only[AAI]at d;subst d;simp only[Abs.BO]at g |-;cases hi:Kk[i]? with|none=>simp_all|some row2=>simp only[hi]at g;cases hj:row2[j]? with|none=>simp_all|some c2=>simp only[hj]at g;have w:i<Kk.length:=(AAJ.1 hi).1;have l:j<row2.length:=(AAJ.1 hj).1;by_cases C:i'=i;subst C;rw[hi]at B;cases B;rw[AAN w];by_cases u:j'=j;subst u;rw[hj]at m;cases m;simp only[AAN l];exact ih p o x (λe v bx k rows h=>r (by simp[e]) v bx k rows (by simp only[Abs.BO,hi,hj];exact h)) g;simp_all;simp_all);cases d;cases d;cases d|agg cs|Bo cs=>simp only[FH]at d;split at d;rename_i c m;split at d;(rename_i c' x;simp only[AAI]at d;subst d;simp only[Abs.BO]at g |-;cases hj:cs[j]? with|none=>simp_all|some c2=>simp only[hj]at g;have l:j<cs.length:=(AAJ.1 hj).1;by_cases u:j'=j;subst u;rw[hj]at m;cases m;simp only[AAN l];exact ih p o x (λe v bx k rows h=>r (by simp[e]) v bx k rows (by simp only[Abs.BO,hj];exact h)) g;simp_all);cases d;cases d
theorem St.setn(h:St G w S δ Fr)(n d:Nat)(g:DV)(Fn:jc)(F:∀b,S b->w'.heap[b]? =w.heap[b]?)(D:∀s,s≠d->∀x,Fr s x->w'.heap[x]? =w.heap[x]?)(z:∀b,S b->S' b)(B:∀s,s≠d->∀x,Fr s x->¬S' x)(hn:Ok w' S' g Fn)(H:∀s,s≠d->∀x,Fn x->¬Fr s x)(u:Gl (G.HR d) g.er)(y:EC δ g)(C:∀p v bx k rows,p.length<n->Abs.BO (δ d) p=some (.own v bx k rows)->∃c,Abs.BO g p=some (.own v bx k c)):St G w' S' (Dt (E6 G n d δ) d g) (Dt Fr d Fn):=by
 have m:∀r p v bx k rows,(r≠d\/p.length<n)->Abs.BO (δ r) p=some (.own v bx k rows)->∃c,Abs.BO (Dt (E6 G n d δ) d g r) p=some (.own v bx k c):=by intro r p v bx k rows f i;by_cases e:r=d;subst e;rw[Bh];grind;rw[B5 _ _ e];exact⟨rows,(aK n d r p).2 i⟩
 have o:∀r,r≠d->(Dt (E6 G n d δ) d g r).BJ=(δ r).BJ:=by intro r f;rw[B5 _ _ f];exact h.NJ n d r
 refine⟨?_,?_,?_,?_,h.self⟩;intro s;by_cases a:s=d;subst a;rw[Bh,Bh];exact hn;rw[B5 _ _ a,B5 _ _ a];exact(h.killnδ_ok n d s).mono F (D s a) z (B s a);intro s t x j l;by_cases a:s=d<;>by_cases q:t=d;omega;subst a;rw[Bh]at j;rw[B5 _ _ q]at l;simp_all;subst q;rw[Bh]at l;rw[B5 _ _ a]at j;simp_all;rw[B5 _ _ a]at j;rw[B5 _ _ q]at l;exact h.Na s t x j l;(. intro s;by_cases a:s=d;subst a;rw[Bh];refine y.mono u (λr f p v bx k rows i=>m r p v bx k rows (.inl ?_) i) (λr f=>o r ?_);rintro rfl;exact h.self _ f;rintro rfl;exact h.self _ f;(. rw[B5 _ _ a];unfold E6;split;exact(h.al s).Fw n d (h.ok s).Lq m o;(. rename_i hn;have hd:d∉G.HR s:=λE=>hn (Gi.mem_als E);refine(h.al s).mono (h.rt s) (λr f p v bx k rows i=>m r p v bx k rows (.inl ?_) i) (λr f=>o r ?_);all_goals grind)));intro s;by_cases a:s=d;subst a;rw[Bh];exact u;rw[B5 _ _ a];exact h.killnδ_rt n d s
end
variable{U F S1 Ff:jc}{g:jm}
section
variable{w w':jm}{S S':jc}{G:Gi}{δ:jv}{Fr:je}
structure Nx (w:World) (S U:Nat->Prop) (w':World) (S' U':Nat->Prop):Prop where
 os:w'.os=w.os
 tape:w'.tape=w.tape
 output:w'.output=w.output
 size:w.heap.size<=w'.heap.size
 block:∀b,b<w.heap.size->¬U b->w'.heap[b]? =w.heap[b]?
 sub:∀b,S b->S' b
 sup:∀b,S' b->S b\/U b\/w.heap.size<=b
 lt:(∀b,S b->b<w.heap.size)->∀b,S' b->b<w'.heap.size
 own:∀x,U' x->U x\/w.heap.size<=x
def Nx.refl(w:jm)(S U:jc):Nx w S U w S U:=⟨rfl,rfl,rfl,AAj _,λ_ _ _=>rfl,λ_ h=>h,λ_ h=>.inl h,λh=>h,λ_ h=>.inl h⟩
def Nx.less{w:jm}{S:jc}(h:∀x,F x->U x):Nx w S U w S F:=⟨rfl,rfl,rfl,AAj _,λ_ _ _=>rfl,λ_ h=>h,λ_ h=>.inl h,λh=>h,λx b=>.inl (h x b)⟩
theorem Nx.trans{w f:jm}{S S2:jc}(h:Nx w S U f S1 F)(k:Nx f S1 F g S2 Ff):Nx w S U g S2 Ff:=by
 refine⟨k.os.trans h.os,k.tape.trans h.tape,k.output.trans h.output,ABB h.size k.size,?_,λb c=>k.sub b (h.sub b c),?_,λl b c=>k.lt (h.lt l) b c,?_⟩
 . (intro b c j;rw[k.block b (ABJ c h.size) ?_,h.block b c j];intro d;rcases h.own b d with a|a);all_goals grind
 (. (intro b c;have m:=h.size;rcases k.sup b c with a|a|a);exact h.sup b a;(. (rcases h.own b a with i|i);all_goals simp_all);omega);(intro x n;have m:=h.size;rcases k.own x n with a|a);exact h.own x a;omega
abbrev BZ(Fr:je):Nat->Prop:=λx=>∃s,Fr s x
theorem kills_eq(d:Nat)(h:Sg):Jx (G.QH d) d h=Ki G d h:=by unfold Jx Ki;split;all_goals simp_all
def EC.dead(v:jA):EC δ (.lf .dead v):=.lf _ _ trivial
theorem St.empty(h:St G w S δ Fr)(s:Nat):St G w S (Dt (Ie G s δ) s (.lf .dead (δ s).BJ)) (Dt Fr s λ_=>False):=by refine h.set s _ _ (λ_ _=>rfl) (λ_ _ _ _=>rfl) (λ_ h=>h) (λt _ x a=>(h.ok t).GF x a) (.lf _ _ _ trivial (λ_ h=>h)) (λ_ _ _ h=>h.elim) ak (EC.dead _)
theorem JW(h:St G w S δ Fr)(d:Nat)(x:DV):(λs=>(Dt (Ie G d δ) d x s).er)=Dt (Ki G d (λs=>(δ s).er)) d x.er:=by funext s;by_cases a:s=d;subst a;simp[Dt];simp only[Dt,a,AAY];exact h.q8 d s
theorem I3(h:St G w S δ Fr)(d:Nat)(x:DV)(s:Nat):(Dt (Ie G d δ) d x s).BJ=if s=d then x.BJ else(δ s).BJ:=by by_cases a:s=d;subst a;simp[Dt];simp only[Dt,a,AAY];exact h.Wz d s
theorem Xp{a:AV}{h:jA}(p:ji)(d:FH new p (.lf a h)=some D)(q:ji)(f:BO D q=some (.own v bx k rows)):∃e,BO new q=some (.own v bx k e):=by induction p generalizing new D q with|nil=>(simp only[FH,AAI]at d;subst d;cases q with|nil|cons s q=>simp[BO]at f)|cons s p ih=>obtain⟨i,j,r⟩:=s;cases new with|lf a v=>simp[FH]at d|own hh b k1 Kk=>(simp only[FH]at d;cases hi:Kk[i]? with|none=>simp_all|some row=>simp only[hi]at d;cases hj:row[j]? with|none=>simp_all|some c=>simp only[hj]at d;cases hc:FH c p (.lf a h)with|none=>simp_all|some c'=>simp only[hc,AAI]at d;subst d;have o:=(AAJ.1 hi).1;have l:=(AAJ.1 hj).1;cases q with|nil=>simp only[BO,AAI,DV.own.injEq]at f;obtain⟨rfl,rfl,rfl,_⟩:=f;exact⟨_,rfl⟩|cons s2 q=>obtain⟨i2,m,n⟩:=s2;simp only[BO]at f |-;grind)|agg cs|Bo cs=>simp only[FH]at d;cases hj:cs[j]? with|none=>simp_all|some c=>simp only[hj]at d;cases hc:FH c p (.lf a h)with|none=>simp_all|some c'=>simp only[hc,AAI]at d;subst d;have l:=(AAJ.1 hj).1;cases q with|nil=>simp[BO]at f|cons s2 q=>obtain⟨i2,m,n⟩:=s2;simp only[BO]at f |-;grind
theorem OE(p:ji)(e:FH D p new=some Q)(g:EC δ D)(hn:EC δ new):EC δ Q:=by induction p generalizing D Q with|nil=>simp only[FH,AAI]at e;simp_all|cons s p ih=>obtain⟨i,j,k⟩:=s;cases g with|lf a v h=>simp[FH]at e|own hh b k1 rows=>simp only[FH]at e;split at e;split at e;split at e;simp only[AAI]at e;subst e;exact .own _ _ _ _;cases e;cases e;cases e|agg cs hr|Bo cs hr=>simp only[FH]at e;split at e;rename_i c l;split at e;rename_i c' m;simp only[AAI]at e;subst e;(first|refine .agg _ λi d hd=>?_|refine .Bo _ λi d hd=>?_);grind;cases e;cases e
theorem NQ(p:ji)(d:FH D p new=some Q)(f:Gl L D.er)(hn:Gl L new.er):Gl L Q.er:=by induction p generalizing D Q with|nil=>simp only[FH,AAI]at d;simp_all|cons s p ih=>obtain⟨i,j,k⟩:=s;cases D with|lf a v=>simp[FH]at d|own hh b k1 rows=>simp only[FH]at d;split at d;split at d;split at d;simp only[AAI]at d;subst d;simp;cases d;cases d;cases d|agg cs|Bo cs=>simp only[FH]at d;split at d;rename_i c g;split at d;rename_i c' h;simp only[AAI]at d;subst d;simp only[JI,LZ,LH,P5,ABY,AAP]at f |-;grind;cases d;cases d
theorem St.replace(h:St G w S δ Fr)(r:Nat)(p:ji)(D:BO (δ r) p=some new):∃a,Ok w S new a/\(∀x,a x->Fr r x)/\∀(S':jc)(n:DV),n.BJ=new.BJ->Ok w S' n (λ_=>False)->(∀b,S b->S' b)->(∀t b,Fr t b->¬a b->¬S' b)->(∀L,Gl L n.er)->EC δ n->∃t F',FH (δ r) p n=some t/\St G w S' (Dt (Ie G r δ) r t) (Dt Fr r F')/\(∀x,F' x↔Fr r x/\¬a x)/\t.BJ=(δ r).BJ:=by obtain⟨a,C,f,q⟩:=(h.ok r).replace p D;refine⟨a,C,f,?_⟩;intro S' n z hn g i u m;obtain⟨t,F',e,k,E,l⟩:=q w S' n (λ_=>False) z hn (λ_ h=>h.elim) (λ_ _=>rfl) (λ_ _ _=>rfl) g (λb B y=>i r b B y);have j:∀x,F' x↔Fr r x/\¬a x:=λx=>am;refine⟨t,F',e,?_,j,l⟩;refine h.set r t F' (λ_ _=>rfl) (λ_ _ _ _=>rfl) g ?_ k ?_ (NQ p e (h.rt r) (u _)) (OE p e (h.al r) m);intro s d x c;exact i s x c λv=>d (h.Na s r x c (f x v));intro s d x c o;exact d (h.Na s r x o ((j x).1 c).1)
theorem Ph(h:St G w S δ Fr)(n d:Nat)(x:DV):(λs=>(Dt (E6 G n d δ) d x s).er)=Dt (Ge G n d (λs=>(δ s).er)) d x.er:=by funext s;by_cases a:s=d;subst a;simp[Dt];simp only[Dt,a,AAY];exact h.SZ n d s
theorem OT(h:St G w S δ Fr)(n d:Nat)(x:DV)(s:Nat):(Dt (E6 G n d δ) d x s).BJ=if s=d then x.BJ else(δ s).BJ:=by by_cases a:s=d;subst a;simp[Dt];simp only[Dt,a,AAY];exact h.NJ n d s
theorem St.rW(h:St G w S δ Fr)(r:Nat)(p:ji)(J:BO (δ r) p=some new):∃a,Ok w S new a/\(∀x,a x->Fr r x)/\∀(S':jc)(n:DV),n.BJ=new.BJ->Ok w S' n (λ_=>False)->(∀b,S b->S' b)->(∀t b,Fr t b->¬a b->¬S' b)->(∀L,Gl L n.er)->EC δ n->∃t F',FH (δ r) p n=some t/\St G w S' (Dt (E6 G p.length r δ) r t) (Dt Fr r F')/\(∀x,F' x↔Fr r x/\¬a x)/\t.BJ=(δ r).BJ:=by obtain⟨a,I,i,B⟩:=(h.ok r).replace p J;refine⟨a,I,i,?_⟩;intro S' n F hn j l C y;obtain⟨t,F',c,o,K,u⟩:=B w S' n (λ_=>False) F hn (λ_ h=>h.elim) (λ_ _=>rfl) (λ_ _ _=>rfl) j (λb H E=>l r b H E);have m:∀x,F' x↔Fr r x/\¬a x:=λx=>am;refine⟨t,F',c,?_,m,u⟩;refine h.setn p.length r t F' (λ_ _=>rfl) (λ_ _ _ _=>rfl) j ?_ o ?_ (NQ p c (h.rt r) (C _)) (OE p c (h.al r) y) ?_;intro s f x d;exact l s x d λD=>f (h.Na s r x d (i x D));intro s f x d z;exact f (h.Na s r x z ((m x).1 d).1);intro q v bx k rows M g;exact PD q p ah c (λe=>absurd e ah) g
theorem St.gG(h:St G w S δ Fr){a:AV}(g:Abs.gG G k p (λs=>(δ s).er)=some (a,τ)):∃e F' D Ff,St G w S e F'/\(λs=>(e s).er)=τ/\(∀s,(e s).BJ=(δ s).BJ)/\Ok w S D Ff/\D.er=a/\(∃v bx r rows,D=.own v bx r rows)/\BO (δ k) p=some D/\(∀s x,F' s x->¬Ff x)/\(∀x,BZ F' x\/Ff x->BZ Fr x)/\(∀q v bx r rows,BO (e k) q=some (.own v bx r rows)->∃c,BO (δ k) q=some (.own v bx r c))/\(∀s,s≠k->e s=E6 G p.length k δ s):=by unfold Abs.gG at g;split at g;rename_i b r rows K;split at g;(rename_i t O;simp only[AAI,AAZ]at g;obtain⟨rfl,rfl⟩:=g;obtain⟨D,o,l⟩:=EY (h.ok k).Lq K;obtain⟨E,u,B,F⟩:=h.rW k p o;obtain⟨L,F',j,z,N,M⟩:=F S (.lf .dead D.BJ) ak (.lf _ _ _ trivial (λ_ h=>h)) (λ_ h=>h) (λt b J _=>(h.ok t).GF b J) ak (EC.dead _);have m:L.er=t:=(by obtain⟨Q,n,H⟩:=IQ (d:=δ k) (p:=p) (a:=t) (.lf .dead D.BJ) (h.ok k).Lq am;rw[j]at n;obtain rfl:=AAK n;exact H);have C:∃v bx r rows,D=.own v bx r rows:=by have:=u.Lq;cases D with|own v bx r rows=>simp_all|lf a v=>(cases this with|lf _ _ hl=>simp at l;subst l;simp[EK]at hl)|agg cs|Bo cs=>simp at l);refine⟨_,_,D,E,z,by rw[Ph h,m],?_,u,l,C,o,?_,?_,?_,λs f=>B5 _ _ f⟩;intro s;rw[OT h];simp_all;intro s x i I;by_cases f:s=k;subst f;rw[Bh]at i;simp_all;rw[B5 _ _ f]at i;exact f (h.Na s k x i (B x I));rintro x (⟨s,i⟩|i);by_cases f:s=k;subst f;rw[Bh]at i;grind;rw[B5 _ _ f]at i;grind;grind;intro q v bx P c y;rw[Bh]at y;exact Xp p j q y;cases g;cases g
end
variable{C H:jv}
section
variable{w w':jm}{S S':jc}{G:Gi}{δ:jv}{Fr:je}
theorem mU(d:Nat)(q:ji)(c:BO (JY d new) q=some (.own v bx k rows)):BO new q=some (.own v bx k rows):=by induction q generalizing new with|nil=>(simp only[BO,AAI]at c |-;cases new with|lf a v=>simp at c|own=>simp_all|agg|Bo=>simp at c)|cons s q ih=>obtain⟨i,j,e⟩:=s;cases new with|lf a v=>simp[BO]at c|own h b k1 Kk=>simp_all|agg cs|Bo cs=>simp only[O5,O6,BO,AAU]at c |-;grind
theorem Vh(d r:Nat)(q:ji)(a:BO (Ie G d δ r) q=some (.own v bx k rows)):BO (δ r) q=some (.own v bx k rows):=by unfold Ie at a;split at a;exact mU d q a;exact a
def Hd(δ δ':jv):Prop:=∀r q v bx k rows,BO (δ' r) q=some (.own v bx k rows)->∃rows',BO (δ r) q=some (.own v bx k rows')
def Hd.refl(δ:jv):Hd δ δ:=λ_ _ _ _ _ rows h=>⟨rows,h⟩
theorem Hd.trans{δ:jv}(h:Hd δ C)(k:Hd C H):Hd δ H:=by intro r q v bx d rows f;obtain⟨b,e⟩:=k r q v bx d rows f;exact h r q v bx d b e
def Kl(w:jm)(S:jc):List DV->(Nat->Prop)->Prop|[],F=>∀x,¬F x|d::ds,F=>∃F1 F2,Ok w S d F1/\Kl w S ds F2/\(∀x,F1 x->¬F2 x)/\∀x,F x↔F1 x\/F2 x
def oS(w:jm)(S:jc)(cs:jz)(F:jc):Prop:=∃Fs:Nat->Nat->Prop,(∀(i:Nat) d,cs[i]? =some d->Ok w S d (Fs i))/\(∀i i' x,Fs i x->Fs i' x->i=i')/\(∀i x,Fs i x->∃d,cs[i]? =some d)/\(∀x,F x↔∃i,Fs i x)
theorem Kr:Kl w S row F↔oS w S row F:=by induction row generalizing F with|nil=>constructor;intro h;exact⟨λ_ _=>False,ak,λ_ _ _ h=>h.elim,λ_ _ h=>h.elim,λx=>⟨λb=>absurd b (h x),λ⟨_,h⟩=>h.elim⟩⟩;rintro⟨a,m,g,n,j⟩ x b;simp_all|cons d ds ih=>constructor;(. rintro⟨k,p,m,g,n,j⟩;obtain⟨a,f,g2,l,e⟩:=ih.1 g;refine⟨λi=>match i with|0=>k|i+1=>a i,?_,?_,?_,?_⟩;grind;(. intro i o x b q;cases i<;>cases o;all_goals grind);(intro i x b;cases i with|zero=>simp_all|succ i=>grind);intro x;rw[j x];constructor;rintro(h|h);exact⟨0,h⟩;obtain⟨i,hi⟩:=(e x).1 h;exact⟨i+1,hi⟩;rintro⟨i,hi⟩;cases i with|zero|succ i=>grind);rintro⟨a,f,g2,l,e⟩;refine⟨a 0,λx=>∃i,a (i+1) x,f 0 d rfl,ih.2 ⟨λi=>a (i+1),?_,?_,?_,λx=>ABb⟩,?_,?_⟩;simp_all;grind;grind;grind;intro x;rw[e x];constructor;(rintro⟨i,hi⟩;cases i with|zero=>grind|succ i=>grind);grind
theorem CY:Ok w S (.agg row) F↔Kl w S row F:=by rw[Kr];constructor;(intro h;cases h with|agg _ a _ c d e f=>exact⟨a,c,d,e,f⟩);rintro⟨a,c,d,e,f⟩;exact .agg row a F c d e f
theorem Bn:Ok w S (.Bo row) F↔Kl w S row F:=by rw[Kr];constructor;(intro h;cases h with|Bo _ a _ c d e f=>exact⟨a,c,d,e,f⟩);rintro⟨a,c,d,e,f⟩;exact .Bo row a F c d e f
def Kl.mono{a:jz}(h:Kl w S a F)(e:∀b,S b->w'.heap[b]? =w.heap[b]?)(d:∀b,F b->w'.heap[b]? =w.heap[b]?)(c:∀b,S b->S' b)(hn:∀x,F x->¬S' x):Kl w' S' a F:=CY.1 ((CY.2 h).mono e d c hn)
theorem St.uB(ds:jz):∀{δ:jv}{Fr:je}{F:jc}{l:jj}{τ:Sg},St G w S δ Fr->Kl w S ds F->(∀d∈ds,EC H d)->Hd H δ->(∀s x,Fr s x->¬F x)->Abs.uB G (ds.map DV.er) (λs=>(δ s).er)=some (l,τ)->∃m F' B Ff,St G w S m F'/\(λs=>(m s).er)=τ/\(∀s,(m s).BJ=(δ s).BJ)/\Kl w S B Ff/\B.map DV.er=l/\B.map DV.BJ=ds.map DV.BJ/\(∀s x,F' s x->¬Ff x)/\(∀x,BZ F' x\/Ff x->BZ Fr x\/F x)/\Hd H m/\(∀a∈l,Gz a):=by induction ds with|nil=>intro δ Fr F l τ h C8 T N I c;simp only[AAv,Abs.uB,AAI,AAZ]at c;grind|cons d ds ih=>intro δ Fr F l τ h C8 T N I c;obtain⟨Q,R,hd,LN,h12,i⟩:=C8;have L:=T d ak;have y:∀e∈ds,EC H e:=λe he=>T e (by simp[he]);simp only[AAd,Abs.uB]at c;cases T2:d.er with|al r p=>simp only[T2]at c;split at c;rename_i n τ1 ht1;split at c;(rename_i l' τ' E;simp only[AAI,AAZ]at c;obtain⟨rfl,rfl⟩:=c;obtain⟨δ1,F1',D,Ff,Cg,KY,Es,hD,G7,⟨v,bx,k,rows,rfl⟩,Cq,qK,K,hhd1,YK⟩:=h.gG ht1;have hH:Hd δ δ1:=by intro r' q v bx k rows hq;by_cases hr:r'=r;grind;rw[YK r' hr]at hq;exact⟨rows,(aK _ r r' q).1 hq⟩);(subst KY;have f:∀s x,F1' s x->¬R x:=(by intro s x b J;obtain⟨t,c⟩:=K x (.inl ⟨s,b⟩);exact I t x c ((i x).2 (.inr J)));obtain⟨o,F2',B,Fd,U,Z,W,fC,X,qQ,O3,z,g,P⟩:=ih Cg LN y (N.trans hH) f E;have hv:v=d.BJ:=by cases d with|lf a u=>(simp only[FG]at T2;subst T2;cases L with|lf _ _ hl=>obtain⟨oF,k',rows',hl⟩:=hl;obtain⟨O,hq⟩:=N r p v bx k rows Cq;simp_all)|own|agg=>simp at T2|Bo=>simp at T2);(have hFf:∀x,Ff x->¬R x:=(by intro x b J;obtain⟨t,c⟩:=K x (.inr b);exact I t x c ((i x).2 (.inr J)));have M:∀x,BZ F2' x\/Fd x->¬Ff x:=by(intro x b C;rcases z x b with⟨s,hs⟩|h2);grind;simp_all);refine⟨o,F2',.own v bx k rows::B,λx=>Ff x\/Fd x,U,Z,λs=>(W s).trans (Es s),⟨Ff,Fd,hD,fC,λx b V=>M x (.inr V) b,λx=>ABb⟩,?_,?_,?_,?_,g,?_⟩;simp only[AAd,G7,X];simp only[AAd,qQ,Mm,hv];grind;rintro x (b|b|b);(rcases z x (.inl b)with h1|h1);exact .inl (K x (.inl h1));exact .inr ((i x).2 (.inr h1));exact .inl (K x (.inr b));(rcases z x (.inr b)with h1|h1);exact .inl (K x (.inl h1));exact .inr ((i x).2 (.inr h1));(intro a j;simp only[AAg]at j;rcases j with rfl|j);rw[<- G7];simp[Gz];exact P a j;cases c;cases c|_=>simp only[T2]at c;split at c;rename_i hc;split at c;(rename_i l' τ' E;simp only[AAI,AAZ]at c;obtain⟨rfl,rfl⟩:=c;have f:∀s x,Fr s x->¬R x:=λs x b J=>I s x b ((i x).2 (.inr J));obtain⟨o,F2',B,Fd,U,Z,W,fC,X,qQ,O3,z,g,P⟩:=ih h LN y N f E;have M:∀x,BZ F2' x\/Fd x->¬Q x:=by(intro x b C;rcases z x b with⟨s,hs⟩|h2);exact I s x hs ((i x).2 (.inl C));exact h12 x C h2);refine⟨o,F2',d::B,λx=>Q x\/Fd x,U,Z,W,⟨Q,Fd,hd,fC,λx b V=>M x (.inr V) b,λx=>ABb⟩,?_,?_,?_,?_,g,?_⟩;simp only[AAd,T2,X];simp only[AAd,qQ];rintro s x b (C|C);exact M x (.inl ⟨s,b⟩) C;exact O3 s x b C;rintro x (b|b|b);(rcases z x (.inl b)with h1|h1);exact .inl h1;exact .inr ((i x).2 (.inr h1));exact .inr ((i x).2 (.inl b));(rcases z x (.inr b)with h1|h1);exact .inl h1;exact .inr ((i x).2 (.inr h1));(intro a j;simp only[AAg]at j;rcases j with rfl|j);exact hc;exact P a j;cases c;cases c
end
variable{d:EH}
section
variable{w w':jm}{S S':jc}{G:Gi}{δ:jv}{Fr:je}
mutual
def JP:AV->ABi DV|.sc v=>if HI v=true then some (.lf (.sc v) v)else none|.own false k []=>some (.own (.slice none 0 0) false k [])|.sl x k []=>some (.lf (.sl x k []) (.slice none 0 0))|.agg cs=>(match Zq cs with|some ds=>some (.agg ds)|none=>none)|_=>none
def Zq:List AV->ABi (List DV)|[]=>some []|a::r=>match JP a with|some d=>(match Zq r with|some ds=>some (d::ds)|none=>none)|none=>none
end
theorem Jk(a:AV):∀D,JP a=some D->D.er=a/\Ok w S D (λ_=>False)/\EC δ D/\(∀L,Gl L a):=by
 refine AV.rec (motive_1:=λa=>∀D,JP a=some D->D.er=a/\Ok w S D (λ_=>False)/\EC δ D/\(∀L,Gl L a=true)) (motive_2:=λ_=>True)
  (motive_3:=λl=>∀ds,Zq l=some ds->ds.map DV.er=l/\Kl w S ds (λ_=>False)/\(∀d∈ds,EC δ d)/\(∀L,Rn L l=true)) ?_ ?_ ?_ ?_ ?_ ?_ ?_ ?_ ?_ ?_ ?_ ?_ ?_ ?_ ?_ ?_ ?_ ?_ a
 intro v D h;simp only[JP]at h;split at h;rename_i B;obtain rfl:=Option.some.inj h;exact⟨ak,.lf _ _ _ ⟨rfl,B⟩ (λ_ h=>h),.lf _ _ trivial,ak⟩;cases h;(intro x k rows _ D h;cases rows with|nil=>simp only[JP]at h;obtain rfl:=Option.some.inj h;exact⟨ak,.lf _ _ _ (Fz.nil x k none 0 (λ_=>rfl)) (λ_ h=>h),.lf _ _ trivial,ak⟩|cons r rs=>simp[JP]at h);(intro b k rows _ D h;cases b with|true=>simp[JP]at h|false=>cases rows with|nil=>simp only[JP]at h;obtain rfl:=Option.some.inj h;exact⟨ak,.nil k _ (λ_ h=>h),.own _ _ _ _,ak⟩|cons r rs=>simp[JP]at h);intro n C D h;simp only[JP]at h;split at h;rename_i ds c;obtain rfl:=Option.some.inj h;obtain⟨q,e,t,g⟩:=C ds c;refine⟨by simp[q],CY.2 e,.agg _ λi d hd=>t d (List.mem_of_getElem? hd),λL=>by simp only[Gl];exact g L⟩;cases h;intro n _ D h;simp[JP]at h;intro r p D h;simp[JP]at h;intro r p i j k D h;simp[JP]at h;intro n _ D h;simp[JP]at h;intro D h;simp[JP]at h;intro D h;simp[JP]at h;intro f rs D h;simp[JP]at h;intro s o I D h;simp[JP]at h;intro f E _ D h;simp[JP]at h;intro f vs b H D h;simp[JP]at h;trivial;simp_all;intro ds h;simp only[Zq,Option.some.injEq]at h;subst h;exact⟨rfl,λ_ h=>h,ak,λL=>by simp[Rn]⟩;intro a l u m ds h;simp only[Zq]at h;split at h;rename_i d hd;split at h;rename_i y c;obtain rfl:=Option.some.inj h;obtain⟨q,e,t,g⟩:=u d hd;obtain⟨F,g2,G,z⟩:=m y c;refine⟨aA,⟨_,_,e,g2,λ_ h=>h.elim,λx=>ak⟩,?_,λL=>by simp[Rn,g L,z L]⟩;simp_all;cases h;cases h
def ZI:Ar->Prop|.t _=>True|.c a=>∃D,JP a=some D
def Dd(δ:jv):Ar->Value|.t s=>(δ s).BJ|.c a=>match JP a with|some D=>D.BJ|none=>undef
theorem Th{ds:jz}(c:∀a∈ds.map DV.er,Gz a):∀d∈ds,EC δ d:=by intro d hd;have b:=c d.er (List.mem_map_of_mem hd);cases d with|lf a v=>refine .lf a v ?_;simp only[FG]at b;cases a<;>simp_all [Gz,OQ]|own=>exact .own _ _ _ _|agg cs|Bo cs=>simp[Gz]at b
structure Fly (G:Gi) (w:World) (S:Nat->Prop) (δ:Nat->DV) (Fr:Nat->Nat->Prop) (δ':Nat->DV) (F':Nat->Nat->Prop) (D:DV) (Ff:Nat->Prop):Prop where
 st:St G w S δ' F'
 BJ:∀s,(δ' s).BJ=(δ s).BJ
 ok:Ok w S D Ff
 al:EC δ' D
 Na:∀s x,F' s x->¬Ff x
 own:∀x,BZ F' x\/Ff x->BZ Fr x
theorem St.tk(h:St G w S δ Fr){x:Ar}{a:AV}(g:ZI x)(m:Abs.tk G x (λs=>(δ s).er)=some (a,τ)):∃z F' D Ff,Fly G w S δ Fr z F' D Ff/\(λs=>(z s).er)=τ/\D.er=a/\D.BJ=Dd δ x:=by
 cases x with
 |c c=>obtain⟨D,M⟩:=g;simp only[Abs.tk,Option.some.injEq,Prod.mk.injEq]at m;obtain⟨rfl,rfl⟩:=m;obtain⟨U,V,h3,_⟩:=Jk (w:=w) (S:=S) (δ:=δ) c D M;exact⟨δ,Fr,D,_,⟨h,λ_=>rfl,V,h3,λ_ _ _ h=>h,λx g=>g.elim id False.elim⟩,rfl,U,by simp[Dd,M]⟩
 |t s=>
  simp only[Abs.tk]at m;have qP:∀b,(δ s).er=b->EK b->∃v,δ s=.lf b v:=by intro b L y;have:=(h.ok s).Lq;cases hd:δ s with|lf c v=>simp_all|own|agg=>rw[hd]at L;simp at L;subst L;simp[EK]at y|Bo=>simp_all
  have n:∀b,(δ s).er=b->EK b->∃z F' D Ff,Fly G w S δ Fr z F' D Ff/\(λs=>(z s).er)=(λs=>(δ s).er)/\D.er=b/\D.BJ=Dd δ (.t s):=by intro b L y;obtain⟨v,X⟩:=qP b L y;have B:=h.ok s;rw[X]at B;cases B with|lf _ _ _ ha hF=>exact⟨δ,Fr,.lf b v,λ_=>False,⟨h,λ_=>rfl,.lf _ _ _ ha (λ_ h=>h),X▸h.al s,λ_ _ _ h=>h,λx g=>g.elim id False.elim⟩,rfl,ak,by simp[Dd,X]⟩
  cases hs:(δ s).er with|al r p=>(simp only[hs]at m;obtain⟨δ1,F1,D,Ff,I,KY,Es,M,G7,⟨v,bx,k,rows,rfl⟩,O,P,FA,dW,YK⟩:=h.gG m;refine⟨δ1,F1,_,Ff,⟨I,Es,M,.own _ _ _ _,P,FA⟩,KY,G7,?_⟩;obtain⟨u,hu⟩:=qP _ hs rfl;have HX:=h.al s;rw[hu]at HX;cases HX with|lf _ _ y=>obtain⟨oF,k',Z,y⟩:=y;rw[y]at O;simp only[Option.some.injEq,DV.own.injEq]at O;simp[Dd,hu,O.1])|own b k rows=>simp only[hs,Option.some.injEq,Prod.mk.injEq]at m;obtain⟨rfl,rfl⟩:=m;have I:=h.empty s;refine⟨_,_,δ s,Fr s,⟨I,?_,h.ok s,?_,?_,?_⟩,by rw[JW h];simp,hs,rfl⟩;intro t;rw[I3 h];simp_all;(have:=(h.ok s).Lq;cases hd:δ s with|own=>exact .own _ _ _ _|lf c v=>(rw[hd]at hs this;cases this with|lf _ _ y=>simp at hs;subst hs;simp[EK]at y)|agg|Bo=>simp_all);intro t x g W;by_cases e:t=s;subst e;rw[Bh]at g;exact g;rw[B5 _ _ e]at g;exact e (h.Na t s x g W);rintro x (⟨t,g⟩|g);by_cases e:t=s;subst e;rw[Bh]at g;grind;rw[B5 _ _ e]at g;grind;grind|agg cs=>(simp only[hs]at m;obtain⟨ds,H,T⟩:∃ds,δ s=.agg ds/\ds.map DV.er=cs:=by have:=(h.ok s).Lq;cases hd:δ s with|agg ds=>simp_all|lf c v=>(rw[hd]at hs this;cases this with|lf _ _ y=>simp at hs;subst hs;simp[EK]at y)|own|Bo=>simp_all);split at m;rename_i J;simp only[Option.some.injEq,Prod.mk.injEq]at m;obtain⟨rfl,rfl⟩:=m;have B:=h.ok s;rw[H]at B;(have C:Kl w S ds (λ_=>False):=by have E:=CY.1 B;clear B H;rw[<- T]at J;clear T hs;generalize Fr s=F at E;induction ds generalizing F with|nil=>exactλ_ h=>h|cons d ds ih=>obtain⟨F1,Q,U,V,_,_⟩:=E;simp only[List.map_cons,List.all_cons,Bool.and_eq_true]at J;refine⟨λ_=>False,λ_=>False,?_,ih J.2 Q V,λ_ h=>h.elim,λx=>ak⟩;cases U with|lf a v _ ha hF=>exact .lf a v _ ha (λ_ h=>h)|nil|own=>simp[JK]at J|agg|Bo=>simp[JK]at J);exact⟨δ,Fr,.agg ds,λ_=>False,⟨h,λ_=>rfl,CY.2 C,H▸h.al s,λ_ _ _ h=>h,λx g=>g.elim id False.elim⟩,rfl,by simp[T],by simp[Dd,H]⟩;split at m;(rename_i l τ' htl;simp only[Option.some.injEq,Prod.mk.injEq]at m;obtain⟨rfl,rfl⟩:=m;have I:=h.empty s;have B:=h.ok s;rw[H]at B;have K:∀d∈ds,EC δ d:=by have:=h.al s;rw[H]at this;cases this with|agg _ hr=>intro d hd;obtain⟨i,hi⟩:=List.getElem?_of_mem hd;grind);(have hH:Hd δ (Dt (Ie G s δ) s (.lf .dead (δ s).BJ)):=by intro r q v bx k rows N;by_cases e:r=s;subst e;rw[Bh]at N;cases q<;>simp[BO]at N;rw[B5 _ _ e]at N;exact⟨rows,Vh s r q N⟩);(have P:∀t x,(Dt Fr s λ_=>False) t x->¬Fr s x:=by intro t x g W;by_cases e:t=s;subst e;rw[Bh]at g;exact g;rw[B5 _ _ e]at g;exact e (h.Na t s x g W));have herr:(λt=>(Dt (Ie G s δ) s (.lf .dead (δ s).BJ) t).er)=Dt (Ki G s λs=>(δ s).er) s .dead:=(by rw[JW h];simp);obtain⟨δ2,Q,TO,Ff,LP,T3,N5,fC,Sr,qQ,O3,LS,_,CF⟩:=I.uB ds (CY.1 B) K hH P (l:=l) (τ:=τ') am;refine⟨δ2,Q,.agg TO,Ff,⟨LP,?_,CY.2 fC,.agg _ λi d hd=>?_,O3,?_⟩,T3,by simp[Sr],by simp[Dd,H,qQ]⟩;intro t;rw[N5,I3 h];simp_all;exact Th am d (List.mem_of_getElem? hd);(intro x g;rcases LS x g with⟨t,R⟩|R);by_cases e:t=s;subst e;rw[Bh]at R;simp_all;rw[B5 _ _ e]at R;grind;grind;cases m|sc v|sl e k rows=>simp only[hs,Option.some.injEq,Prod.mk.injEq]at m;obtain⟨rfl,rfl⟩:=m;exact n _ hs rfl|Lu r p i j k|fp cs=>simp only[hs,Option.some.injEq,Prod.mk.injEq]at m;obtain⟨rfl,rfl⟩:=m;exact n _ hs rfl|Bo cs|dead=>simp_all|un|cl f rs=>simp_all|vb s o us|Y7 f Mz=>simp_all|cb=>simp_all
theorem St.Sm(h:St G w S δ Fr){a:AV}(g:Abs.Sm G k p (λs=>(δ s).er)=some (a,τ)):∃(f:jv)(F':je)(c:jc)(v:jA)(bx:Bool)(r:Nat)(rows:jp),St G w (λx=>S x\/c x) f F'/\(λs=>(f s).er)=τ/\(∀s,(f s).BJ=(δ s).BJ)/\BO (δ k) p=some (.own v bx r rows)/\Fz w (λx=>S x\/c x) a v/\a=KX (DV.own v bx r rows).er/\(∀s x,F' s x->¬c x)/\(∀x,BZ F' x\/c x->BZ Fr x)/\Hd δ f:=by
 unfold Abs.Sm at g;split at g
 . rename_i b r rows U;split at g
   . (rename_i t hp;simp only[Option.some.injEq,Prod.mk.injEq]at g;obtain⟨rfl,rfl⟩:=g;obtain⟨D,C,m⟩:=EY (h.ok k).Lq U;obtain⟨c,E,I,N⟩:=h.replace k p C;have J:∃v bx r rows,D=.own v bx r rows:=by have:=E.Lq;cases D with|own v bx r rows=>simp_all|lf a v=>(cases this with|lf _ _ hl=>simp at m;subst m;simp[EK]at hl)|agg cs|Bo cs=>simp at m);(obtain⟨v,bx,V,M,rfl⟩:=J;have y:Fz w (λx=>S x\/c x) (KX (.own b r rows)) v:=(by have:=E.freeze;rw[m]at this;simpa using this);have n:Ok w (λx=>S x\/c x) (.lf (KX (.own b r rows)) v) (λ_=>False):=by refine .lf _ _ _ ?_ (λ_ h=>h);cases b with|true=>simp only[AAB];trivial|false=>simp only[Pk]at y |-;exact y);obtain⟨W,F',o,H,Z,X⟩:=N (λx=>S x\/c x) (.lf (KX (.own b r rows)) v) ak n (λ_ h=>.inl h)
      (λt O T K R=>R.elim ((h.ok t).GF O T) K) (by intro L;cases b<;>simp) (.lf _ _ (by cases b<;>simp[OQ]))
     have z:W.er=t:=(by obtain⟨t',B,P⟩:=IQ (d:=δ k) (p:=p) (a:=t) (.lf (KX (.own b r rows)) v) (h.ok k).Lq am;rw[o]at B;obtain rfl:=Option.some.inj B;exact P);refine⟨_,_,c,v,bx,V,M,H,by rw[JW h,z],?_,C,y,by rw[m],?_,?_,?_⟩;intro s;rw[I3 h];simp_all;intro s x i Q;by_cases l:s=k;subst l;rw[Bh]at i;simp_all;rw[B5 _ _ l]at i;exact l (h.Na s k x i (I x Q));rintro x (⟨s,i⟩|i);by_cases l:s=k;subst l;rw[Bh]at i;grind;rw[B5 _ _ l]at i;grind;grind;intro F q v' oF k' j u;by_cases e:F=k;subst e;rw[Bh]at u;exact Xp p o q u;rw[B5 _ _ e]at u;exact⟨j,Vh k F q u⟩
   . cases g
 . cases g
theorem St.wr(h:St G w S δ Fr)(g:d.kl=G.QH d.d)(i:d.rs=G.HR d.d)(r:∀b,S b->w'.heap[b]? =w.heap[b]?)(p:∀s x,Fr s x->w'.heap[x]? =w.heap[x]?)(m:∀b,S b->S' b)(n:∀s x,Fr s x->¬S' x)(o:Ok w' S' D Ff)(j:∀s x,Fr s x->¬Ff x)(k:EC δ D)(c:Abs.wr d D.er (λs=>(δ s).er)=some σ'):∃a F',St G w' S' a F'/\(λs=>(a s).er)=σ'/\(∀s,(a s).BJ=if s=d.d then D.BJ else(δ s).BJ)/\(∀x,BZ F' x->BZ Fr x\/Ff x):=by unfold Abs.wr at c;split at c;rename_i q;simp only[Option.some.injEq]at c;subst c;refine⟨_,_,h.set d.d D Ff r (λs _=>p s) m (λs _=>n s) o (λs _ x f l=>j s x l f) (i▸q) k,?_,λs=>I3 h d.d D s,?_⟩;rw[JW h,g,kills_eq];rintro x ⟨s,f⟩;by_cases e:s=d.d;subst e;rw[Bh]at f;grind;rw[B5 _ _ e]at f;grind;grind
end
variable{zv:jA}{x:lg}{a:Act}{t:j7}{B:Type}
section
variable{w w':jm}{S S':jc}{G:Gi}{δ:jv}{Fr:je}{P:jh}
def sameS:Value->Value->Bool|.bool a,.bool b=>a==b|.int k a,.int k' b=>decide (k=k')&&decide (a=b)|.string a,.string b=>decide (a.data=b.data)|.pointer none,.pointer none=>true|.slice none 0 0,.slice none 0 0=>true|.nilFunc,.nilFunc=>true|.nilIface,.nilIface=>true|_,_=>false
def WB:List Value->List Value->Bool|[],[]=>true|a::l,b::r=>sameS a b&&WB l r|_,_=>false
def sameV:Value->Value->Bool|.agg a,.agg b=>WB a.toList b.toList|a,b=>sameS a b
theorem sG(h:sameS v zv):v=zv:=by unfold sameS at h;split at h<;>simp_all;rename_i x y;cases x;simp_all
theorem Rq:∀{a b:jw},WB a b->a=b|[],[],_=>rfl|[],_::_,h=>by simp[WB]at h|_::_,[],h=>by simp[WB]at h|a::l,b::r,h=>by simp only[WB,AAH]at h;rw[sG h.1,Rq h.2]
theorem sH(h:sameV v zv):v=zv:=by unfold sameV at h;split at h;rename_i x y;have:=Rq h;simp_all;exact sG h
def Cp(x:lg)(y:Ar):Bool:=match x,y with|.tmp s,.t s'=>s==s'|.const v,.c a=>(match JP a with|some D=>sameV v D.BJ|none=>false)|.func f,.c a=>(match a with|.sc (.func (.func g) vs us)=>f==g&&vs.isEmpty&&us.isEmpty|_=>false)|_,_=>false
def Rd(δ:jv)(a:Act):Prop:=∀s,a.tmps.getD s undef=(δ s).BJ
theorem A3(h:Cp x y)(d:Rd δ a):ZI y/\a.eval x=Dd δ y:=by unfold Cp at h;split at h;simp only[AAT]at h;subst h;exact⟨trivial,d _⟩;rename_i v c;split at h;rename_i D b;exact⟨⟨D,b⟩,by simp[Act.eval,Dd,b,sH h]⟩;cases h;rename_i f c;split at h;rename_i g vs e;simp only[AAH,AAT,Array.isEmpty_iff]at h;obtain⟨⟨rfl,rfl⟩,rfl⟩:=h;exact⟨⟨_,rfl⟩,rfl⟩;cases h;cases h
def G0:List Operand->List Ar->Bool|[],[]=>true|x::l,y::r=>Cp x y&&G0 l r|_,_=>false
def Up:ABi Operand->ABi Ar->Bool|none,none=>true|some x,some y=>Cp x y|_,_=>false
def Hc(P:jh)(t:j7):ABi Nat:=(P.info? t).map (·.size)
def KZ(P:jh)(t:j7):ABi Bool:=(P.underlying t).map λ|.struct _=>true|.array _ _=>true|_=>false
theorem run_sizeOf(h:Hc P t=some n)(w:jm):(sizeOf t).run P w=.ok n w:=by unfold Hc at h;cases hi:P.info? t with|none=>simp_all|some i=>simp only[hi,AAr,AAI]at h;simp[sizeOf,typeInfo,hi,h]
theorem Sf(h:KZ P t=some bx)(w:jm):(isAgg t).run P w=.ok bx w:=by unfold KZ at h;cases hi:P.underlying t with|none=>simp_all|some d=>simp only[hi,AAr,AAI]at h;cases d<;>simp_all [isAgg,underlying]
theorem Jh(t:DV)(p q:ji):BO t (p++q)=(BO t p).bind (BO · q):=by induction p generalizing t with|nil=>simp[BO]|cons s p ih=>obtain⟨i,j,k⟩:=s;cases t with|lf a v=>simp[BO]|own h b k1 rows=>(simp only[AA3,BO];cases rows[i]? with|none=>rfl|some row=>simp only[];cases row[j]? with|none=>rfl|some c=>exact ih c)|agg cs|Bo cs=>simp only[AA3,BO];cases cs[j]? with|none=>rfl|some c=>exact ih c
theorem kY(r:Nat)(p:ji)(l:jj)(i n:Nat):(Rx r p i l)[n]? =(l[n]?).map (view r (p++[(0,i+n,0)])):=by induction l generalizing i n with|nil=>simp[Rx]|cons c cs ih=>cases n with|zero=>simp[Rx]|succ n=>simp only[Rx,ABG,ih,Nat.add_assoc,Nat.add_comm 1 n]
theorem C5(h:∀d∈row,Ok w S d (λ_=>False)):Kl w S row (λ_=>False):=by induction row with|nil=>exactλ_ h=>h|cons d row ih=>exact⟨_,_,h d ak,ih (λe a=>h e (by simp[a])),λ_ h=>h.elim,λx=>ak⟩
theorem Md(a:List α)(d:Nat->α->f->Prop)(h:∀i c,a[i]? =some c->∃D,d i c D):∃b:List f,b.length=a.length/\∀i c,a[i]? =some c->∃D,b[i]? =some D/\d i c D:=by induction a generalizing d with|nil=>simp_all|cons c a ih=>obtain⟨D,k⟩:=h 0 c rfl;obtain⟨b,g,j⟩:=ih (λi=>d (i+1)) (λi c' l=>h (i+1) c' am);refine⟨D::b,by simp[g],?_⟩;grind
theorem mem_mk{a:List f}{b:List α}{e:Nat->f->α->Prop}(j:b.length=a.length)(h:∀i c,a[i]? =some c->∃D,b[i]? =some D/\e i c D)(i:Nat)(D:α)(g:b[i]? =some D):∃c,a[i]? =some c/\e i c D:=by
 have hi:i<a.length:=by rw[<- j];exact(AAJ.1 g).1
 obtain⟨k,l,m⟩:=h i a[i] (AAO hi);simp_all
theorem map_mk{a:List f}{b:List α}{e:Nat->f->α->Prop}(p:b.length=a.length)(h:∀i c,a[i]? =some c->∃D,b[i]? =some D/\e i c D)(g:α->B)(l:List B)(k:l.length=a.length)(o:∀i c D,e i c D->a[i]? =some c->l[i]? =some (g D)):b.map g=l:=by apply List.ext_getElem?;intro i;by_cases hi:i<a.length;obtain⟨D,m,n⟩:=h i a[i] (AAO hi);grind;simp_all
theorem WX(r:Nat)(p:ji)(l:jj)(i:Nat):(Rx r p i l).length=l.length:=by induction l generalizing i with|nil=>simp[Rx]|cons c cs ih=>simp[Rx,ih]
theorem viewD(r:Nat)(h:Ok w S new F):∀(p:ji),BO (δ r) p=some new->EC δ new->∃D,D.er=view r p new.er/\D.BJ=new.BJ/\Ok w S D (λ_=>False)/\EC δ D:=by
 induction h with
 |lf a v F ha hF=>intro p l f;have g:=ha.EK;refine⟨.lf a v,?_,rfl,.lf a v _ ha (λ_ h=>h),f⟩;cases a<;>simp_all [view,EK]
 |nil k F hF=>intro p l f;exact⟨.lf (.al r p) (.slice none 0 0),by simp[view],ak,.lf _ _ _ trivial (λ_ h=>h),.lf _ _ ⟨_,_,_,l⟩⟩
 |own bx k rows b c arr E Fs F hb hk Ex Mp hv hr hd CG Lb hF ih=>intro p l f;exact⟨.lf (.al r p) (Kh bx b rows.length c),by simp[view],ak,.lf _ _ _ trivial (λ_ h=>h),.lf _ _ ⟨_,_,_,l⟩⟩
 |agg cs Fs F hr hd CG hF ih=>
  intro p l f;cases f with
  |agg _ f=>
   obtain⟨o,g,j⟩:=Md cs (λi d D=>D.er=view r (p++[(0,i,0)]) d.er/\D.BJ=d.BJ/\Ok w S D (λ_=>False)/\EC δ D)
    (λi d hd=>ih i d hd _ (by rw[Jh,l];simp[BO,hd]) (f i d hd))
   refine⟨.agg o,?_,?_,CY.2 (C5 λD m=>?_),.agg _ λi D m=>?_⟩;simp only[JI,view,AV.agg.injEq];refine map_mk g j _ _ (by simp[WX]) λi c D e n=>?_;rw[kY,AAU,n];grind;simp only[Ml];congr 2;exact map_mk g j _ _ ak λi c D e n=>am;obtain⟨i,hi⟩:=AAk m;obtain⟨c,_,e⟩:=mem_mk g j i D hi;simp_all;obtain⟨c,_,e⟩:=mem_mk g j i D m;simp_all
 |Bo cs Fs F hr hd CG hF ih=>
  intro p l f;cases f with
  |Bo _ f=>
   obtain⟨o,g,j⟩:=Md cs (λi d D=>D.er=view r (p++[(0,i,0)]) d.er/\D.BJ=d.BJ/\Ok w S D (λ_=>False)/\EC δ D)
    (λi d hd=>ih i d hd _ (by rw[Jh,l];simp[BO,hd]) (f i d hd))
   refine⟨.Bo o,?_,?_,Bn.2 (C5 λD m=>?_),.Bo _ λi D m=>?_⟩;simp only[LZ,view,AV.Bo.injEq];refine map_mk g j _ _ (by simp[WX]) λi c D e n=>?_;rw[kY,AAU,n];grind;simp only[PZ];congr 2;exact map_mk g j _ _ ak λi c D e n=>am;obtain⟨i,hi⟩:=AAk m;obtain⟨c,_,e⟩:=mem_mk g j i D hi;simp_all;obtain⟨c,_,e⟩:=mem_mk g j i D m;simp_all
theorem nX(r:Nat)(p:ji)(i k j:Nat)(l:jj):(Rw r p i k j l).length=l.length:=by induction l generalizing j with|nil=>simp[Rw]|cons c cs ih=>simp[Rw,ih]
theorem viewC_get(r:Nat)(p:ji)(i k j n:Nat)(l:jj):(Rw r p i k j l)[n]? =(l[n]?).map (vC r p i (j+n) k):=by induction l generalizing j n with|nil=>simp[Rw]|cons c cs ih=>cases n with|zero=>simp[Rw]|succ n=>simp only[Rw,ABG,ih,Nat.add_assoc,Nat.add_comm 1 n]
theorem nY(s j:Nat)(l:jj):(OO s j l).length=l.length:=by induction l generalizing j with|nil=>simp[OO]|cons c cs ih=>simp[OO,ih]
theorem viewF_get(s j n:Nat)(l:jj):(OO s j l)[n]? =(l[n]?).map (vF s (j+n)):=by induction l generalizing j n with|nil=>simp[OO]|cons c cs ih=>cases n with|zero=>simp[OO]|succ n=>simp only[OO,ABG,ih,Nat.add_assoc,Nat.add_comm 1 n]
end
variable{vs:jw}
section
variable{w w':jm}{S S':jc}{G:Gi}{δ:jv}{Fr:je}{P:jh}
def Lf(w:jm)(S:jc)(δ:jv)(a:AV)(v:jA):Prop:=∃D:DV,D.er=a/\D.BJ=v/\Ok w S D (λ_=>False)/\EC δ D
theorem Lf.sc(v:jA)(h:HI v):Lf w S δ (.sc v) v:=⟨.lf (.sc v) v,ak,ak,.lf _ _ _ ⟨rfl,h⟩ (λ_ h=>h),.lf _ _ trivial⟩
theorem Lf.al{r:Nat}(h:BO (δ r) p=some (.own v bx k rows)):Lf w S δ (.al r p) v:=⟨.lf (.al r p) v,ak,ak,.lf _ _ _ trivial (λ_ h=>h),.lf _ _ ⟨_,_,_,h⟩⟩
theorem Lf.Lu(h:BO (δ n) p=some (.own v bx k rows))(a:U7 v=some b):Lf w S δ (.Lu n p i off k) (.pointer (some ⟨b,i*k+off,none⟩)):=⟨.lf (.Lu n p i off k) _,ak,ak,.lf _ _ _ trivial (λ_ h=>h),.lf _ _ ⟨_,_,_,_,h,a,rfl⟩⟩
theorem Lf.fp(d:S b)(h:∀(j:Nat) a,z[j]? =some a->∃u,w.cell? ⟨b,off+j,none⟩=some u/\Fz w S a u):Lf w S δ (.fp z) (.pointer (some ⟨b,off,none⟩)):=⟨.lf (.fp z) _,ak,ak,.lf _ _ _ ⟨b,off,rfl,d,h⟩ (λ_ h=>h),.lf _ _ trivial⟩
theorem St.leaf(h:St G w S δ Fr){s:Nat}{a:AV}(c:(δ s).er=a)(d:EK a):δ s=.lf a (δ s).BJ/\IF w S a (δ s).BJ/\OQ δ a (δ s).BJ:=by have e:=h.ok s;have f:=h.al s;cases hd:δ s with|lf b v=>(rw[hd]at c e f;simp only[FG]at c;subst c;cases e with|lf _ _ _ ha _=>cases f with|lf _ _ d=>simp_all)|own|agg=>rw[hd]at c;simp at c;subst c;simp[EK]at d|Bo=>rw[hd]at c;simp at c;subst c;simp[EK]at d
theorem St.Fv(h:St G w S δ Fr)(g:ZI y)(d:ar (λs=>(δ s).er) y=.sc v):Dd δ y=v/\HI v:=by cases y with|t s=>obtain⟨_,e,_⟩:=h.leaf (s:=s) d rfl;exact⟨e.1,e.2⟩|c a=>obtain⟨D,b⟩:=g;simp only[ar]at d;subst d;simp only[JP]at b;split at b;rename_i f;obtain rfl:=AAK b;exact⟨by simp[Dd,JP,f],f⟩;cases b
theorem Pb{a:AV}{n:Int}(h:vB a=some n):∃k,a=.sc (.int k n):=by unfold vB at h;grind
theorem St.node(h:St G w S δ Fr)(g:(δ n).er=.al i p){rows:jk}(hn:sub (δ i).er p=some (.own bx k rows)):∃a F,BO (δ i) p=some (.own (δ n).BJ bx k a)/\a.map (·.map DV.er)=rows/\Ok w S (.own (δ n).BJ bx k a) F:=by obtain⟨_,_,f⟩:=h.leaf g rfl;obtain⟨m,l,b,e⟩:=f;obtain⟨D,d,c⟩:=EY (h.ok i).Lq hn;rw[e]at d;obtain rfl:=AAK d;simp only[Ft,AV.own.injEq]at c;obtain⟨rfl,rfl,r⟩:=c;obtain⟨F,j,_⟩:=(h.ok i).BO e;grind
theorem St.aW(h:St G w S δ Fr){rows:jk}(a:(δ n).er=.own bx k rows):∃c,δ n=.own (δ n).BJ bx k c/\c.map (·.map DV.er)=rows:=by have:=(h.ok n).Lq;cases hd:δ n with|own v b k' rows'=>simp_all|lf b v=>(rw[hd]at a this;cases this with|lf _ _ hl=>simp at a;subst a;simp[EK]at hl)|agg|Bo=>simp_all
theorem St.Eh(h:St G w S δ Fr)(a:Abs.Eh (λn=>(δ n).er) (.t n)=some (b,p,i,off,k)):∃v bx d r F,BO (δ b) p=some (.own v bx k d)/\U7 v=some r/\(δ n).BJ=.pointer (some ⟨r,i*k+off,none⟩)/\Ok w S (.own v bx k d) F/\(∀x,F x->Fr b x):=by simp only[Abs.Eh]at a;cases hs:(δ n).er with|Lu r' p' i' j' o=>simp only[hs,AAI,AAZ]at a;obtain⟨rfl,rfl,rfl,rfl,rfl⟩:=a;obtain⟨_,_,u⟩:=h.leaf hs rfl;obtain⟨v,bx,rows,r,e,f,C⟩:=u;obtain⟨F,s,m⟩:=(h.ok _).BO e;grind|own bx o rows=>(cases bx with|false=>simp_all|true=>simp only[hs,AAI,AAZ]at a;obtain⟨rfl,rfl,rfl,rfl,rfl⟩:=a;obtain⟨d,hd,_⟩:=h.aW hs;have l:=h.ok n;rw[hd]at l;generalize z:(δ n).BJ=v at*;cases l with|own _ _ _ r c arr E Fs _ f hk Ex Mp xK hr Oq CG Lb s=>exact⟨Kh true r d.length c,true,d,r,Fr n,by simp[BO,hd],ak,by simp[Kh],by rw[<- hd];exact h.ok n,λx B=>B⟩)|al r' p'=>simp only[hs]at a;split at a;(rename_i o g hn;simp only[AAI,AAZ]at a;obtain⟨rfl,rfl,rfl,rfl,rfl⟩:=a;obtain⟨d,F,e,_,s⟩:=h.node hs hn;obtain⟨q,y,m⟩:=(h.ok _).BO e;generalize z:(δ n).BJ=v at*;cases y with|own _ _ _ r c arr E Fs _ f hk Ex Mp xK hr Oq CG Lb Zz=>exact⟨Kh true r d.length c,true,d,r,q,e,ak,by simp[Kh],.own true _ _ r c arr E Fs _ f hk Ex Mp xK hr Oq CG Lb Zz,m⟩);cases a|_=>simp_all
theorem MS(hn:Hc P t=some n)(c:KZ P t=some bx)(e:bx=true\/n=1)(d:vs.length=n)(f:∀(j:Nat) v,vs[j]? =some v->w.cell? ⟨b,off+j,none⟩=some v):(loadVar t ⟨b,off,none⟩).run P w=.ok (if bx=true then .agg vs.toArray else vs.headD undef) w:=by cases bx with|true=>have:=run_loadCells_list (P:=P) w ⟨b,off,none⟩ vs (λj v h=>by rw[Addr.add_lit];simp_all);rw[d]at this;simp[loadVar,Sf c,run_sizeOf hn,this]|false=>obtain rfl:=e.resolve_left ak;match vs,d with|[v],_=>have a:=f 0 v rfl;simp only[Nat.add_zero]at a;simp[loadVar,Sf c,a]
theorem gather{v:AV}(a:JM bx n z=some v)(b:jz)(e:b.map DV.er=z)(g:∀D∈b,Ok w S D (λ_=>False))(h:∀D∈b,EC δ D):z.length=n/\Lf w S δ v (if bx=true then .agg (b.map DV.BJ).toArray else(b.map DV.BJ).headD undef):=by unfold JM at a;split at a;(rename_i hn;refine⟨hn,?_⟩;cases bx with|true=>simp only[AAl,AAI]at a;subst a;exact⟨.agg b,by simp[e],ak,CY.2 (C5 g),.agg _ λi d hd=>h d (AAW hd)⟩|false=>simp only[AAR,AAY]at a;split at a;(rename_i c;simp only[AAI]at a;subst a;match b,e with|[D],e=>simp only[AAd,AAv,List.cons.injEq,and_true]at e;exact⟨D,e,ak,g D ak,h D ak⟩);cases a);cases a
theorem Zu{a:AV}(h:Fz w S a v):∃D:DV,D.er=K8 a/\D.BJ=v/\Ok w S D (λ_=>False)/\EC δ D:=by cases h with|sc v hp=>exact⟨.lf (.sc v) v,by simp[K8],ak,.lf _ _ _ ⟨rfl,hp⟩ (λ_ h=>h),.lf _ _ trivial⟩|nil x k a c hx=>exact⟨.lf (.sl x k []) _,by simp[K8],ak,.lf _ _ _ (Fz.nil x k a c hx) (λ_ h=>h),.lf _ _ trivial⟩|sl x k rows b off c vs hx TQ hS hk hc hr=>exact⟨.lf (.sl x k rows) _,by simp[K8],ak,.lf _ _ _ (Fz.sl x k rows b off c vs hx TQ hS hk hc hr) (λ_ h=>h),.lf _ _ trivial⟩|dead=>exact⟨.lf .dead v,by simp[K8],ak,.lf _ _ _ trivial (λ_ h=>h),.lf _ _ trivial⟩|agg cs vs|Bo cs vs=>exact⟨.lf .dead _,by simp[K8],rfl,.lf _ _ _ trivial (λ_ h=>h),.lf _ _ trivial⟩
end
variable{o:Oper}{s u:lg}{j r:Ar}
section
variable{w w':jm}{S S':jc}{G:Gi}{δ:jv}{Fr:je}{P:jh}
def Gives(P:jh)(w:jm)(S:jc)(δ:jv)(a:Act)(o:Oper)(v:AV):Prop:=∃u,(execOp a.eval o).run P w=.ok (.value u) w/\Lf w S δ v u
theorem U4(h:St G w S δ Fr)(k:Rd δ a)(b:o.op=.move x\/o.op=.assign x)(l:Cp x y){v:AV}(d:valOf (.cp y) (λs=>(δ s).er)=some v):Gives P w S δ a o v:=by obtain⟨n,m⟩:=A3 l k;refine⟨Dd δ y,by rcases b with b|b<;>simp[execOp,b,m],?_⟩;cases y with|t s=>simp only[valOf,AAI]at d;subst d;obtain⟨D,e,f,g,j⟩:=viewD (δ:=δ) s (h.ok s) [] (by simp[BO]) (h.al s);exact⟨D,e,f,g,j⟩|c c=>simp only[valOf,AAI]at d;subst d;obtain⟨D,i⟩:=n;obtain⟨e,f,g,_⟩:=Jk (w:=w) (S:=S) (δ:=δ) c D i;exact⟨D,e,by simp[Dd,i],f,g⟩
theorem wY(h:St G w S δ Fr)(e:Rd δ a)(i:o.op=.pick s x u)(n:Cp s y)(t:Cp x j)(z:Cp u r){v:AV}(d:valOf (.pick y j r) (λc=>(δ c).er)=some v):Gives P w S δ a o v:=by obtain⟨C,g⟩:=A3 n e;obtain⟨k,p⟩:=A3 t e;obtain⟨l,q⟩:=A3 z e;simp only[valOf]at d;split at d;rename_i b B;obtain⟨f,_⟩:=h.Fv C B;split at d;(rename_i c' m;simp only[AAI]at d;subst d;refine⟨c',?_,?_⟩;(cases b with|true=>have:=(h.Fv k (by simpa using m)).1;simp[execOp,i,g,f,asBool,p,this]|false=>have:=(h.Fv l (by simpa using m)).1;simp[execOp,i,g,f,asBool,q,this]);cases b with|true=>exact Lf.sc c' (h.Fv k am).2|false=>exact Lf.sc c' (h.Fv l am).2);cases d;cases d
theorem xV(h:Ok w S (.own v bx k rows) F)(C:BO (δ n) p=some (.own v bx k rows))(B:U7 v=some b)(hi:rows[i]? =some row)(j r:Nat):∃l:List DV,l.map DV.er=Rw n p i k j (((row.map DV.er).drop j).take r)/\(∀D∈l,Ok w S D (λ_=>False))/\(∀D∈l,EC δ D)/\(∀(m:Nat) u,(l.map DV.BJ)[m]? =some u->w.cell? ⟨b,i*k+j+m,none⟩=some u):=by generalize z:v=v' at h;cases h with|nil=>simp at hi|own _ _ _ b' c arr E Fs _ hbb hk Ex Mp hv hr hd CG Lb hF=>subst z;simp only[Z1,AAI]at B;subst B;obtain⟨l,g,s⟩:=Md ((row.drop j).take r) (λm d D=>D.er=vC n p i (j+m) k d.er/\D.BJ=d.BJ/\Ok w S D (λ_=>False)/\EC δ D/\w.cell? ⟨b',i*k+j+m,none⟩=some D.BJ) (by(intro m d o;have t:row[j+m]? =some d:=by rw[ABU]at o;split at o;simpa using o;cases o);(have H:=hr i (j+m) row d hi t;have f:w.cell? ⟨b',i*k+j+m,none⟩=some d.BJ:=by simp only[World.cell?,hbb];have:=hv i (j+m) row d hi t;rw[show i*k+j+m=i*k+(j+m)from by omega];simpa using this);cases H with|lf a v _ ha xB=>(have g:=ha.EK;cases a with|sc u=>exact⟨.lf (.sc u) v,by simp[vC],ak,.lf _ _ _ ha (λ_ h=>h),.lf _ _ trivial,f⟩|sl x k' rows'=>exact⟨.lf (.sl x k' rows') v,by simp[vC],ak,.lf _ _ _ ha (λ_ h=>h),.lf _ _ trivial,f⟩|own|agg=>simp[EK]at g|Bo=>simp[EK]at g|_=>exact⟨.lf .dead v,by simp[vC],ak,.lf _ _ _ trivial (λ_ h=>h),.lf _ _ trivial,by simpa using f⟩)|nil k' _ xB=>exact⟨.lf (.al n (p++[(i,j+m,k)])) (.slice none 0 0),by simp[vC],ak,.lf _ _ _ trivial (λ_ h=>h),.lf _ _ ⟨false,k',[],by rw[Jh,C];simp[BO,hi,t]⟩,by simpa using f⟩|own oF k' rows' b'' c' arr' E' Fs' _ g1 g2 g3 g4 g5 g6 g7 g8 g9 g10=>exact⟨.lf (.al n (p++[(i,j+m,k)])) (Kh oF b'' rows'.length c'),by simp[vC],ak,.lf _ _ _ trivial (λ_ h=>h),.lf _ _ ⟨oF,k',rows',by rw[Jh,C];simp[BO,hi,t]⟩,by simpa using f⟩|agg cs=>exact⟨.lf .dead (.agg (cs.map DV.BJ).toArray),by simp[vC],ak,.lf _ _ _ trivial (λ_ h=>h),.lf _ _ trivial,by simpa using f⟩|Bo cs=>exact⟨.lf .dead (.tuple (cs.map DV.BJ).toArray),by simp[vC],ak,.lf _ _ _ trivial (λ_ h=>h),.lf _ _ trivial,by simpa using f⟩);refine⟨l,?_,?_,?_,?_⟩;refine map_mk g s _ _ (by simp[nX]) λm d D e o=>?_;rw[viewC_get,<- List.map_drop,<- List.map_take,AAU,o];simp[e.1];intro D q;obtain⟨m,y⟩:=AAk q;obtain⟨c,_,e⟩:=mem_mk g s m D y;exact e.2.2.1;intro D q;obtain⟨m,y⟩:=AAk q;obtain⟨c,_,e⟩:=mem_mk g s m D y;exact e.2.2.2.1;intro m u G;rw[AAU,AAs]at G;obtain⟨D,q,rfl⟩:=G;obtain⟨c,_,e⟩:=mem_mk g s m D q;exact e.2.2.2.2
theorem UI(h:St G w S δ Fr)(x:(δ k).er=.agg z){agg:Bool}{v:AV}(H:JM agg n (OO k off ((z.drop off).take n))=some v):∃vals:List Value,(δ k).BJ=.agg vals.toArray/\((vals.drop off).take n).length=n/\Lf w S δ v (if agg=true then .agg ((vals.drop off).take n).toArray else((vals.drop off).take n).headD undef):=by
 obtain⟨ds,q,C⟩:∃ds,δ k=.agg ds/\ds.map DV.er=z:=by have:=(h.ok k).Lq;cases hd:δ k with|agg ds=>simp_all|lf c v=>(rw[hd]at x this;cases this with|lf _ _ g=>simp at x;subst x;simp[EK]at g)|own|Bo=>simp_all
 have y:=h.ok k;have o:=h.al k;rw[q]at y o;cases y with
 |agg _ Fs _ hr Oq CG hF=>
  cases o with
  |agg _ o=>
   obtain⟨r,g,p⟩:=Md ((ds.drop off).take n) (λm d D=>D.er=vF k (off+m) d.er/\D.BJ=d.BJ/\Ok w S D (λ_=>False)/\EC δ D) (by(intro m d f;have hd:ds[off+m]? =some d:=by rw[ABU]at f;split at f;simp_all;cases f);have e:=hr _ d hd;have j:=o _ d hd;cases d with|lf a u=>(have E:=e.Lq;cases E with|lf _ _ qP=>cases e with|lf _ _ _ ha Zz=>refine⟨.lf a u,?_,rfl,.lf _ _ _ ha (λ_ h=>h),j⟩;simp only[FG];cases a<;>simp_all [vF,EK])|own u bx s rows=>refine⟨.lf (.al k [(0,off+m,0)]) u,by simp[vF],ak,.lf _ _ _ trivial (λ_ h=>h),.lf _ _ ⟨bx,s,rows,by simp[BO,q,hd]⟩⟩|agg l=>exact⟨.lf .dead (DV.agg l).BJ,by simp[vF],ak,.lf _ _ _ trivial (λ_ h=>h),.lf _ _ trivial⟩|Bo l=>exact⟨.lf .dead (DV.Bo l).BJ,by simp[vF],ak,.lf _ _ _ trivial (λ_ h=>h),.lf _ _ trivial⟩);have F:r.map DV.er=OO k off ((z.drop off).take n):=map_mk g p _ _ (by rw[nY,<- C];simp) λi d D b hd=>(by rw[viewF_get,<- C,<- List.map_drop,<- List.map_take,AAU,hd,b.1];rfl);have I:r.map DV.BJ=((ds.map DV.BJ).drop off).take n:=map_mk g p _ _ ak λi d D b hd=>aA;obtain⟨B,E⟩:=gather (w:=w) (S:=S) (δ:=δ) H r F (λD t=>by obtain⟨m,f⟩:=AAk t;obtain⟨c,_,b⟩:=mem_mk g p m D f;simp_all)
    (λD t=>by obtain⟨m,f⟩:=AAk t;obtain⟨c,_,b⟩:=mem_mk g p m D f;simp_all)
   refine⟨ds.map DV.BJ,am,?_,?_⟩;all_goals grind
theorem U5(h:St G w S δ Fr)(ha:Rd δ a)(ho:o.op=.load t x)(hn:Hc P t=some n)(hg:KZ P t=some bx)(M:bx=true\/n=1)(V:Cp x y){v:AV}(d:valOf (.ld bx n y) (λs=>(δ s).er)=some v):Gives P w S δ a o v:=by
 obtain⟨hy,he⟩:=A3 V ha;cases y with
 |c c=>simp[valOf]at d
 |t s=>
  have key:∀(b off:Nat)(B:jz),(δ s).BJ=.pointer (some ⟨b,off,none⟩)->JM bx n (B.map DV.er)=some v->(∀D∈B,Ok w S D (λ_=>False))->(∀D∈B,EC δ D)->(∀(m:Nat) u,(B.map DV.BJ)[m]? =some u->w.cell? ⟨b,off+m,none⟩=some u)->Gives P w S δ a o v:=by intro b off B E T1 R HX H;obtain⟨C,tU⟩:=gather T1 B rfl R HX;refine⟨_,?_,tU⟩;have:=MS (P:=P) (w:=w) (b:=b) (off:=off) (vs:=B.map DV.BJ) hn hg M (by simpa using C) H;simp only[execOp,ho,he,Dd,E,Instr.loadAt,Instr.sureAddr,Sem.run_bind,Sem.run_pure,Result.andThen_ok,this]
  simp only[valOf]at d;cases hs:(δ s).er with|fp cs=>simp only[hs]at d;obtain⟨_,L,_⟩:=h.leaf hs rfl;obtain⟨b,off,E,hS,H⟩:=L;obtain⟨B,Q,O⟩:=Md (cs.take n) (λm c D=>D.er=K8 c/\w.cell? ⟨b,off+m,none⟩=some D.BJ/\Ok w S D (λ_=>False)/\EC δ D) (by intro m c I;rw[ABU]at I;split at I;obtain⟨u,J,hf⟩:=H m c I;obtain⟨D,K,L,T,U⟩:=Zu (δ:=δ) hf;exact⟨D,K,by rw[L];exact J,T,U⟩;cases I);refine key b off B E ?_ ?_ ?_ ?_;(rw[<- d];congr 1;exact map_mk Q O _ _ ak λi c D l V=>by simp only[AAU,V,AAr,l.1]);intro D z;obtain⟨m,I⟩:=AAk z;obtain⟨c,_,l⟩:=mem_mk Q O m D I;exact l.2.2.1;intro D z;obtain⟨m,I⟩:=AAk z;obtain⟨c,_,l⟩:=mem_mk Q O m D I;exact l.2.2.2;intro m u J;rw[AAU,AAs]at J;obtain⟨D,z,rfl⟩:=J;obtain⟨c,_,l⟩:=mem_mk Q O m D z;exact l.2.1|cb f vs b ss=>simp only[hs]at d;split at d;(rename_i e;obtain⟨rfl,rfl⟩:=e;obtain rfl:=AAK d;obtain⟨_,⟨E,hS,H⟩,_⟩:=h.leaf hs rfl;refine key b 0 [.lf (.sc (.func (.func f) #[] (vs++[Value.pointer (some ⟨b,0,none⟩)]).toArray)) (.func (.func f) #[] (vs++[Value.pointer (some ⟨b,0,none⟩)]).toArray)] E (by simp[JM]) ?_ ?_ ?_;intro D z;rw[AAc]at z;subst z;exact .lf _ _ _ ⟨rfl,rfl⟩ (λ_ h=>h);intro D z;rw[AAc]at z;subst z;exact .lf _ _ trivial;intro m u J;cases m with|zero=>simp only[AAd,LX,AAz,AAI]at J;subst J;rw[E]at H;exact H|succ m=>simp at J);cases d|vb q off us=>simp only[hs]at d;obtain⟨_,⟨b,E,hS,H⟩,Es⟩:=h.leaf hs rfl;split at d;(rename_i cs hq;obtain⟨vals,hva,C,tU⟩:=UI h hq d;have Z:vals=us:=by have K:(δ q).BJ=.agg us.toArray:=Es;rw[hva,Value.agg.injEq]at K;have:=congrArg Array.toList K;simpa using this);subst Z;refine⟨_,?_,tU⟩;have:=MS (P:=P) (w:=w) (b:=b) (off:=off) (vs:=(vals.drop off).take n) hn hg M C (λj v N=>by rw[ABU]at N;split at N;rw[List.getElem?_drop]at N;exact H _ v N;cases N);simp only[execOp,ho,he,Dd,E,Instr.loadAt,Instr.sureAddr,Sem.run_bind,Sem.run_pure,Result.andThen_ok,this];cases d|_=>simp only[hs]at d;split at d;rename_i r p i j k YG;obtain⟨vh,g,A7,b,F,Cq,hb,E,R,_⟩:=h.Eh YG;split at d;rename_i oF k' rows W;obtain⟨D,z,G7⟩:=EY (h.ok r).Lq W;rw[Cq]at z;obtain rfl:=AAK z;simp only[Ft,AV.own.injEq]at G7;obtain⟨rfl,rfl,rfl⟩:=G7;split at d;rename_i row Fu;rw[AAU,AAs]at Fu;obtain⟨Jr,X,rfl⟩:=Fu;obtain⟨B,K,L,T,U⟩:=xV R Cq hb X j n;exact key b (i*k+j) B E (by rw[K];exact d) L T U;cases d;cases d;cases d
end
variable{E:Array Field}{e:j7}{op:BinOp}{J K:IntKind}
section
variable{w w':jm}{S S':jc}{G:Gi}{δ:jv}{Fr:je}{P:jh}
theorem OJ{a:Field}(g:P.underlying t=some (.struct E))(e:E[k]? =some a)(hn:Hc P a.type=some n)(d:n≠0)(b off:Nat)(w:jm):(Instr.fieldAt t (.pointer (some ⟨b,off,none⟩)) k).run P w=.ok (.pointer (some ⟨b,off+a.offset,none⟩)) w:=by simp[Instr.fieldAt,underlying,g,e,Instr.sureAddr,fieldPlace,run_sizeOf hn,d,Addr.add_lit]
theorem jF(h:St G w S δ Fr)(M:Rd δ a)(B:o.op=.fieldAddr t x k){e:Field}(C:P.underlying t=some (.struct E))(z:E[k]? =some e)(J:e.offset=off)(hn:Hc P e.type=some n)(l:n≠0)(O:Cp x y){v:AV}(d:valOf (.Xe off y) (λs=>(δ s).er)=some v):Gives P w S δ a o v:=by obtain⟨U,u⟩:=A3 O M;subst J;cases y with|c c=>simp[valOf]at d|t s=>simp only[valOf]at d;cases hs:(δ s).er with|fp cs=>simp only[hs,AAI]at d;subst d;obtain⟨_,L,_⟩:=h.leaf hs rfl;obtain⟨b,off,g,m,D⟩:=L;refine⟨.pointer (some ⟨b,off+e.offset,none⟩),?_,Lf.fp m λj a T=>?_⟩;simp only[execOp,B,u,Dd,g,Sem.run_bind,OJ C z hn l,Result.andThen_ok,Sem.run_pure];grind|vb q o us=>simp only[hs,AAI]at d;subst d;obtain⟨_,⟨b,g,m,D⟩,I⟩:=h.leaf hs rfl;refine⟨.pointer (some ⟨b,o+e.offset,none⟩),?_,⟨.lf (.vb q (o+e.offset) us) _,ak,ak,.lf _ _ _ ⟨b,rfl,m,D⟩ (λ_ h=>h),.lf _ _ I⟩⟩;simp only[execOp,B,u,Dd,g,Sem.run_bind,OJ C z hn l,Result.andThen_ok,Sem.run_pure]|_=>simp only[hs]at d;split at d;rename_i r p i j f K;simp only[AAI]at d;subst d;obtain⟨V,bx,Q,b,F,H,N,g,R,_⟩:=h.Eh K;refine⟨.pointer (some ⟨b,i*f+(j+e.offset),none⟩),?_,Lf.Lu H N⟩;simp only[execOp,B,u,Dd,g,Sem.run_bind,OJ C z hn l,Result.andThen_ok,Sem.run_pure,Nat.add_assoc];cases d
theorem run_indexAt_slice(g:P.underlying t=some (.slice e))(f:Hc P e=some k){h:IntKind}{len:Int}(a:0<=len)(d:len<n)(w:jm):(Instr.indexAt t (.slice (some ⟨b,off,none⟩) n i) (.int h len)).run P w=.ok (.pointer (some ⟨b,off+len.toNat*k,none⟩)) w:=by simp[Instr.indexAt,asIntOf,underlying,g,a,d,run_sizeOf f,Addr.add_lit]
theorem St.hdD(h:St G w S δ Fr)(B:ZI y){n:AV}{q:lu}(d:hd (λs=>(δ s).er) y=some (n,q)):(∀b k rows,n=.own b k rows->∃f F,f.map (·.map DV.er)=rows/\Ok w S (.own (Dd δ y) b k f) F/\∀r p,q=some (r,p)->BO (δ r) p=some (.own (Dd δ y) b k f))/\(∀e k rows,n=.sl e k rows->(∃s,y=.t s/\(δ s).er=.sl e k rows)->Fz w S (.sl e k rows) (Dd δ y)):=by cases y with|c c=>obtain⟨D,o⟩:=B;obtain⟨g,i,m,_⟩:=Jk (w:=w) (S:=S) (δ:=δ) c D o;constructor;rintro b k rows rfl;simp only[hd]at d;split at d;(simp only[AAI,AAZ,AV.own.injEq]at d;obtain⟨⟨rfl,rfl,rfl⟩,rfl⟩:=d;cases D with|own v b' k'' f=>simp only[Ft,AV.own.injEq]at g;obtain⟨rfl,rfl,j⟩:=g;exact⟨f,_,j,by simpa[Dd,o]using i,ak⟩|lf a v=>(simp only[FG]at g;subst g;cases i with|lf _ _ _ ha _=>exact ha.elim)|agg|Bo=>simp at g);cases d;simp_all|t s=>simp only[hd]at d;constructor;(rintro b k rows rfl;cases hs:(δ s).er with|al r p=>simp only[hs]at d;split at d;rename_i C hn;simp only[AAI,AAZ]at d;obtain⟨rfl,rfl⟩:=d;obtain⟨f,F,g,i,m⟩:=h.node hs hn;exact⟨f,F,i,m,by rintro E p' ⟨⟩;exact g⟩;cases d|own b' k' rows'=>simp only[hs,AAI,AAZ]at d;obtain⟨g,rfl⟩:=d;obtain⟨f,l,z⟩:=h.aW (hs.trans g);refine⟨f,Fr s,z,?_,?_⟩;have:=h.ok s;rw[l]at this;simpa[Dd]using this;rintro r p ⟨⟩;simpa[BO,Dd]using l|sl e' k' rows'=>simp_all|_=>simp_all);rintro e k rows rfl ⟨H,u,x⟩;cases u;exact(h.leaf x rfl).2.1
theorem jG(h:St G w S δ Fr)(L:Rd δ a)(T:o.op=.indexAddr t x s)(U:P.underlying t=some (.slice e))(O:Hc P e=some k)(hc:Cp x y)(Nl:Cp s j){v:AV}(d:valOf (.Wu k y j) (λi=>(δ i).er)=some v):Gives P w S δ a o v:=by obtain⟨I,M⟩:=A3 hc L;obtain⟨N,g⟩:=A3 Nl L;simp only[valOf]at d;split at d;rename_i l rows r p n f hn;split at d;(rename_i q;obtain⟨rfl,z,h1⟩:=q;simp only[AAI]at d;subst d;obtain⟨kk,hn⟩:=Pb hn;obtain⟨u,_⟩:=h.Fv N hn;obtain⟨K,F,R,V,YM⟩:=(h.hdD I f).1 _ _ _ rfl;have W:=YM r p rfl;generalize Dd δ y=vh at*;have Q:K.length=rows.length:=(by rw[<- R];simp);cases V with|nil=>grind|own _ _ _ b c arr E Fs _ hb gP Ex Mp xK hr Oq CG Lb hF=>refine⟨.pointer (some ⟨b,n.toNat*l+0,none⟩),?_,Lf.Lu W ak⟩;simp only[execOp,T,M,g,u,Kh,Sem.run_bind,AAR,AAY,run_indexAt_slice U O z (show n<(K.length:Nat)by omega),Result.andThen_ok,Sem.run_pure];simp);cases d;rename_i ee l rows pl n f hn;split at d;((rename_i q;obtain⟨rfl,z⟩:=q;obtain⟨kk,hn⟩:=Pb hn;obtain⟨u,_⟩:=h.Fv N hn;rw[AAs]at d;obtain⟨row,X,rfl⟩:=d;have H:∃i,y=.t i/\(δ i).er=.sl ee l rows:=by cases y with|c c=>obtain⟨D,B⟩:=I;simp only[hd]at f;grind|t i=>refine⟨i,rfl,?_⟩;simp only[hd]at f;cases hs:(δ i).er with|sl e2 k2 Jy=>simp_all|al r p=>simp only[hs]at f;split at f;rename_i n' C;simp only[AAI,AAZ]at f;obtain⟨rfl,_⟩:=f;obtain⟨_,_,HX⟩:=h.leaf hs rfl;obtain⟨oF,k2,J,hl⟩:=HX;obtain⟨D,B,Z⟩:=EY (h.ok r).Lq C;rw[hl]at B;obtain rfl:=AAK B;simp at Z;cases f|own=>simp_all|_=>simp_all);have PT:=(h.hdD I f).2 _ _ _ rfl H;have EM:n.toNat<rows.length:=(AAJ.1 X).1;generalize Dd δ y=vh at*;cases PT with|nil=>grind|sl _ _ _ b off c vs hx TQ hS gP CF hr=>refine⟨.pointer (some ⟨b,off+n.toNat*l,none⟩),?_,Lf.fp hS λm a R=>?_⟩;simp only[execOp,T,M,g,u,Sem.run_bind,run_indexAt_slice U O z (show n<(rows.length:Nat)by omega),Result.andThen_ok,Sem.run_pure];grind);cases d;cases d
theorem gives_bin(h:St G w S δ Fr)(z:Rd δ a)(p:o.op=.binOp op t x s e)(H:Cp x y)(F:Cp s j){v:AV}(b:valOf (.bin op y j) (λD=>(δ D).er)=some v):Gives P w S δ a o v:=by
 obtain⟨B,g⟩:=A3 H z;obtain⟨C,i⟩:=A3 F z;simp only[valOf]at b;unfold binF at b;split at b
 . rename_i k n K m E l;obtain⟨d,_⟩:=h.Fv B E;obtain⟨u,_⟩:=h.Fv C l;split at b;(. (rename_i I;subst I;rw[AAs]at b;obtain⟨q,c,rfl⟩:=b;have f:(eqGuard op t x s (.int k n) (.int k m)).run P w=.ok () w:=(by cases op<;>simp[eqGuard]);have J:(binOp op t (.int k n) (.int k m)).run P w=.ok q w:=by cases op<;>simp[binI]at c<;>first| (subst c;simp[binOp,Op.intArith,Op.intCmp];done)| (obtain⟨r,rfl⟩:=c;simp[binOp,Op.intDiv,r];done));refine⟨q,?_,Lf.sc q ?_⟩;simp only[execOp,p,g,i,d,u,Sem.run_bind,f,J,Result.andThen_ok,Sem.run_pure];cases op<;>simp[binI]at c<;>first| (subst c;rfl)| (obtain⟨r,rfl⟩:=c;rfl));cases b
 rename_i n m E l;obtain⟨d,_⟩:=h.Fv B E;obtain⟨u,_⟩:=h.Fv C l;have f:∀op,(eqGuard op t x s (.string n) (.string m)).run P w=.ok () w:=(by intro op;cases op<;>simp[eqGuard]);split at b;simp only[AAI]at b;subst b;refine⟨_,?_,Lf.sc _ rfl⟩;simp only[execOp,p,g,i,d,u,Sem.run_bind,f,Result.andThen_ok];simp[binOp,Op.stringOp];simp only[AAI]at b;subst b;refine⟨_,?_,Lf.sc _ rfl⟩;simp only[execOp,p,g,i,d,u,Sem.run_bind,f,Result.andThen_ok];simp[binOp,Op.stringOp];cases b;cases b
theorem gives_beq(h:St G w S δ Fr)(j:Rd δ a)(l:o.op=.binOp op t x s e)(d:op=if bx=true then .neq else .eql)(p:P.underlying t=some .bool)(D:Cp x y)(z:Cp s r){v:AV}(c:valOf (.beq bx y r) (λq=>(δ q).er)=some v):Gives P w S δ a o v:=by obtain⟨E,g⟩:=A3 D j;obtain⟨F,i⟩:=A3 z j;simp only[valOf]at c;split at c;(rename_i n m B C;obtain⟨u,_⟩:=h.Fv E B;obtain⟨f,_⟩:=h.Fv F C;simp only[AAI]at c;subst c;refine⟨_,?_,Lf.sc _ rfl⟩;have k:∀op,(eqGuard op t x s (.bool n) (.bool m)).run P w=.ok () w:=(by intro op;cases op<;>simp[eqGuard]);cases bx with|true=>simp only[AAl]at d;subst d;simp only[execOp,l,g,i,u,f,Sem.run_bind,k,Result.andThen_ok,run_neq_bool w t n m p,Sem.run_pure,AAl]|false=>simp only[AAR,AAY]at d;subst d;simp only[execOp,l,g,i,u,f,Sem.run_bind,k,Result.andThen_ok,run_eql_bool w t n m p,Sem.run_pure,AAR,AAY]);cases c
theorem gives_un(h:St G w S δ Fr)(j:Rd δ a){op:UnOp}(f:o.op=.unOp op t x)(l:Cp x y){v:AV}(b:valOf (.un op y) (λs=>(δ s).er)=some v):Gives P w S δ a o v:=by obtain⟨g,e⟩:=A3 l j;simp only[valOf]at b;unfold unF at b;split at b;rename_i n d;obtain⟨c,_⟩:=h.Fv g d;split at b;simp only[AAI]at b;subst b;exact⟨_,by simp[execOp,f,e,c,Op.unary],Lf.sc _ rfl⟩;cases b;rename_i k n d;obtain⟨c,_⟩:=h.Fv g d;split at b;simp only[AAI]at b;subst b;exact⟨.int k (k.wrap (0-n)),by simp[execOp,f,e,c,Op.unary,Op.intArith],Lf.sc _ rfl⟩;cases b;cases b
theorem gives_cvt(h:St G w S δ Fr)(i:Rd δ a)(l:o.op=.convert t e x)(m:P.underlying t=some (.int K))(hd:P.underlying e=some (.int J))(j:Cp x y){v:AV}(b:valOf (.cvt J y) (λt=>(δ t).er)=some v):Gives P w S δ a o v:=by obtain⟨p,f⟩:=A3 j i;simp only[valOf]at b;split at b;rename_i r n g;obtain⟨d,_⟩:=h.Fv p g;simp only[AAI]at b;subst b;exact⟨.int J (J.wrap n),by simp[execOp,l,f,d,convert,underlying,m,hd,Conv.intToInt],Lf.sc _ rfl⟩;cases b
end
variable{c:Call}{R:ky}{N O:Array Operand}{V:kv}
section
variable{w w':jm}{S S':jc}{G:Gi}{δ:jv}{Fr:je}{P:jh}
theorem kC(h:Ok w S (.own v false k rows) F):∃a c,v=.slice a rows.length c:=by cases h with|nil=>simp_all|own _ _ _ b c=>exact⟨some ⟨b,0,none⟩,c,by simp[Kh]⟩
theorem Q4{rows:jk}(h:Fz w S (.sl bx k rows) v):∃a c,v=.slice a rows.length c:=by cases h with|nil _ _ a c|sl _ _ _ b off c=>simp_all
theorem St.hdSl(h:St G w S δ Fr)(l:ZI y){rows:jk}{n:lu}(a:hd (λs=>(δ s).er) y=some (.sl bx k rows,n)):∃s,y=.t s/\(δ s).er=.sl bx k rows:=by cases y with|c c=>obtain⟨D,b⟩:=l;simp only[hd]at a;grind|t s=>refine⟨s,rfl,?_⟩;simp only[hd]at a;cases hs:(δ s).er with|sl e2 m Jy=>simp_all|al r p=>simp only[hs]at a;split at a;rename_i o d;simp only[AAI,AAZ]at a;obtain⟨rfl,_⟩:=a;obtain⟨_,_,i⟩:=h.leaf hs rfl;obtain⟨q,m,f,j⟩:=i;obtain⟨D,b,g⟩:=EY (h.ok r).Lq d;rw[j]at b;obtain rfl:=AAK b;simp at g;cases a|own=>simp_all|_=>simp_all
theorem run_len_slice(a:ABi Addr)(n c:Nat)(d:∃e,P.underlying t=some (.slice e))(ty:j7)(w:jm):(Builtin.len_ #[t] ty #[.slice a n c]).run P w=.ok (.int .i64 n) w:=by obtain⟨e,b⟩:=d;simp[Builtin.len_,underlying,b,goInt]
theorem gives_len(h:St G w S δ Fr)(B:Rd δ a)(D:o.op=.call c)(q:c.callee=.builtin .len)(p:c.args.toList=[x])(i:c.argTypes.toList=[t])(H:(∃e,P.underlying t=some (.slice e)))(C:Cp x y){v:AV}(d:valOf (.len y) (λs=>(δ s).er)=some v):Gives P w S δ a o v:=by
 obtain⟨j,z⟩:=A3 C B;have u:c.args= #[x]:=by apply Array.ext';simpa using p
 have l:c.argTypes= #[t]:=by apply Array.ext';simpa using i
 have key:∀(b:ABi Addr)(n cc:Nat),Dd δ y=.slice b n cc->v=.sc (.int .i64 n)->Gives P w S δ a o v:=by rintro b n cc g rfl;refine⟨.int .i64 n,?_,Lf.sc _ rfl⟩;have:=run_len_slice (P:=P) b n cc H o.type w;simp only[execOp,D,resolve,q,u,l,invoke,builtin,Sem.run_bind,Sem.run_pure,Result.andThen_ok,List.map_toArray,AAd,AAv,z,g,this]
 simp only[valOf]at d;split at d;rename_i k rows I f;simp only[AAI]at d;obtain⟨J,F,K,m,_⟩:=(h.hdD j f).1 _ _ _ rfl;obtain⟨b,cc,E⟩:=kC m;grind;rename_i e k rows I f;simp only[AAI]at d;have r:=(h.hdD j f).2 _ _ _ rfl (h.hdSl j f);obtain⟨b,cc,E⟩:=Q4 r;simp_all;cases d
theorem xA(h:St G w S δ Fr)(m:Rd δ a)(p:o.op=.call c)(g:c.callee=.builtin .len)(f:c.args.toList=[x])(d:c.argTypes.toList=[t])(r:P.underlying t=some .string)(n:Cp x y){v:AV}(b:valOf (.gE y) (λs=>(δ s).er)=some v):Gives P w S δ a o v:=by
 obtain⟨u,l⟩:=A3 n m;have i:c.args= #[x]:=by apply Array.ext';simpa using f
 have j:c.argTypes= #[t]:=by apply Array.ext';simpa using d
 simp only[valOf]at b;split at b;rename_i s q;simp only[AAI]at b;subst b;obtain⟨k,_⟩:=h.Fv u q;refine⟨.int .i64 s.size,?_,Lf.sc _ rfl⟩;simp only[execOp,p,resolve,g,i,j,invoke,builtin,Sem.run_bind,Sem.run_pure,Result.andThen_ok,List.map_toArray,AAd,AAv,l,k];simp[Builtin.len_,underlying,r,goInt];cases b
theorem gives_ext(h:St G w S δ Fr)(y:Rd δ a)(C:o.op=.extract x i)(z:Cp x j){v:AV}(b:valOf (.ext j i) (λs=>(δ s).er)=some v):Gives P w S δ a o v:=by obtain⟨E,n⟩:=A3 z y;cases j with|c c=>simp[valOf]at b|t s=>simp only[valOf]at b;split at b;rename_i m g;split at b;((rename_i c l;simp only[AAI]at b;subst b;obtain⟨ds,f,B⟩:∃ds,δ s=.Bo ds/\ds.map DV.er=m:=by have:=(h.ok s).Lq;cases hd:δ s with|Bo ds=>simp_all|lf c v=>(rw[hd]at g this;cases this with|lf _ _ hl=>simp at g;subst g;simp[EK]at hl)|own|agg=>simp_all);rw[<- B,AAU,AAs]at l;obtain⟨d,hd,rfl⟩:=l;have k:=h.ok s;have e:=h.al s;rw[f]at k e;cases k with|Bo _ Fs _ hr Oq CG hF=>cases e with|Bo _ e=>obtain⟨D,p,q,r,u⟩:=viewD (δ:=δ) s (hr i d hd) [(0,i,0)] (by simp[BO,f,hd]) (e i d hd);refine⟨d.BJ,?_,D,p,q,r,u⟩;have:(ds.map DV.BJ).toArray[i]? =some d.BJ:=(by simp[hd]);simp only[execOp,C,n,Dd,f,PZ,Instr.extract,Sem.run_bind,this,Sem.run_pure,Result.andThen_ok]);cases b;cases b
theorem run_indexAt_array(f:P.underlying t=some (.array n e))(d:Hc P e=some k){len:Int}(a:0<=len)(c:len<n)(w:jm):(Instr.indexAt t (.pointer (some ⟨b,off,none⟩)) (.int J len)).run P w=.ok (.pointer (some ⟨b,off+len.toNat*k,none⟩)) w:=by simp[Instr.indexAt,asIntOf,underlying,f,a,c,run_sizeOf d,Addr.add_lit,Instr.sureAddr]
theorem gives_aad(h:St G w S δ Fr)(z:Rd δ a)(D:o.op=.indexAddr t x s)(E:P.underlying t=some (.array n e))(C:Hc P e=some k)(Q:Cp x y)(J:Cp s j){v:AV}(d:valOf (.aad n k y j) (λi=>(δ i).er)=some v):Gives P w S δ a o v:=by obtain⟨Z,B⟩:=A3 Q z;obtain⟨R,f⟩:=A3 J z;cases y with|c c=>simp[valOf]at d|t i=>simp only[valOf]at d;split at d;rename_i s' len g hn;simp only[Ar.t.injEq]at g;subst g;split at d;(rename_i I;obtain⟨q,u⟩:=I;obtain⟨kk,hn⟩:=Pb hn;obtain⟨L,_⟩:=h.Fv R hn;rw[L]at f;cases hs:(δ i).er with|fp cs=>simp only[hs,AAI]at d;subst d;obtain⟨_,M,_⟩:=h.leaf hs rfl;obtain⟨b,off,l,N,W⟩:=M;refine⟨.pointer (some ⟨b,off+len.toNat*k,none⟩),?_,Lf.fp N λm a X=>?_⟩;simp only[execOp,D,B,f,Dd,l,Sem.run_bind,run_indexAt_array E C q u,Result.andThen_ok,Sem.run_pure];grind|_=>simp only[hs]at d;split at d;rename_i r p s j T K;simp only[AAI]at d;subst d;obtain⟨vh,bx,U,b,F,H,O,l,V,_⟩:=h.Eh K;refine⟨.pointer (some ⟨b,s*T+(j+len.toNat*k),none⟩),?_,Lf.Lu H O⟩;simp only[execOp,D,B,f,Dd,l,Sem.run_bind,run_indexAt_array E C q u,Result.andThen_ok,Sem.run_pure,Nat.add_assoc];cases d);cases d;cases d
theorem cO{vals:jw}(hn:Hc P t=some n)(b:KZ P t=some bx)(c:bx=true\/n=1)(a:((vals.drop off).take n).length=n):(part t vals.toArray off).run P w=.ok (if bx=true then .agg ((vals.drop off).take n).toArray else((vals.drop off).take n).headD undef) w:=by
 cases bx with
 |true=>
  have e:vals.toArray.extract off (off+n)=((vals.drop off).take n).toArray:=by apply Array.ext';simp[List.extract_eq_take_drop]
  simp[part,Sf b,run_sizeOf hn,e]
 |false=>obtain rfl:=c.resolve_left ak;match hd:(vals.drop off).take 1,a with|[v],_=>have d:vals[off]? =some v:=(by have:((vals.drop off).take 1)[0]? =some v:=(by rw[hd];rfl);simpa using this);simp[part,Sf b,d]
theorem gives_fld(h:St G w S δ Fr)(l:Rd δ a){e:Field}(u:o.op=.field t x k)(B:P.underlying t=some (.struct E))(q:E[k]? =some e)(j:e.offset=off)(hn:Hc P e.type=some n)(r:KZ P e.type=some bx)(f:bx=true\/n=1)(m:Cp x y){v:AV}(d:valOf (.fld bx off n y) (λs=>(δ s).er)=some v):Gives P w S δ a o v:=by obtain⟨i,p⟩:=A3 m l;cases y with|c c=>simp[valOf]at d|t s=>simp only[valOf]at d;split at d;rename_i D z;obtain⟨vals,g,b,C⟩:=UI h z d;refine⟨_,?_,C⟩;have:=cO (w:=w) hn r f b;simp only[execOp,u,p,Dd,g,Instr.field,run_underlying B,q,asAgg,j,Sem.run_bind,Sem.run_pure,Result.andThen_ok,this];cases d
theorem gives_idx(h:St G w S δ Fr)(m:Rd δ a)(F:o.op=.index t x s)(I:P.underlying t=some (.array n e))(p:Hc P e=some k)(D:KZ P e=some bx)(z:bx=true\/k=1)(B:Cp x y)(r:Cp s j){v:AV}(b:valOf (.idx bx n k y j) (λi=>(δ i).er)=some v):Gives P w S δ a o v:=by obtain⟨L,C⟩:=A3 B m;obtain⟨E,d⟩:=A3 r m;cases y with|c c=>simp[valOf]at b|t i=>simp only[valOf]at b;split at b;rename_i N len f hn;simp only[Ar.t.injEq]at f;subst f;split at b;rename_i q;obtain⟨M,hn⟩:=Pb hn;obtain⟨u,_⟩:=h.Fv E hn;rw[u]at d;split at b;rename_i K H;obtain⟨vals,l,g,J⟩:=UI h H b;refine⟨_,?_,J⟩;have:=cO (w:=w) p D z g;simp only[execOp,F,C,d,Dd,l,Instr.index,asIntOf,run_underlying I,q,and_self,AAl,run_sizeOf p,Sem.run_bind,Sem.run_pure,Result.andThen_ok,this];cases b;cases b;cases b
theorem w9(h:St G w S δ Fr)(e:Rd δ a)(u:o.op=.index t x s)(B:P.underlying t=some .string)(p:Cp x y)(f:Cp s j){v:AV}(c:valOf (.sO y j) (λi=>(δ i).er)=some v):Gives P w S δ a o v:=by obtain⟨C,q⟩:=A3 p e;obtain⟨r,d⟩:=A3 f e;simp only[valOf]at c;split at c;rename_i i n z hn;obtain⟨D,hn⟩:=Pb hn;obtain⟨g,_⟩:=h.Fv r hn;obtain⟨k,_⟩:=h.Fv C z;split at c;rename_i l;rw[AAs]at c;obtain⟨b,m,rfl⟩:=c;refine⟨.int .u8 b.toNat,?_,Lf.sc _ rfl⟩;simp only[execOp,u,q,d,g,k,Instr.index,asIntOf,run_underlying B,l,AAl,m,Sem.run_bind,Sem.run_pure,Result.andThen_ok];cases c;cases c
theorem St.argAgg(h:St G w S δ Fr)(n:ZI y)(g:ar (λs=>(δ s).er) y=.agg z):∃vals:List Value,Dd δ y=.agg vals.toArray/\∀(j:Nat) u,z[j]? =some (.sc u)->vals[j]? =some u:=by
 obtain⟨D,F,e,o,i⟩:∃(D:DV)(F:jc),D.er=.agg z/\D.BJ=Dd δ y/\Ok w S D F:=by cases y with|t s=>exact⟨δ s,Fr s,g,rfl,h.ok s⟩|c c=>obtain⟨k,l⟩:=n;obtain⟨m,g2,p,_⟩:=Jk (w:=w) (S:=S) (δ:=δ) c k l;simp only[ar]at g;exact⟨k,_,m.trans g,by simp[Dd,l],g2⟩
 obtain⟨ds,rfl⟩:∃ds,D=.agg ds:=by have:=i.Lq;cases D with|agg ds=>simp_all|lf c v=>(cases this with|lf _ _ hl=>simp at e;subst e;simp[EK]at hl)|own|Bo=>simp at e
 refine⟨ds.map DV.BJ,am,λj u b=>?_⟩;simp only[JI,AV.agg.injEq]at e;subst e;simp only[AAU]at b |-;cases hd:ds[j]? with|none=>simp_all|some d=>simp only[hd,AAr,AAI]at b |-;cases i with|agg _ Fs _ hr _ _ _=>have:=hr j d hd;cases this with|lf a v _ hl _=>simp only[FG]at b;subst b;simpa using hl.1|nil|own=>simp at b|agg|Bo=>simp at b
def kdOf:TypeDesc->ABi Nat|.bool=>some 0|.int _=>some 1|.string=>some 2|_=>none
def SQ(P:jh):Nat->List Field->List Nat->Bool|_,[],[]=>true|i,f::fs,k::ks=>f.name != "_" &&f.offset==i&&Hc P f.type==some 1&&KZ P f.type==some false&&((P.underlying f.type).bind kdOf==some k)&&SQ P (i+1) fs ks|_,_,_=>false
def wG(P:jh)(t:j7)(kd:ju):Bool:=match P.underlying t with|some (.struct fs)=>!P.stoodInHeld t&& !P.eqGuardType P.depth t&&SQ P 0 fs.toList kd|_=>false
theorem eqSc_run(d:Nat)(a:(P.underlying t).bind kdOf=some k)(h:eqSc k zv v=some bx):(Op.equalIn (d+1) t zv v).run P w=.ok bx w:=by cases hu:P.underlying t with|none=>simp_all|some T=>simp only[hu,AAG]at a;cases T<;>simp only[kdOf,AAI,reduceCtorEq]at a<;>subst a;cases zv<;>cases v<;>simp only[eqSc,AAI,reduceCtorEq]at h;subst h;exact run_equalIn_bool' w d t _ _ hu;cases zv<;>cases v<;>simp only[eqSc,reduceCtorEq]at h;split at h;rename_i e;subst e;simp only[AAI]at h;subst h;exact run_equalIn_int w d t _ _ _ _ hu;cases h;cases zv<;>cases v<;>simp only[eqSc,AAI,reduceCtorEq]at h;subst h;exact run_equalIn_string w d t _ _ hu
theorem lY(d:Nat)(q r:jw)(p:List Field):∀(h:ju)(i:Nat)(c g:jj)(b:Bool),SQ P i p h->SS h c g=some b->(∀(j:Nat) u,c[j]? =some (.sc u)->q[i+j]? =some u)->(∀(j:Nat) u,g[j]? =some (.sc u)->r[i+j]? =some u)->(Op.eqFields (d+1) q.toArray r.toArray p).run P w=.ok b w:=by induction p with|nil=>(intro h i c g b m e _ _;cases h with|cons=>simp[SQ]at m|nil=>cases c<;>cases g<;>simp only[SS,AAI,reduceCtorEq]at e;subst e;simp[Op.eqFields])|cons f p ih=>intro h i c g b m e n o;cases h with|nil=>simp[SQ]at m|cons k ks=>simp only[SQ,AAH,AAT,ABf]at m;obtain⟨⟨⟨⟨⟨D,E⟩,F⟩,G⟩,H⟩,I⟩:=m;match c,g,e with|.sc u::c,.sc v::g,e=>simp only[SS]at e;split at e;((rename_i a B C g2;simp only[AAI]at e;have t:q[i]? =some u:=(by have:=n 0 u rfl;simpa using this);have x:r[i]? =some v:=(by have:=o 0 v rfl;simpa using this);have one:∀(l:jw)(u:jA),l[i]? =some u->(part f.type l.toArray i).run P w=.ok u w:=by(intro l u J;have K:(l.drop i).take 1=[u]:=by obtain⟨z,rfl⟩:=AAJ.1 J;rw[AA8 z];rfl);have:=cO (w:=w) (off:=i) (vals:=l) F G (.inr rfl) aA;rw[this,K];rfl);have y:=ih ks (i+1) c g B I g2 (λj u s=>by have:=n (j+1) u s;grind) (λj u s=>by have:=o (j+1) u s;grind);simp only[Op.eqFields,D,ne_eq,not_false_eq_true,AAl,E,Sem.run_bind,one q u t,one r v x,Result.andThen_ok,eqSc_run d H C];cases a with|true|false=>simp_all);cases e
theorem wZ(h:St G w S δ Fr)(C:Rd δ a)(E:o.op=.binOp op t x s e)(f:op=if bx=true then .neq else .eql)(d:wG P t L)(Q:Cp x y)(I:Cp s j){v:AV}(u:valOf (.sN bx L y j) (λF=>(δ F).er)=some v):Gives P w S δ a o v:=by obtain⟨U,r⟩:=A3 Q C;obtain⟨V,z⟩:=A3 I C;simp only[valOf]at u;split at u;rename_i g J M N;obtain⟨l,p,f1⟩:=h.argAgg U M;obtain⟨m,q,f2⟩:=h.argAgg V N;rw[AAs]at u;obtain⟨b,O,rfl⟩:=u;refine⟨_,?_,Lf.sc _ rfl⟩;unfold wG at d;split at d;(rename_i B T;simp only[AAH,AA5]at d;obtain⟨⟨K,g2⟩,k⟩:=d;have i:P.fieldsOf t=B:=(by simp[Program.fieldsOf,T]);have n:(Op.equalIn 10000 t (.agg l.toArray) (.agg m.toArray)).run P w=.ok b w:=(by rw[run_equalIn_struct w 9999 t _ _ (by simp_all) K,i];exact lY 9998 l m B.toList L 0 g J b k O (λH e R=>by simp_all) (λH e R=>by simp_all));have D:∀op,(eqGuard op t x s (.agg l.toArray) (.agg m.toArray)).run P w=.ok () w:=λop=>run_eqGuard_agg w op t x s _ _ g2;cases bx with|true=>simp only[AAl]at f;subst f;simp only[execOp,E,r,z,p,q,Sem.run_bind,D,Result.andThen_ok,run_neq_struct,n,Sem.run_pure,AAl]|false=>simp only[AAR,AAY]at f;subst f;simp only[execOp,E,r,z,p,q,Sem.run_bind,D,Result.andThen_ok,run_eql_struct,n,Sem.run_pure,AAR,AAY]);cases d;cases u
theorem gives_mm(h:St G w S δ Fr)(i:Rd δ a)(p:o.op=.call c)(d:c.callee=.builtin (if bx=true then .max else .min))(q:c.args.toList=[x,s])(u:Cp x y)(r:Cp s j){v:AV}(b:valOf (.mm bx y j) (λl=>(δ l).er)=some v):Gives P w S δ a o v:=by
 obtain⟨B,f⟩:=A3 u i;obtain⟨C,g⟩:=A3 r i;have e:c.args= #[x,s]:=by apply Array.ext';simpa using q
 simp only[valOf]at b;split at b;rename_i k n D m t g2;obtain⟨f1,_⟩:=h.Fv B t;obtain⟨f2,_⟩:=h.Fv C g2;split at b;(rename_i z;subst z;simp only[AAI]at b;subst b;refine⟨_,?_,Lf.sc _ rfl⟩;cases bx with|true=>simp only[AAl]at d;simp only[execOp,p,resolve,d,e,invoke,builtin,Sem.run_bind,Sem.run_pure,Result.andThen_ok,List.map_toArray,AAd,AAv,f,g,f1,f2,run_max_int2,AAl]|false=>simp only[AAR,AAY]at d;simp only[execOp,p,resolve,d,e,invoke,builtin,Sem.run_bind,Sem.run_pure,Result.andThen_ok,List.map_toArray,AAd,AAv,f,g,f1,f2,run_min_int2,AAR,AAY]);cases b;cases b
theorem own_box(h:Ok w S (.own v true k rows) F):∃b,v=.pointer (some ⟨b,0,none⟩):=by cases h with|own _ _ _ b c arr E Fs _=>exact⟨b,by simp[Kh]⟩
theorem wX(h:St G w S δ Fr)(F:Rd δ a)(l:o.op=.nilCheck x)(H:Cp x y){v:AV}(d:valOf (.JQ y) (λs=>(δ s).er)=some v):Gives P w S δ a o v:=by obtain⟨I,f⟩:=A3 H F;cases y with|c c=>(obtain⟨K,J⟩:=I;simp only[valOf,ar]at d;cases c<;>first| (simp[JP]at J;done)|grind|grind)|t s=>simp only[valOf,ar]at d;cases hs:(δ s).er with|Lu r p i j k=>rw[hs]at d;simp only[AAI]at d;subst d;obtain⟨B,_,g,bx,rows,b,m,g2,n⟩:=h.leaf hs rfl;exact⟨_,by simp only[execOp,l,f,Dd,n,Sem.run_pure],Lf.Lu m g2⟩|fp cs=>rw[hs]at d;simp only[AAI]at d;subst d;obtain⟨B,⟨b,off,m,g2,n⟩,_⟩:=h.leaf hs rfl;exact⟨_,by simp only[execOp,l,f,Dd,m,Sem.run_pure],Lf.fp g2 n⟩|own b k rows=>(rw[hs]at d;cases b with|false=>simp at d|true=>simp only[AAI]at d;subst d;obtain⟨E,hd,L⟩:=h.aW hs;have e:=h.ok s;rw[hd]at e;obtain⟨b,g⟩:=own_box e;refine⟨(δ s).BJ,?_,Lf.al (r:=s) (p:=[]) (bx:=true) (k:=k) (rows:=E) (by simp[BO];exact hd)⟩;simp only[execOp,l,f,Dd];rw[g];simp only[Sem.run_pure])|al r p=>rw[hs]at d;simp only at d;split at d;rename_i k rows hn;simp only[AAI]at d;subst d;obtain⟨B,_,bx,M,u,q⟩:=h.leaf hs rfl;obtain⟨D,C,z⟩:=EY (h.ok r).Lq hn;rw[q]at C;obtain rfl:=AAK C;simp only[Ft,AV.own.injEq]at z;obtain⟨rfl,rfl,_⟩:=z;obtain⟨F',e,_⟩:=(h.ok r).BO q;obtain⟨b,g⟩:=own_box e;refine⟨(δ s).BJ,?_,Lf.al q⟩;simp only[execOp,l,f,Dd];rw[g];simp only[Sem.run_pure];cases d|_=>simp_all
theorem vU(h:St G w S δ Fr)(F:Rd δ a)(j:kv):∀{d:mt}{rs:ky},G0 d j->YE (λs=>(δ s).er) j=some rs->d.length=rs.length/\∀(i:Nat) r p u,rs[i]? =some (r,p)->(d.map a.eval)[i]? =some u->∃bx k rows,BO (δ r) p=some (.own u bx k rows):=by induction j with|nil=>(intro d rs f b;cases d with|cons=>simp[G0]at f|nil=>simp only[YE,AAI]at b;subst b;exact⟨rfl,ak⟩)|cons y j ih=>intro d rs f b;cases d with|nil=>simp[G0]at f|cons x d=>simp only[G0,AAH]at f;obtain⟨I,z⟩:=A3 f.1 F;cases y with|c=>simp[YE]at b|t s=>(simp only[YE]at b;have step:∀v o l,YE (λs=>(δ s).er) j=some l->rs=(v,o)::l->(∃bx k rows,BO (δ v) o=some (.own (a.eval x) bx k rows))->(x::d).length=rs.length/\∀(i:Nat) r p u,rs[i]? =some (r,p)->((x::d).map a.eval)[i]? =some u->∃bx k rows,BO (δ r) p=some (.own u bx k rows):=by rintro v o l g rfl E;obtain⟨D,g2⟩:=ih f.2 g;refine⟨by simp[D],λi r p u hi n=>?_⟩;cases i with|zero=>simp only[AAz,AAI,AAZ,AAd]at hi n;obtain⟨rfl,rfl⟩:=hi;subst n;exact E|succ i=>exact g2 i r p u (by simpa using hi) (by simpa using n));split at b;rename_i k rows l m g;simp only[AAI]at b;obtain⟨B,hd,_⟩:=h.aW m;exact step s [] l g b.symm ⟨true,k,B,by rw[z];simp[BO,Dd];exact hd⟩;rename_i q p l m g;split at b;rename_i k rows hn;simp only[AAI]at b;obtain⟨_,_,bx,H,e,C⟩:=h.leaf m rfl;exact step q p l g b.symm ⟨bx,H,e,by rw[z];exact C⟩;cases b;cases b
theorem vV(h:St G w S δ Fr)(q:Rd δ a)(g:kv):∀{b:mt}{f:jk},G0 b g->lP (λs=>(δ s).er) g=some f->b.length=f.length/\∀(i:Nat) k u,f[i]? =some k->(b.map a.eval)[i]? =some u->uM w S k u:=by induction g with|nil=>(intro b f e d;cases b with|cons=>simp[G0]at e|nil=>simp only[lP,AAI]at d;subst d;exact⟨rfl,ak⟩)|cons y g ih=>intro b f e d;cases b with|nil=>simp[G0]at e|cons x b=>simp only[G0,AAH]at e;obtain⟨v,o⟩:=A3 e.1 q;simp only[lP]at d;split at d;(rename_i k l j r;obtain rfl:=AAK d;obtain⟨p,g2⟩:=ih e.2 r;refine⟨by simp[p],λi m u hi n=>?_⟩;cases i with|zero=>(simp only[AAz,AAI,AAd]at hi n;subst hi;subst n;cases y with|t s=>rw[o];exact(h.leaf j rfl).2.1|c c0=>obtain⟨B,z⟩:=v;simp only[ar]at j;subst j;simp[JP]at z)|succ i=>exact g2 i m u (by simpa using hi) (by simpa using n));cases d
theorem Lf.cl(a:vs.length=R.length)(b:∀(i:Nat) r p u,R[i]? =some (r,p)->vs[i]? =some u->∃bx f rows,BO (δ r) p=some (.own u bx f rows)):Lf w S δ (.cl k R) (.func (.func k) #[] vs.toArray):=⟨.lf (.cl k R) _,ak,ak,.lf _ _ _ trivial (λ_ h=>h),.lf _ _ ⟨vs,rfl,a,b⟩⟩
theorem jH(h:St G w S δ Fr)(j:Rd δ a)(q:o.op=.makeFunc (.func k) N O)(p:N= #[])(f:G0 O.toList V){v:AV}(c:valOf (.mkf k V) (λs=>(δ s).er)=some v):Gives P w S δ a o v:=by
 have e:O.map a.eval=(O.toList.map a.eval).toArray:=by apply Array.ext';simp
 subst p;have d:(execOp a.eval o).run P w=.ok (.value (.func (.func k) #[] (O.toList.map a.eval).toArray)) w:=by simp[execOp,q,Instr.makeFunc,e]
 simp only[valOf]at c;split at c;rename_i rs i;obtain rfl:=AAK c;obtain⟨n,g2⟩:=vU h j V f i;exact⟨_,d,Lf.cl am g2⟩;simp only[AAs]at c;obtain⟨l,m,rfl⟩:=c;obtain⟨n,g2⟩:=vV h j V f m;exact⟨_,d,⟨.lf (.Y7 k l) _,ak,ak,.lf _ _ _ ⟨O.toList.map a.eval,rfl,am,g2⟩ (λ_ h=>h),.lf _ _ trivial⟩⟩
end
variable{l:jz}{M:kg}
section
variable{w w':jm}{S S':jc}{G:Gi}{δ:jv}{Fr:je}{P:jh}
theorem MA{rows:List (List f)}{row:List f}{x:f}(c:∀row∈rows,row.length=k)(b:rows[i]? =some row)(d:row[n]? =some x):rows.flatten[i*k+n]? =some x:=by induction rows generalizing i with|nil=>simp at b|cons r rs ih=>have a:=c r ak;have e:=US c b d;cases i with|zero|succ i=>grind
theorem ER{rows:List (List f)}(b:∀row∈rows,row.length=k):rows.flatten.length=rows.length*k:=by induction rows with|nil=>simp|cons r rs ih=>grind
theorem M8(e:Kl w S row F)(p:Kl w S l U)(hd:∀x,F x->¬U x):Kl w S (row++l) (λx=>F x\/U x):=by induction row generalizing F with|nil=>have:(λx=>F x\/U x)=U:=funext λx=>propext ⟨λh=>h.elim (λh=>absurd h (e x)) id,.inr⟩;simp_all|cons d f ih=>obtain⟨g,i,k,n,m,j⟩:=e;refine⟨g,λx=>i x\/U x,k,ih n (λx o=>hd x ((j x).2 (.inr o))),?_,λx=>?_⟩;all_goals grind
theorem Kl.congr(h:Kl w S l F)(a:∀x,U x↔F x):Kl w S l U:=by have:U=F:=funext λx=>propext (a x);simp_all
theorem x6(y:w.heap[b]? =some (.cells M t (0,0)))(e:∀row∈rows,row.length=k)(l:if bx then rows.length=1/\M.size=k else n*k=M.size/\rows.length<=n)(u:¬S b)(g:Kl w S rows.flatten F)(D:¬F b)(v:∀(c:Nat) d,rows.flatten[c]? =some d->M[c]? =some d.BJ):Ok w S (.own (Kh bx b rows.length n) bx k rows) (λx=>x=b\/F x):=by obtain⟨m,q,r,s,E⟩:=Kr.1 g;refine .own bx k rows b n M t (λi j x=>(∃row d,rows[i]? =some row/\row[j]? =some d)/\m (i*k+j) x) _ y e l u ?_ ?_ ?_ ?_ ?_ ?_;intro i j row d hi a;exact v _ d (MA e hi a);intro i j row d hi a;refine(q _ d (MA e hi a)).congr λx=>⟨λh=>h.2,λh=>⟨⟨row,d,hi,a⟩,h⟩⟩;rintro i j H I x ⟨⟨row,d,hi,a⟩,z⟩ ⟨⟨f,G,hi',p⟩,o⟩;exact idx_inj (US e hi a) (US e hi' p) (r _ _ x z o);simp_all;simp_all;intro x;constructor;rintro(h|h);omega;obtain⟨c,hn⟩:=(E x).1 h;obtain⟨d,hd⟩:=s c x hn;have C:c<rows.length*k:=(by rw[<- ER e];exact(AAJ.1 hd).1);have B:0<k:=(Nat.eq_zero_or_pos k).elim (λh=>am) id;have hi:c/k<rows.length:=Nat.div_lt_of_lt_mul aA;have a:c%k<(rows[c/k]).length:=(by rw[e _ (AAS hi)];exact Nat.mod_lt _ B);refine .inr ⟨c/k,c%k,⟨_,_,AAO hi,AAO a⟩,?_⟩;rw[ABN,Nat.div_add_mod];exact hn;grind
theorem kA(h:Ok w S (.own v bx k rows) F):
 (v=.slice none 0 0/\bx=false/\rows=[]/\∀x,¬F x)\/
 ∃b c arr E o,v=Kh bx b rows.length c/\w.heap[b]? =some (.cells arr E (0,0))/\(∀row∈rows,row.length=k)/\(if bx then rows.length=1/\arr.size=k else c*k=arr.size/\rows.length<=c)/\¬S b/\Kl w S rows.flatten o/\¬o b/\
  (∀x,F x↔x=b\/o x)/\(∀(n:Nat) d,rows.flatten[n]? =some d->arr[n]? =some d.BJ):=by
 cases h with
 |nil k _ hF=>exact .inl ⟨rfl,rfl,rfl,hF⟩
 |own _ _ _ b c arr E Fs _ hb hk Ex Mp hv hr hd CG Lb hF=>
  refine .inr ⟨b,c,arr,E,λx=>∃i j,Fs i j x,rfl,hb,hk,Ex,Mp,?_,λ⟨i,j,h⟩=>Lb i j h,hF,?_⟩
  . refine Kr.2 ⟨λn x=>n<rows.length*k/\Fs (n/k) (n%k) x,?_,?_,?_,?_⟩
    . intro n d f;have e:n<rows.length*k:=(by rw[<- ER hk];exact(AAJ.1 f).1);have m:0<k:=(Nat.eq_zero_or_pos k).elim (λh=>by subst h;simp at e) id;have hi:n/k<rows.length:=Nat.div_lt_of_lt_mul (by rw[ABN];exact e);have g:n%k<(rows[n/k]).length:=(by rw[hk _ (AAS hi)];exact Nat.mod_lt _ m);have a:=MA hk (AAO hi) (AAO g);rw[ABN,Nat.div_add_mod,f]at a;obtain rfl:=AAK a;exact(hr _ _ _ _ (AAO hi) (AAO g)).congr λx=>⟨λh=>h.2,λh=>⟨e,h⟩⟩
    . rintro n t x ⟨a,p⟩ ⟨u,s⟩
      have:=hd _ _ _ _ x p s;rw[<- Nat.div_add_mod n k,<- Nat.div_add_mod t k,this.1,this.2]
    . rintro n x ⟨a,_⟩;exact⟨_,AAO (by rw[ER hk];exact a)⟩
    . intro x;constructor
      . rintro⟨i,j,h⟩;obtain⟨row,d,a,p⟩:=CG i j x h;have l:=US hk a p;have hi:=(AAJ.1 a).1;have m:0<k:=ah;refine⟨i*k+j,?_,?_⟩
        . calc i*k+j<i*k+k:=ah
           _=(i+1)*k:=by rw[ABh]
           _<=rows.length*k:=AA1 _ hi
        . have q:(i*k+j)/k=i:=(by rw[ABN,Nat.mul_add_div m,Nat.div_eq_of_lt l];rfl);have r:(i*k+j)%k=j:=(by rw[ABN,Nat.mul_add_mod];exact Nat.mod_eq_of_lt l);rw[q,r];exact h
      . rintro⟨n,_,h⟩;exact⟨_,_,h⟩
  . intro n d f;have e:n<rows.length*k:=(by rw[<- ER hk];exact(AAJ.1 f).1);have m:0<k:=(Nat.eq_zero_or_pos k).elim (λh=>by subst h;simp at e) id;have hi:n/k<rows.length:=Nat.div_lt_of_lt_mul (by rw[ABN];exact e);have g:n%k<(rows[n/k]).length:=(by rw[hk _ (AAS hi)];exact Nat.mod_lt _ m);have a:=MA hk (AAO hi) (AAO g);rw[ABN,Nat.div_add_mod,f]at a;obtain rfl:=AAK a
    have:=hv _ _ _ _ (AAO hi) (AAO g);rw[ABN,Nat.div_add_mod]at this;exact this
theorem Lr(h:Ok w S new F)(f:Gz new.er):HI new.BJ:=by cases h with|lf a v _ ha _=>(cases a with|sc u=>rw[LX,ha.1];exact ha.2|sl e k rows=>obtain⟨i,c,g⟩:=Q4 (w:=w) (S:=S) ha;rw[LX,g];rfl|own=>exact ha.elim|_=>simp[Gz]at f)|nil=>rfl|own bx k rows b c=>cases bx<;>simp[Kh,HI]|agg|Bo=>simp[Gz]at f
def cellsD:DV->List DV|.agg cs=>cs|d=>[d]
theorem My(d:DV)(b:gV d):(cellsD d).map DV.er=cellsOf d.er:=by cases d with|agg cs=>simp[cellsD,cellsOf]|lf a v=>(cases b with|lf _ _ h=>cases a<;>simp_all [cellsD,cellsOf,EK])|own|Bo=>simp[cellsD,cellsOf]
theorem Xb(h:HI v):v.cells= #[v]:=by cases v<;>simp_all [HI,Value.cells]
theorem NA(h:Ok w S new F)(c:(cellsOf new.er).all Gz):new.BJ.cells=((cellsD new).map DV.BJ).toArray:=by cases hd:new with|agg cs=>simp[cellsD,Value.cells]|lf a v=>subst hd;have e:=h.Lq;rw[<- My _ e]at c;simp only[cellsD,AAd,AAv,AA4,List.all_nil,Bool.and_true]at c;have:=Lr h c;simp only[cellsD,AAd,AAv];exact Xb this|own hh b k rows=>subst hd;have:=Lr h (by simp[Gz]);simp only[cellsD,AAd,AAv];exact Xb this|Bo cs=>subst hd;simp[cellsOf,Gz]at c
theorem Oy(h:Ok w S new F):Kl w S (cellsD new) F:=by have b:Kl w S [new] F:=⟨F,λ_=>False,h,λ_ h=>h,λ_ _ h=>h,λx=>ak⟩;cases new with|agg cs=>exact CY.1 h|lf a v|own=>exact b|Bo=>exact b
theorem Jp(a:Act)(d:Nat)(v:jA)(h:d<a.tmps.size)(s:Nat):(a.put (some d) v).tmps.getD s undef=if s=d then v else a.tmps.getD s undef:=by simp only[Act.put,AAb,ABC];grind
def Sl(P:jh)(G:Gi)(w:jm)(S:jc)(Fr:je)(a:Act)(o:Oper)(σ':Sg):Prop:=∃(n:Next)(v:jA)(w':jm)(S':jc)(δ':jv)(F':je),(execOp a.eval o).run P w=.ok n w'/\(n=.value v\/n=.skip/\v=undef)/\Rd δ' (a.put o.dst v)/\(λs=>(δ' s).er)=σ'/\St G w' S' δ' F'/\Nx w S (BZ Fr) w' S' (BZ F')
def JT(G:Gi)(a:Act)(o:Oper)(d:jx):Prop:=match d with|none=>o.dst=none|some d=>o.dst=some d.d/\d.kl=G.QH d.d/\d.rs=G.HR d.d/\d.d<a.tmps.size
theorem LL{e:je}(h:St G w S1 C e)(B:Rd C a)(hd:JT G a o (some d))(E:(execOp a.eval o).run P w=.ok (.value D.BJ) w')(F:∀b,S1 b->w'.heap[b]? =w.heap[b]?)(c:∀s x,e s x->w'.heap[x]? =w.heap[x]?)(q:∀b,S1 b->S' b)(r:∀s x,e s x->¬S' x)(z:Ok w' S' D Ff)(i:∀s x,e s x->¬Ff x)(m:EC C D)(p:wr d D.er (λs=>(C s).er)=some σ')(j:Nx w S (BZ Fr) w' S' (λx=>BZ e x\/Ff x)):Sl P G w S Fr a o σ':=by obtain⟨t,u,v,y⟩:=hd;obtain⟨f,F',g,n,k,l⟩:=h.wr u v F c q r z i m p;refine⟨_,D.BJ,w',S',f,F',E,.inl rfl,?_,n,g,j.trans (Nx.less l)⟩;intro s;rw[t,Jp a d.d D.BJ y s,k s];split;rfl;exact B s
theorem gA{v:AV}(h:St G w S δ Fr)(g:Rd δ a)(hd:JT G a o (some d))(i:Gives P w S δ a o v)(f:wr d v (λs=>(δ s).er)=some σ'):Sl P G w S Fr a o σ':=by obtain⟨u,j,D,rfl,rfl,c,e⟩:=i;exact LL h g hd j (λ_ _=>rfl) (λ_ _ _=>rfl) (λ_ h=>h) (λs x b=>(h.ok s).GF x b) c (λ_ _ _ h=>h) e f (Nx.less λx b=>b.elim id False.elim)
end
section
variable{w w':jm}{S S':jc}{G:Gi}{δ:jv}{Fr:je}{P:jh}
theorem alloc_old(w:jm)(o:Obj)(b:Nat)(h:b<w.heap.size):(w.alloc o).heap[b]? =w.heap[b]? :=by show(w.heap.push o)[b]? =_;grind
theorem gZ(w:jm)(o:Obj):(w.alloc o).heap[w.heap.size]? =some o:=by show(w.heap.push o)[w.heap.size]? =_;simp
theorem Nx.alloc(w:jm)(S U c:jc)(o:Obj)(h:∀x,c x->U x\/x=w.heap.size):Nx w S U (w.alloc o) S c:=⟨rfl,rfl,rfl,ak,λb a _=>alloc_old w o b a,λ_ h=>h,λ_ h=>.inl h,λd b a=>by have:=d b a;simp;omega,λx f=>(h x f).imp id (λe=>ah)⟩
def Nx.KX{w:jm}{S:jc}(h:∀x,F x\/S1 x->U x)(e:∀x,S1 x->x<w.heap.size):Nx w S U w (λx=>S x\/S1 x) F:=⟨rfl,rfl,rfl,AAj _,λ_ _ _=>rfl,λ_ h=>.inl h,λx c=>c.imp id λg=>.inl (h x (.inr g)),λi b f=>f.elim (i b) (e b),λx c=>.inl (h x (.inl c))⟩
theorem runs_mv(h:St G w S δ Fr)(e:Rd δ a)(hd:JT G a o (some d))(l:o.op=.assign x)(k:Cp x y)(c:HT G (.mv y) (some d) (λs=>(δ s).er)=some σ'):Sl P G w S Fr a o σ':=by obtain⟨p,i⟩:=A3 k e;simp only[HT]at c;split at c;rename_i v τ m;obtain⟨q,r,D,Ff,b,g,f,j⟩:=h.tk p m;subst g;subst f;exact LL b.st (λs=>(e s).trans (b.BJ s).symm) hd (by simp[execOp,l,i,j]) (λ_ _=>rfl) (λ_ _ _=>rfl) (λ_ h=>h) (λs x n=>(b.st.ok s).GF x n) b.ok b.Na b.al c (Nx.less b.own);cases c
theorem cQ{j:je}{c:Nat}{Fd:jc}{arr:kg}{E:j7}(h:St G w S C j)(m:∀b,S b->b<w.heap.size)(r:Rd C a)(hd:JT G a o (some d))(F:(execOp a.eval o).run P w=.ok (.value (Kh bx w.heap.size rows.length c)) (w.alloc (.cells arr E)))(i:Kl w S rows.flatten Fd)(z:∀s x,j s x->¬Fd x)(t:∀row∈rows,row.length=k)(q:if bx then rows.length=1/\arr.size=k else c*k=arr.size/\rows.length<=c)(v:∀(n:Nat) d,rows.flatten[n]? =some d->arr[n]? =some d.BJ)(f:wr d (.own bx k (rows.map (·.map DV.er))) (λs=>(C s).er)=some σ')(B:∀x,BZ j x\/Fd x->BZ Fr x):Sl P G w S Fr a o σ':=by
 have p:=(CY.2 i).lt;have l:=(CY.2 i).GF;have hold:∀b,b<w.heap.size->(w.alloc (.cells arr E)).heap[b]? =w.heap[b]? :=λb e=>alloc_old _ _ _ e;have y:Ok (w.alloc (.cells arr E)) S (.own (Kh bx w.heap.size rows.length c) bx k rows) (λx=>x=w.heap.size\/Fd x):=by refine x6 (gZ w _) t q (λu=>aA) ?_ (λu=>aA) v;exact i.mono (λb e=>hold b (m b e)) (λb e=>hold b (p b e)) (λ_ h=>h) l
 refine LL (D:=.own (Kh bx w.heap.size rows.length c) bx k rows) h r hd am (λb e=>hold b (m b e)) (λs x g=>hold x ((h.ok s).lt x g)) (λ_ h=>h) (λs x g=>(h.ok s).GF x g) y ?_ (.own _ _ _ _) am ?_;rintro s x g (rfl|hf);have:=(h.ok s).lt _ g;omega;grind;refine Nx.alloc _ _ _ _ _ ?_;grind
theorem runs_bx(h:St G w S δ Fr)(i:∀b,S b->b<w.heap.size)(r:Rd δ a)(hd:JT G a o (some d))(B:ZI y)(x:(execOp a.eval o).run P w=.ok (.value (.pointer (some ⟨w.heap.size,0,none⟩))) (w.alloc (.cells (Dd δ y).cells t)))(f:HT G (.bx n y) (some d) (λs=>(δ s).er)=some σ'):Sl P G w S Fr a o σ':=by simp only[HT]at f;split at f;(. rename_i v τ z;split at f;(. rename_i l;obtain⟨hn,g⟩:=l;obtain⟨C,F,D,Ff,e,m,j,q⟩:=h.tk B z;subst m;subst j;have u:=My D e.ok.Lq;have H:(cellsD D).length=n:=(by rw[<- hn,<- u];simp);have p:=NA e.ok g;rw[q]at p;refine cQ (bx:=true) (k:=n) (c:=0) (rows:=[cellsD D]) (Fd:=Ff) (arr:=(Dd δ y).cells) (E:=t) e.st i (λs=>(r s).trans (e.BJ s).symm) hd (by rw[x];simp[Kh]) (by simpa using Oy e.ok) e.Na am ?_ ?_ ?_ e.own;all_goals simp_all);cases f);cases f
theorem run_box{P:jh}(t:j7)(v:jA)(w:jm):(Instr.box t v).run P w=.ok (.pointer (some ⟨w.heap.size,0,none⟩)) (w.alloc (.cells v.cells t)):=by simp[Instr.box,newVar,newRow]
theorem run_alloc{P:jh}(t:j7)(i:TypeInfo)(z:jA)(hi:P.info? t=some i)(a:i.zero=some z)(w:jm):(Instr.alloc t true (.tuple #[])).run P w=.ok (.pointer (some ⟨w.heap.size,0,none⟩)) (w.alloc (.cells z.cells t)):=by simp[Instr.alloc,zeroValue,typeInfo,hi,a,newVar,newRow]
theorem ZP(off:Nat)(z:Kl w S l F)(B:Kl w S row U)(hd:∀x,F x->¬U x)(G:off+row.length<=l.length):∃n,Kl w S (l.take off++row++l.drop (off+row.length)) n/\∀x,n x->F x\/U x:=by
 obtain⟨g,q,g2,s,p⟩:=Kr.1 z;obtain⟨Fr,C,D,E,u⟩:=Kr.1 B;have d:∀i,(l.take off++row++l.drop (off+row.length))[i]? =if i<off then l[i]? else if i<off+row.length then row[i-off]? else l[i]? :=by intro i;have j:(l.take off).length=off:=an;by_cases b:i<off;rw[ABO,AAq ah,ABU,AAM b,AAM b];by_cases c:i<off+row.length;rw[AAq an,AAp ah,j,AAL b,AAM c];rw[AAp an,List.getElem?_drop,AAL b,AAL c];congr 1;simp;omega
 refine⟨λx=>∃i,(if i<off then g i x else if i<off+row.length then Fr (i-off) x else g i x),Kr.2 ⟨λi x=>if i<off then g i x else if i<off+row.length then Fr (i-off) x else g i x,?_,?_,?_,λx=>ABb⟩,?_⟩;intro i e f;rw[d]at f;by_cases b:i<off;simp only[b,AAl]at f |-;exact q i e f;by_cases c:i<off+row.length;simp only[b,c,AAl,AAY]at f |-;exact C _ e f;simp only[b,c,AAY]at f |-;exact q i e f
 . intro i t x a k;have out:∀i,g i x->F x:=λi h=>(p x).2 ⟨i,h⟩;have m:∀i,Fr i x->U x:=λi h=>(u x).2 ⟨i,h⟩;by_cases b:i<off<;>by_cases c:t<off<;>by_cases v:i<off+row.length<;>by_cases y:t<off+row.length<;>simp only[b,c,v,y,AAl,AAY]at a k<;>
    first|exact g2 _ _ x a k|exact absurd (m _ k) (hd x (out _ a))|exact absurd (m _ a) (hd x (out _ k))| (have:=D _ _ x a k;omega)|omega
 intro i x a;rw[d];by_cases b:i<off;simp only[b,AAl]at a |-;exact s i x a;by_cases c:i<off+row.length;simp only[b,c,AAl,AAY]at a |-;exact E _ x a;simp only[b,c,AAY]at a |-;exact s i x a;rintro x ⟨i,a⟩;by_cases b:i<off;simp only[b,AAl]at a;exact .inl ((p x).2 ⟨i,a⟩);by_cases c:i<off+row.length;simp only[b,c,AAl,AAY]at a;exact .inr ((u x).2 ⟨_,a⟩);simp only[b,c,AAY]at a;exact .inl ((p x).2 ⟨i,a⟩)
theorem yO(ds r:jz)(off:Nat):(ds.take off++r++ds.drop (off+r.length)).map DV.er=nM (ds.map DV.er) off (r.map DV.er):=by simp[nM,List.map_take,List.map_drop]
theorem fold_set(vs:jw)(off:Nat)(a:kg)(h:off+vs.length<=a.size)(m:Nat):((vs.zipIdx m).foldl (λd (x:Value×Nat)=>d.setIfInBounds (off+x.2) x.1) a).toList=a.toList.take (off+m)++vs++a.toList.drop (off+m+vs.length)\/off+m+vs.length>a.size:=by induction vs generalizing a m with|nil=>left;simp|cons v vs ih=>by_cases e:off+m+(v::vs).length>a.size;omega;left;(simp only[List.zipIdx_cons,List.foldl_cons];have b:=ih (a.setIfInBounds (off+m) v) aA (m+1);simp only[Array.size_setIfInBounds]at b;rcases b with b|b);rw[b];have c:off+m<a.toList.length:=(by simp at e |-;omega);simp only[Array.toList_setIfInBounds];rw[List.take_set,List.drop_set_of_lt ah];rw[show off+(m+1)=off+m+1 from by omega,AAy c,List.set_append_right _ _ an];simp only[ABe,Nat.min_eq_left (Nat.le_of_lt c),Nat.sub_self,List.set_cons_zero,ABO,AA3,ABL,List.nil_append];grind;grind
end
variable{T:nj}{X:List (Nat×Ar)}
section
variable{w w':jm}{S S':jc}{G:Gi}{δ:jv}{Fr:je}{P:jh}
theorem jB(b:ni)(a:jw)(i off n:Nat)(v:jA)(c:List (Nat×Value))(vs:jw)(j:b i=some (off,n))(f:v.cells=vs.toArray)(hn:vs.length=n)(k:off+n<=a.length):Instr.fill b a.toArray ((i,v)::c)=Instr.fill b (a.take off++vs++a.drop (off+vs.length)).toArray c:=by
 have h:(decide (v.cells.size≠n)||decide (off+v.cells.size>a.toArray.size))=false:=by simp[f,hn];omega
 have d:=fold_set vs off a.toArray an 0;simp only[Nat.add_zero]at d;rcases d with d|d
 have:(v.cells.zipIdx.foldl (λg (x:Value×Nat)=>g.setIfInBounds (off+x.2) x.1) a.toArray)=(a.take off++vs++a.drop (off+vs.length)).toArray:=(by apply Array.ext';rw[f,<- d];have e:vs.toArray.zipIdx=vs.zipIdx.toArray:=(by simp);rw[e];simp);simp only[Instr.fill,j,h];simp only[AAR,AAY];exact congrArg (λz=>Instr.fill b z c) this;simp at d;omega
def NC(place:ni):List (Nat×Operand)->List (Nat×Nat×Ar)->Bool|[],[]=>true| (i,x)::qs,(off,n,y)::ps=>(match place i with|some (o',n')=>o'==off&&n'==n|none=>false)&&Cp x y&&NC place qs ps|_,_=>false
theorem St.YC{b:ni}(L:nj):∀(l:List (Nat×Operand)) {δ:jv} {Fr:je} {ds:jz} {Fd:jc} {f:jj} {τ:Sg},St G w S δ Fr->Rd δ a->NC b l L->Kl w S ds Fd->(∀s x,Fr s x->¬Fd x)->(ds.map DV.er).all Gz->Abs.YC G L (ds.map DV.er) (λs=>(δ s).er)=some (f,τ)->∃B F' E J,St G w S B F'/\(λs=>(B s).er)=τ/\(∀s,(B s).BJ=(δ s).BJ)/\Kl w S E J/\E.map DV.er=f/\Instr.fill b (ds.map DV.BJ).toArray (l.map λ(i,x)=>(i,a.eval x))=some (E.map DV.BJ).toArray/\(∀s x,F' s x->¬J x)/\(∀x,BZ F' x\/J x->BZ Fr x\/Fd x)/\f.all Gz:=by induction L with|nil=>(intro l δ Fr ds Fd f τ h P d M K C g;cases l with|cons q l=>simp[NC]at d|nil=>simp only[Abs.YC,AAI,AAZ]at g;obtain⟨rfl,rfl⟩:=g;exact⟨δ,Fr,ds,Fd,h,rfl,λ_=>rfl,M,rfl,by simp[Instr.fill],K,λx m=>m,C⟩)|cons p L ih=>obtain⟨off,n,y⟩:=p;intro l δ Fr ds Fd f τ h P d M K C g;cases l with|nil=>simp[NC]at d|cons q l=>(obtain⟨i,x⟩:=q;simp only[NC,AAH]at d;obtain⟨⟨H,R⟩,Q⟩:=d;have xI:b i=some (off,n):=by split at H;rename_i o' n' YM;simp only[AAH,AAT]at H;rw[YM,H.1,H.2];cases H);obtain⟨hy,Ni⟩:=A3 R P;simp only[Abs.YC]at g;split at g;rename_i v τ1 I;split at g;(rename_i Gh;obtain⟨hn,X,N⟩:=Gh;obtain⟨δ1,F1,D,Ff,e,KY,G7,Wc⟩:=h.tk hy I;subst KY;subst G7;have U:=My D e.ok.Lq;have Z:(cellsD D).length=n:=(by rw[<- hn,<- U];simp);have T1:=NA e.ok N;have T:∀x,Fd x->¬Ff x:=(by intro x m hf;obtain⟨t,I⟩:=e.own x (.inr hf);exact K t x I m);have u:off+(cellsD D).length<=ds.length:=(by rw[Z];simpa using X);obtain⟨F2,fC,qW⟩:=ZP off M (Oy e.ok) T u;have O3:∀s x,F1 s x->¬F2 x:=by(intro s x m h2;rcases qW x h2 with o|o);obtain⟨t,I⟩:=e.own x (.inl ⟨s,m⟩);exact K t x I o;exact e.Na s x m o);(have V:=yO ds (cellsD D) off;have j:((ds.take off++cellsD D++ds.drop (off+(cellsD D).length)).map DV.er).all Gz:=by(rw[AAP]at C N |-;intro c d;simp only[AAu,AAX]at d;rcases d with(d|d)|d);exact C c (by rw[List.map_take]at d;exact List.mem_of_mem_take d);rw[U]at d;exact N c d;exact C c (by rw[List.map_drop]at d;exact List.mem_of_mem_drop d));rw[<- U]at g;rw[<- V]at g;obtain⟨W,F2',E,J,LP,T3,N5,F,Sr,Z5,r,z,k⟩:=ih l e.st (λs=>(P s).trans (e.BJ s).symm) Q fC O3 j g;refine⟨W,F2',E,J,LP,T3,λs=>(N5 s).trans (e.BJ s),F,Sr,?_,r,?_,k⟩;simp only[AAd];rw[jB b (ds.map DV.BJ) i off n (a.eval x) _ ((cellsD D).map DV.BJ) xI (by rw[Ni,<- Wc];exact T1) (by simpa using Z) (by simpa using X)];rw[<- Z5];congr 2;simp[List.map_take,List.map_drop];(intro x m;rcases z x m with o|o);exact .inl (e.own x (.inl o));(rcases qW x o with O|O);exact .inr O;exact .inl (e.own x (.inr O));cases g;cases g
theorem runs_bld(h:St G w S δ Fr)(l:Rd δ a){b:Array (Nat×Operand)}{f:ni}(hd:JT G a o (some d))(L:o.op=.build t b)(N:Zq z=some row)(j:z.all Gz)(p:NC f b.toList T)(M:∀c:Array Value,Instr.fill f (row.map DV.BJ).toArray (b.toList.map λ(i,x)=>(i,a.eval x))=some c->(Instr.build t (b.map λ(i,x)=>(i,a.eval x))).run P w=.ok (.agg c) w)(m:HT G (.To z T) (some d) (λs=>(δ s).er)=some σ'):Sl P G w S Fr a o σ':=by
 have g:row.map DV.er=z/\Kl w S row (λ_=>False):=by have:=Jk (w:=w) (S:=S) (δ:=δ) (.agg z) (.agg row) (by simp[JP,N]);exact⟨by simpa using this.1,CY.1 this.2.1⟩
 simp only[HT]at m;split at m;rename_i R τ y;rw[<- g.1]at y j;obtain⟨Q,F',J,O,v,H,E,B,I,K,C,F,u⟩:=h.YC (a:=a) T b.toList l p g.2 (λ_ _ _ h=>h) j y;subst H;subst I;refine LL (D:=.agg J) (Ff:=O) v (λs=>(l s).trans (E s).symm) hd ?_ (λ_ _=>rfl) (λ_ _ _=>rfl) (λ_ h=>h) (λs x q=>(v.ok s).GF x q) (CY.2 B) C (.agg _ λi e hi=>?_) (by simpa using m) (Nx.less ?_);have:=M _ K;simp only[execOp,L,Sem.run_bind,this,Result.andThen_ok,Sem.run_pure,Ml];exact Th (λa l=>by rw[AAP]at u;exact u a l) e (AAW hi);(intro x q;rcases F x q with n|n);exact n;exact n.elim;cases m
theorem Xf{rows:List (List f)}{r:List f}(b:∀row∈rows,row.length=k)(hi:i<rows.length)(g:r.length=k):(rows.set i r).flatten=rows.flatten.take (i*k)++r++rows.flatten.drop (i*k+r.length):=by induction rows generalizing i with|nil=>simp at hi|cons x xs ih=>have a:=b x ak;cases i with|zero=>simp[g,<- a]|succ i=>simp only[List.set_cons_succ,List.flatten_cons];rw[ih (λrow d=>b row (by simp[d])) (by simpa using hi)];have e:(x++xs.flatten).take ((i+1)*k)=x++xs.flatten.take (i*k):=(by rw[show(i+1)*k=x.length+i*k from by rw[ABh,a];omega,List.take_length_add_append]);have c:(x++xs.flatten).drop ((i+1)*k+r.length)=xs.flatten.drop (i*k+r.length):=(by rw[show(i+1)*k+r.length=x.length+(i*k+r.length)from by rw[ABh,a];omega,List.drop_length_add_append]);rw[e,c];simp[ABO]
def Pe(k:Nat):List (Nat×Operand)->List (Nat×Ar)->Bool|[],[]=>true| (i,x)::qs,(j,y)::ps=>i==j&&Cp x y&&Pe k qs ps|_,_=>false
theorem St.YD(K:List (Nat×Ar)):∀(d:List (Nat×Operand)) {δ:jv} {Fr:je} {ds:jp} {Fd:jc} {rs:jk} {τ:Sg},St G w S δ Fr->Rd δ a->Pe k d K->Kl w S ds.flatten Fd->(∀r∈ds,r.length=k)->(∀s x,Fr s x->¬Fd x)->Abs.YD G k K (ds.map (·.map DV.er)) (λs=>(δ s).er)=some (rs,τ)->∃(u:jv)(F':je)(g:jp)(I:jc),St G w S u F'/\(λs=>(u s).er)=τ/\(∀s,(u s).BJ=(δ s).BJ)/\Kl w S g.flatten I/\(∀r∈g,r.length=k)/\g.length=ds.length/\g.map (·.map DV.er)=rs/\Instr.fill (λi=>some (i*k,k)) (ds.flatten.map DV.BJ).toArray (d.map λ(i,x)=>(i,a.eval x))=some (g.flatten.map DV.BJ).toArray/\(∀s x,F' s x->¬I x)/\(∀x,BZ F' x\/I x->BZ Fr x\/Fd x):=by induction K with|nil=>(intro d δ Fr ds Fd rs τ h N C L z J c;cases d with|cons q d=>simp[Pe]at C|nil=>simp only[Abs.YD,AAI,AAZ]at c;obtain⟨rfl,rfl⟩:=c;exact⟨δ,Fr,ds,Fd,h,rfl,λ_=>rfl,L,z,rfl,rfl,by simp[Instr.fill],J,λx e=>e⟩)|cons p K ih=>obtain⟨j,y⟩:=p;intro d δ Fr ds Fd rs τ h N C L z J c;cases d with|nil=>simp[Pe]at C|cons q d=>obtain⟨i,x⟩:=q;simp only[Pe,AAH,AAT]at C;obtain⟨⟨rfl,P⟩,O⟩:=C;obtain⟨hy,Ni⟩:=A3 P N;simp only[Abs.YD]at c;split at c;rename_i v τ1 H;split at c;(rename_i Gh;obtain⟨hn,hi,IY⟩:=Gh;obtain⟨δ1,X,D,Ff,b,KY,G7,Wc⟩:=h.tk hy H;subst KY;subst G7;have V:=My D b.ok.Lq;have B:(cellsD D).length=k:=(by rw[<- hn,<- V];simp);have T1:=NA b.ok IY;have hi':i<ds.length:=(by simpa using hi);have Q:∀x,Fd x->¬Ff x:=(by intro x e hf;obtain⟨t,H⟩:=b.own x (.inr hf);exact J t x H e);have m:i*k+(cellsD D).length<=ds.flatten.length:=(by rw[ER z,B,<- ABh];exact AA1 _ hi');obtain⟨Z,U,W⟩:=ZP (i*k) L (Oy b.ok) Q m;rw[<- Xf z hi' B]at U;have O3:∀s x,X s x->¬Z x:=by(intro s x e h2;rcases W x h2 with l|l);obtain⟨t,H⟩:=b.own x (.inl ⟨s,e⟩);exact J t x H l;exact b.Na s x e l);(have T5:∀r∈ds.set i (cellsD D),r.length=k:=by(intro r hr;rcases AAw hr with h|rfl);exact z r h;exact B);rw[<- V]at c;rw[<- ABI (f:=λx:List DV=>x.map DV.er)]at c;obtain⟨T,F2',g,I,LP,T3,N5,F,R,E,Sr,Z5,n,o⟩:=ih d b.st (λs=>(N s).trans (b.BJ s).symm) O U T5 O3 c;refine⟨T,F2',g,I,LP,T3,λs=>(N5 s).trans (b.BJ s),F,R,by simpa using E,Sr,?_,n,?_⟩;simp only[AAd];rw[jB _ (ds.flatten.map DV.BJ) i (i*k) k (a.eval x) _ ((cellsD D).map DV.BJ) rfl (by rw[Ni,<- Wc];exact T1) (by simpa using B) (by rw[AAt];rw[B]at m;exact m)];rw[<- Z5,Xf z hi' B];congr 2;simp[List.map_take,List.map_drop];(intro x e;rcases o x e with l|l);exact .inl (b.own x (.inl l));(rcases W x l with M|M);exact .inr M;exact .inl (b.own x (.inr M));cases c;cases c
def cstR:List (List AV)->ABi (List (List DV))|[]=>some []|r::rs=>match Zq r,cstR rs with|some d,some ds=>some (d::ds)|_,_=>none
theorem wN(rs:jk)(ds:jp)(h:cstR rs=some ds):ds.map (·.map DV.er)=rs/\Kl w S ds.flatten (λ_=>False):=by induction rs generalizing ds with|nil=>simp only[cstR,AAI]at h;subst h;exact⟨rfl,λ_ h=>h⟩|cons r rs ih=>simp only[cstR]at h;split at h;rename_i d a c e;obtain rfl:=AAK h;obtain⟨b,g2⟩:=ih a e;have:=Jk (w:=w) (S:=S) (δ:=λ_=>default) (.agg r) (.agg d) (by simp[JP,c]);refine⟨by simp[b];simpa using this.1,?_⟩;simp only[List.flatten_cons];exact(M8 (CY.1 this.2.1) g2 (λ_ h=>h.elim)).congr λx=>ak;cases h
theorem runs_bsl(h:St G w S δ Fr)(Q:∀b,S b->b<w.heap.size)(J:Rd δ a){f:Array (Nat×Operand)}{z:jk}{u:jp}(hd:JT G a o (some d))(H:o.op=.buildSlice t n f)(hz:cstR z=some u)(D:∀r∈z,r.length=k)(F:z.length=n)(B:Pe k f.toList X)(C:∀g:Array Value,Instr.fill (λi=>some (i*k,k)) (u.flatten.map DV.BJ).toArray (f.toList.map λ(i,x)=>(i,a.eval x))=some g->(Instr.buildSlice t n (f.map λ(i,x)=>(i,a.eval x))).run P w=.ok (.slice (some ⟨w.heap.size,0,none⟩) n n) (w.alloc (.cells g e)))(v:HT G (.Ox k z X) (some d) (λs=>(δ s).er)=some σ'):Sl P G w S Fr a o σ':=by
 obtain⟨m,q⟩:=wN (w:=w) (S:=S) z u hz;have p:∀r∈u,r.length=k:=by intro r C;have:=D (r.map DV.er) (by rw[<- m];exact ABP C);simpa using this
 have l:u.length=n:=by rw[<- F,<- m];simp
 simp only[HT]at v;split at v;rename_i rs τ K;rw[<- m]at K;obtain⟨δ',F',I,uL,N,U,R,M,L,j,V,W,O,T⟩:=h.YD (a:=a) X f.toList J B q p (λ_ _ _ h=>h) K;subst U;subst V;refine cQ (bx:=false) (k:=k) (c:=n) (rows:=I) (Fd:=uL) (arr:=(I.flatten.map DV.BJ).toArray) (E:=e) N Q (λs=>(J s).trans (R s).symm) hd ?_ M O L ?_ ?_ v ?_;have:=C _ W;simp only[execOp,H,Sem.run_bind,this,Result.andThen_ok,Sem.run_pure,Kh,AAR,AAY,j,l];simp only[AAR,AAY,List.size_toArray,AAt,ER L,j,l];exact⟨trivial,AAj _⟩;intro len d hn;rw[List.getElem?_toArray,AAU,hn];rfl;(intro x Z;rcases T x Z with y|y);exact y;exact y.elim;cases v
theorem Tt(z:jj)(a:jz)(h:Zq z=some a):a.map DV.er=z/\∀D∈a,Ok w S D (λ_=>False):=by obtain⟨f,g,_⟩:=Jk (w:=w) (S:=S) (δ:=λ_=>.lf .un undef) (.agg z) (.agg a) (by simp[JP,h]);refine⟨by simpa using f,λD j=>?_⟩;obtain⟨b,c,_,_,d⟩:=Kr.1 (CY.1 g);obtain⟨i,hi⟩:=AAk j;have:=c i D hi;have e:b i=λ_=>False:=funext λx=>propext ⟨λk=>(d x).2 ⟨i,k⟩,False.elim⟩;rwa [e]at this
theorem flat_rep(a:List f)(l:Nat):∀n,n<l*a.length->(List.replicate l a).flatten[n]? =a[n%a.length]? :=by induction l with|zero=>intro n h;omega|succ l ih=>intro n h;rw[List.replicate_succ,List.flatten_cons];by_cases hn:n<a.length;rw[AAq hn,Nat.mod_eq_of_lt hn];rw[AAp ah,ih (n-a.length) (by rw[Nat.add_mul,Nat.one_mul]at h;omega),<- Nat.mod_eq_sub_mod ah]
theorem runs_mk(h:St G w S δ Fr)(DP:∀b,S b->b<w.heap.size)(v:Rd δ a){i:TypeInfo}(hd:JT G a o (some d))(ho:o.op=.makeSlice t x s)(hu:P.underlying t=some (.slice e))(hi:P.info? e=some i)(Q:i.zero=some zv)(T:i.size=k)(C:i.bytes=n)(B:0<n)(uD:0<k)(N:Zq z=some row)(q:zv.cells.toList=row.map DV.BJ)(O:z.length=k)(I:Cp x y)(J:Cp s j)(Z:HT G (.mk k n z y j) (some d) (λX=>(δ X).er)=some σ'):Sl P G w S Fr a o σ':=by obtain⟨M,ex⟩:=A3 I v;obtain⟨hy,ey⟩:=A3 J v;simp only[HT]at Z;split at Z;rename_i l c K F;split at Z;rename_i Gh;obtain⟨h0,TQ,Q9⟩:=Gh;obtain⟨kl,K⟩:=Pb K;obtain⟨kc,F⟩:=Pb F;obtain⟨el,_⟩:=h.Fv M K;obtain⟨ec,_⟩:=h.Fv hy F;have hr:c.toNat*n<=70368744177664:=(by simpa[Ap]using Q9);have H:(c.toNat:Int)=c:=Int.toNat_of_nonneg ah;have U:c.toNat<=c.toNat*n:=Nat.le_mul_of_pos_right _ B;have f:row.length=k:=(by have:=congrArg List.length (Tt (w:=w) (S:=S) z row N).1;rw[AAt]at this;rw[this,O]);have DJ:=run_make (P:=P) w t e i zv hu hi Q kl kc l c h0 TQ (by rw[C,<- H];have:(n:Int)*(c.toNat:Int)=((c.toNat*n:Nat):Int):=(by rw[ABN];simp);rw[this];omega) ah;have r:zv.cells.size=k:=(by have:=congrArg List.length q;simp only[AAt,f]at this;simpa using this);have R:(List.replicate l.toNat row).length=l.toNat:=ak;refine cQ (bx:=false) (k:=k) (c:=c.toNat) (rows:=List.replicate l.toNat row) (Fd:=λ_=>False) (arr:=madeCells zv.cells (c.toNat*i.size)) (E:=e) h DP v hd ?_ ?_ (λ_ _ _ h=>h) ?_ ?_ ?_ ?_ (λx M=>M.elim id False.elim);simp only[execOp,ho,ex,ey,el,ec,Sem.run_bind,DJ,Result.andThen_ok,Sem.run_pure,Kh,AAR,AAY,R];refine C5 λD hD=>?_;obtain⟨g,u,m⟩:=List.mem_flatten.1 hD;rw[List.eq_of_mem_replicate u]at m;exact(Tt z row N).2 D m;intro g u;rw[List.eq_of_mem_replicate u,f];simp only[AAR,AAY,size_madeCells,T,R];exact⟨trivial,ah⟩;intro bytes D hn;have p:bytes<l.toNat*row.length:=(by have:=(AAJ.1 hn).1;simpa using this);rw[flat_rep row l.toNat bytes p]at hn;have V:l.toNat*k<=c.toNat*k:=AA1 _ ah;have L:bytes<c.toNat*i.size:=(by rw[T];rw[f]at p;omega);have W:bytes%k<k:=Nat.mod_lt _ uD;rw[f]at hn;have CF:zv.cells[bytes%k]? =some D.BJ:=(by rw[<- Array.getElem?_toList,q,AAU,hn];rfl);simp only[madeCells,Array.getElem?_map,Array.getElem?_range,AAM L,AAr,r];rw[getElem!_def,CF];have:(List.replicate l.toNat row).map (·.map DV.er)=List.replicate l.toNat z:=(by rw[List.map_replicate,(Tt (w:=w) (S:=S) z row N).1]);rw[this];exact Z;cases Z;cases Z
end
end Go.Abs
