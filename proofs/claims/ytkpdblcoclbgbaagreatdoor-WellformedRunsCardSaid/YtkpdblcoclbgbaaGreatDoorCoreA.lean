/- A calculus of abstract states of Go memory, and that it is sound. -/
import Derived.Orders
import Derived.Deep.LoopGhost
import Derived.Laws.Cells
import Derived.Laws.Small
import Derived.Laws.AppendOwn
import Derived.Laws.CopyRow
import Derived.Laws.StructEq
set_option linter.unusedSimpArgs false
set_option linter.unusedVariables false
namespace Go.Abs
abbrev Step:=Nat×Nat×Nat
inductive AV where
 |sc (v:Value)
 |sl (x:Bool) (k:Nat) (rows:List (List AV))
 |own (b:Bool) (k:Nat) (rows:List (List AV))
 |agg (cs:List AV)
 |A9 (cs:List AV)
 |al (r:Nat) (p:List Step)
 |HX (r:Nat) (p:List Step) (i j k:Nat)
 |fp (cs:List AV)
 |dead
 |un
 |cl (f:Nat) (rs:List (Nat×List Step))
 |vb (s off:Nat) (us:List Value)
 |Wn (f:Nat) (css:List (List AV))
 deriving Inhabited
abbrev Sg:=Nat->AV
def DF {α:Type} (σ:Nat->α) (d:Nat) (v:α):Nat->α:=λs=>if s=d then v else σ s
theorem A8 {α:Type} (σ:Nat->α) (d:Nat) (v:α):DF σ d v d=v:=by simp[DF]
theorem BK {α:Type} (σ:Nat->α) {d s:Nat} (v:α) (h:s≠d):DF σ d v s=σ s:=by simp[DF,h]
def sub:AV->List Step->Option AV
 |a,[]=>some a
 | .own _ _ rows,(i,j,_)::p=>match rows[i]? with
  |some row=>match row[j]? with
   |some c=>sub c p
   |none=>none
  |none=>none
 | .agg cs,(_,j,_)::p=>match cs[j]? with
  |some c=>sub c p
  |none=>none
 | .A9 cs,(_,j,_)::p=>match cs[j]? with
  |some c=>sub c p
  |none=>none
 |_,_::_=>none
def put:AV->List Step->AV->Option AV
 |_,[],x=>some x
 | .own b k rows,(i,j,_)::p,x=>match rows[i]? with
  |some row=>match row[j]? with
   |some c=>match put c p x with
    |some c'=>some (.own b k (rows.set i (row.set j c')))
    |none=>none
   |none=>none
  |none=>none
 | .agg cs,(_,j,_)::p,x=>match cs[j]? with
  |some c=>match put c p x with
   |some c'=>some (.agg (cs.set j c'))
   |none=>none
  |none=>none
 | .A9 cs,(_,j,_)::p,x=>match cs[j]? with
  |some c=>match put c p x with
   |some c'=>some (.A9 (cs.set j c'))
   |none=>none
  |none=>none
 |_,_::_,_=>none
inductive DV where
 |lf (a:AV) (v:Value)
 |own (h:Value) (b:Bool) (k:Nat) (rows:List (List DV))
 |agg (cs:List DV)
 |A9 (cs:List DV)
 deriving Inhabited
mutual
def DV.er:DV->AV
 | .lf a _=>a
 | .own _ b k rows=>.own b k (erR rows)
 | .agg cs=>.agg (tY cs)
 | .A9 cs=>.A9 (tY cs)
def tY:List DV->List AV
 |[]=>[]
 |d::r=>d.er::tY r
def erR:List (List DV)->List (List AV)
 |[]=>[]
 |d::r=>tY d::erR r
end
theorem Wm (l:List DV):tY l=l.map DV.er:=by
 induction l with
 |nil=>rfl
 |cons d r ih=>simp[tY,ih]
theorem rR (l:List (List DV)):erR l=l.map (·.map DV.er):=by
 induction l with
 |nil=>rfl
 |cons d r ih=>simp[erR,ih,Wm]
mutual
def DV.Al:DV->Value
 | .lf _ v=>v
 | .own h _ _ _=>h
 | .agg cs=>.agg (aI cs).toArray
 | .A9 cs=>.tuple (aI cs).toArray
def aI:List DV->List Value
 |[]=>[]
 |d::r=>d.Al::aI r
end
theorem Xb (l:List DV):aI l=l.map DV.Al:=by
 induction l with
 |nil=>rfl
 |cons d r ih=>simp[aI,ih]
@[simp]theorem Dj (a:AV) (v:Value):(DV.lf a v).er=a:=by simp[DV.er]
@[simp]theorem DL (h:Value) (b:Bool) (k:Nat) (rows:List (List DV)):(DV.own h b k rows).er= .own b k (rows.map (·.map DV.er)):=by simp[DV.er,rR]
@[simp]theorem E1 (cs:List DV):(DV.agg cs).er= .agg (cs.map DV.er):=by simp[DV.er,Wm]
@[simp]theorem Gh (cs:List DV):(DV.A9 cs).er= .A9 (cs.map DV.er):=by simp[DV.er,Wm]
@[simp]theorem Hk (a:AV) (v:Value):(DV.lf a v).Al=v:=by simp[DV.Al]
@[simp]theorem Hs (h:Value) (b:Bool) (k:Nat) (rows:List (List DV)):(DV.own h b k rows).Al=h:=by simp[DV.Al]
@[simp]theorem G0 (cs:List DV):(DV.agg cs).Al= .agg (cs.map DV.Al).toArray:=by simp[DV.Al,Xb]
@[simp]theorem Ht (cs:List DV):(DV.A9 cs).Al= .tuple (cs.map DV.Al).toArray:=by simp[DV.Al,Xb]
def Ai:DV->List Step->Option DV
 |a,[]=>some a
 | .own _ _ _ rows,(i,j,_)::p=>match rows[i]? with
  |some row=>match row[j]? with
   |some c=>Ai c p
   |none=>none
  |none=>none
 | .agg cs,(_,j,_)::p=>match cs[j]? with
  |some c=>Ai c p
  |none=>none
 | .A9 cs,(_,j,_)::p=>match cs[j]? with
  |some c=>Ai c p
  |none=>none
 |_,_::_=>none
def DA:DV->List Step->DV->Option DV
 |_,[],x=>some x
 | .own h b k rows,(i,j,_)::p,x=>match rows[i]? with
  |some row=>match row[j]? with
   |some c=>match DA c p x with
    |some c'=>some (.own h b k (rows.set i (row.set j c')))
    |none=>none
   |none=>none
  |none=>none
 | .agg cs,(_,j,_)::p,x=>match cs[j]? with
  |some c=>match DA c p x with
   |some c'=>some (.agg (cs.set j c'))
   |none=>none
  |none=>none
 | .A9 cs,(_,j,_)::p,x=>match cs[j]? with
  |some c=>match DA c p x with
   |some c'=>some (.A9 (cs.set j c'))
   |none=>none
  |none=>none
 |_,_::_,_=>none
def CB:AV->Bool
 | .own .. | .agg _| .A9 _=>false
 |_=>true
inductive Sc:DV->Prop
 |lf (a v) (h:CB a=true):Sc (.lf a v)
 |own (h b k rows) (hr:∀(i j:Nat) row d,rows[i]? =some row->row[j]? =some d->Sc d):Sc (.own h b k rows)
 |agg (cs) (hr:∀(i:Nat) d,cs[i]? =some d->Sc d):Sc (.agg cs)
 |A9 (cs) (hr:∀(i:Nat) d,cs[i]? =some d->Sc d):Sc (.A9 cs)
theorem Sc.Ai {d x:DV} {p:List Step} (h:Sc d) (hs:Ai d p=some x):Sc x:=by
 induction p generalizing d with
 |nil=>simp only[Abs.Ai,Option.some.injEq]at hs;exact hs▸h
 |cons s p ih=>
  obtain⟨i,j,k⟩:=s
  cases h with
  |lf a v h=>simp[Abs.Ai]at hs
  |own hh b k' rows hr=>
   simp only[Abs.Ai]at hs
   split at hs
   . split at hs
     . rename_i row hrow _ c hc;exact ih (hr i j row c hrow hc) hs
     . cases hs
   . cases hs
  |agg cs hr=>
   simp only[Abs.Ai]at hs
   split at hs
   . rename_i c hc;exact ih (hr j c hc) hs
   . cases hs
  |A9 cs hr=>
   simp only[Abs.Ai]at hs
   split at hs
   . rename_i c hc;exact ih (hr j c hc) hs
   . cases hs
theorem Cy {d:DV} {p:List Step} {a:AV} (h:Sc d) (hs:sub d.er p=some a):∃x,Ai d p=some x/\x.er=a:=by
 induction p generalizing d with
 |nil=>simp only[sub,Option.some.injEq]at hs;exact⟨d,rfl,hs⟩
 |cons s p ih=>
  obtain⟨i,j,k⟩:=s
  cases h with
  |lf b v h=>cases b<;>simp_all [sub,CB]
  |own hh b k' rows hr=>
   simp only[DL,sub,List.getElem?_map]at hs
   cases hi:rows[i]? with
   |none=>simp[hi]at hs
   |some row=>
    simp only[hi,Option.map_some,List.getElem?_map]at hs
    cases hj:row[j]? with
    |none=>simp[hj]at hs
    |some c=>
     simp only[hj,Option.map_some]at hs
     obtain⟨x,hx,he⟩:=ih (hr i j row c hi hj) hs
     exact⟨x,by simp[Ai,hi,hj,hx],he⟩
  |agg cs hr=>
   simp only[E1,sub,List.getElem?_map]at hs
   cases hj:cs[j]? with
   |none=>simp[hj]at hs
   |some c=>
    simp only[hj,Option.map_some]at hs
    obtain⟨x,hx,he⟩:=ih (hr j c hj) hs
    exact⟨x,by simp[Ai,hj,hx],he⟩
  |A9 cs hr=>
   simp only[Gh,sub,List.getElem?_map]at hs
   cases hj:cs[j]? with
   |none=>simp[hj]at hs
   |some c=>
    simp only[hj,Option.map_some]at hs
    obtain⟨x,hx,he⟩:=ih (hr j c hj) hs
    exact⟨x,by simp[Ai,hj,hx],he⟩
theorem Gu {d:DV} {p:List Step} {a:AV} (x:DV) (h:Sc d) (hs:put d.er p x.er=some a):∃t,DA d p x=some t/\t.er=a:=by
 induction p generalizing d a with
 |nil=>simp only[put,Option.some.injEq]at hs;exact⟨x,rfl,hs⟩
 |cons s p ih=>
  obtain⟨i,j,k⟩:=s
  cases h with
  |lf b v h=>cases b<;>simp_all [put,CB]
  |own hh b k' rows hr=>
   simp only[DL,put,List.getElem?_map]at hs
   cases hi:rows[i]? with
   |none=>simp[hi]at hs
   |some row=>
    simp only[hi,Option.map_some,List.getElem?_map]at hs
    cases hj:row[j]? with
    |none=>simp[hj]at hs
    |some c=>
     simp only[hj,Option.map_some]at hs
     cases hp:put c.er p x.er with
     |none=>simp[hp]at hs
     |some c'=>
      simp only[hp,Option.some.injEq]at hs
      obtain⟨t,ht,he⟩:=ih (hr i j row c hi hj) hp
      refine⟨.own hh b k' (rows.set i (row.set j t)),by simp[DA,hi,hj,ht],?_⟩
      rw[← hs,← he]
      simp[List.map_set]
  |agg cs hr=>
   simp only[E1,put,List.getElem?_map]at hs
   cases hj:cs[j]? with
   |none=>simp[hj]at hs
   |some c=>
    simp only[hj,Option.map_some]at hs
    cases hp:put c.er p x.er with
    |none=>simp[hp]at hs
    |some c'=>
     simp only[hp,Option.some.injEq]at hs
     obtain⟨t,ht,he⟩:=ih (hr j c hj) hp
     refine⟨.agg (cs.set j t),by simp[DA,hj,ht],?_⟩
     rw[← hs,← he]
     simp[List.map_set]
  |A9 cs hr=>
   simp only[Gh,put,List.getElem?_map]at hs
   cases hj:cs[j]? with
   |none=>simp[hj]at hs
   |some c=>
    simp only[hj,Option.map_some]at hs
    cases hp:put c.er p x.er with
    |none=>simp[hp]at hs
    |some c'=>
     simp only[hp,Option.some.injEq]at hs
     obtain⟨t,ht,he⟩:=ih (hr j c hj) hp
     refine⟨.A9 (cs.set j t),by simp[DA,hj,ht],?_⟩
     rw[← hs,← he]
     simp[List.map_set]
end Go.Abs
namespace Go.Abs
def EO:Value->Bool
 | .agg _| .tuple _=>false
 |_=>true
def Gs (bx:Bool) (b n c:Nat):Value:=if bx then .pointer (some ⟨b,0,none⟩)else .slice (some ⟨b,0,none⟩) n c
inductive Fz (w:World) (S:Nat->Prop):AV->Value->Prop
 |sc (v:Value) (hp:EO v=true):Fz w S (.sc v) v
 |dead (v:Value):Fz w S .dead v
 |nil (x:Bool) (k:Nat) (a:Option Addr) (c:Nat) (hx:x=true->c=0):Fz w S (.sl x k []) (.slice a 0 c)
 |sl (x:Bool) (k:Nat) (rows:List (List AV)) (b off c:Nat) (vs:Nat->Nat->Value) (hx:x=true->c=rows.length) (hlc:rows.length≤c) (hS:S b)
  (hk:∀row∈rows,row.length=k)
  (hc:∀i j row a,rows[i]? =some row->row[j]? =some a->w.cell? ⟨b,off+(i*k+j),none⟩=some (vs i j))
  (hr:∀i j row a,rows[i]? =some row->row[j]? =some a->Fz w S a (vs i j)):Fz w S (.sl x k rows) (.slice (some ⟨b,off,none⟩) rows.length c)
 |agg (cs:List AV) (vs:List Value) (hs:vs.length=cs.length) (h:∀(i:Nat) a v,cs[i]? =some a->vs[i]? =some v->Fz w S a v):Fz w S (.agg cs) (.agg vs.toArray)
 |A9 (cs:List AV) (vs:List Value) (hs:vs.length=cs.length) (h:∀(i:Nat) a v,cs[i]? =some a->vs[i]? =some v->Fz w S a v):Fz w S (.A9 cs) (.tuple vs.toArray)
theorem Fz.mono {w w':World} {S S':Nat->Prop} {a:AV} {v:Value} (h:Fz w S a v) (hw:∀b,S b->w'.heap[b]? =w.heap[b]?) (hS:∀b,S b->S' b):Fz w' S' a v:=by
 induction h with
 |sc v hp=>exact .sc v hp
 |dead v=>exact .dead v
 |nil x k a c hx=>exact .nil x k a c hx
 |sl x k rows b off c vs hx hlc hb hk hc hr ih=>
  refine .sl x k rows b off c vs hx hlc (hS b hb) hk (λi j row a h1 h2=> ?_) (λi j row a h1 h2=>ih i j row a h1 h2)
  rw[← hc i j row a h1 h2]
  simp only[World.cell?,hw b hb]
 |agg cs vs hs h ih=>exact .agg cs vs hs ih
 |A9 cs vs hs h ih=>exact .A9 cs vs hs ih
def Z7 (w:World) (S:Nat->Prop) (cs:List AV) (v:Value):Prop:=∃b off,v= .pointer (some ⟨b,off,none⟩)/\S b/\∀(j:Nat) a,cs[j]? =some a->∃u,w.cell? ⟨b,off+j,none⟩=some u/\Fz w S a u
theorem Z7.mono {w w':World} {S S':Nat->Prop} {cs:List AV} {v:Value} (h:Z7 w S cs v) (hw:∀b,S b->w'.heap[b]? =w.heap[b]?) (hS:∀b,S b->S' b):Z7 w' S' cs v:=by
 obtain⟨b,off,rfl,hb,hc⟩:=h
 refine⟨b,off,rfl,hS b hb,λj a hj=> ?_⟩
 obtain⟨u,hu,hf⟩:=hc j a hj
 refine⟨u,?_,hf.mono hw hS⟩
 rw[← hu]
 simp only[World.cell?,hw b hb]
def FG (w:World) (S:Nat->Prop):AV->Value->Prop
 | .sc u,v=>v=u/\EO u=true
 | .sl x k rows,v=>Fz w S (.sl x k rows) v
 | .fp cs,v=>∃b off,v= .pointer (some ⟨b,off,none⟩)/\S b/\∀(j:Nat) a,cs[j]? =some a->∃u,w.cell? ⟨b,off+j,none⟩=some u/\Fz w S a u
 | .un,v=>v=undef
 | .al ..,_=>True
 | .HX ..,_=>True
 | .dead,_=>True
 | .cl ..,_=>True
 | .Wn f css,v=>∃vs:List Value,v= .func (.func f) #[] vs.toArray/\vs.length=css.length/\∀(i:Nat) cs u,css[i]? =some cs->vs[i]? =some u->Z7 w S cs u
 | .vb _ off us,v=>∃b,v= .pointer (some ⟨b,off,none⟩)/\S b/\∀(j:Nat) u,us[j]? =some u->w.cell? ⟨b,j,none⟩=some u
 |_,_=>False
theorem FG.CB {w:World} {S:Nat->Prop} {a:AV} {v:Value} (h:FG w S a v):CB a=true:=by
 cases a<;>simp_all [FG,Abs.CB]
theorem FG.mono {w w':World} {S S':Nat->Prop} {a:AV} {v:Value} (h:FG w S a v) (hw:∀b,S b->w'.heap[b]? =w.heap[b]?) (hS:∀b,S b->S' b):FG w' S' a v:=by
 cases a with
 |sl x k rows=>exact Fz.mono h hw hS
 |fp cs=>
  obtain⟨b,off,rfl,hb,hc⟩:=h
  refine⟨b,off,rfl,hS b hb,λj a hj=> ?_⟩
  obtain⟨u,hu,hf⟩:=hc j a hj
  refine⟨u,?_,hf.mono hw hS⟩
  rw[← hu]
  simp only[World.cell?,hw b hb]
 |sc u=>exact h
 |own=>exact h
 |agg=>exact h
 |A9=>exact h
 |al=>exact h
 |HX=>exact h
 |dead=>exact h
 |un=>exact h
 |cl=>exact h
 |Wn f css=>
  obtain⟨vs,h1,h2,h3⟩:=h
  exact⟨vs,h1,h2,λi cs u hi hu=>(h3 i cs u hi hu).mono hw hS⟩
 |vb s off us=>
  obtain⟨b,rfl,hb,hc⟩:=h
  refine⟨b,rfl,hS b hb,λj u hj=> ?_⟩
  rw[← hc j u hj]
  simp only[World.cell?,hw b hb]
inductive Ok (w:World) (S:Nat->Prop):DV->(Nat->Prop)->Prop
 |lf (a:AV) (v:Value) (F:Nat->Prop) (ha:FG w S a v) (hF:∀x,¬F x):Ok w S (.lf a v) F
 |nil (k:Nat) (F:Nat->Prop) (hF:∀x,¬F x):Ok w S (.own (.slice none 0 0) false k []) F
 |own (bx:Bool) (k:Nat) (rows:List (List DV)) (b c:Nat) (arr:Array Value) (E:TypeId) (Fs:Nat->Nat->Nat->Prop) (F:Nat->Prop)
  (hb:w.heap[b]? =some (.cells arr E (0,0))) (hk:∀row∈rows,row.length=k)
  (hcap:if bx then rows.length=1/\arr.size=k else c*k=arr.size/\rows.length≤c) (hS:¬S b)
  (hv:∀(i j:Nat) row d,rows[i]? =some row->row[j]? =some d->arr[i*k+j]? =some d.Al)
  (hr:∀(i j:Nat) row d,rows[i]? =some row->row[j]? =some d->Ok w S d (Fs i j))
  (hd:∀i j i' j' x,Fs i j x->Fs i' j' x->i=i'/\j=j')
  (hval:∀i j x,Fs i j x->∃row d,rows[i]? =some row/\row[j]? =some d) (hbF:∀i j,¬Fs i j b)
  (hF:∀x,F x↔x=b∨∃i j,Fs i j x):Ok w S (.own (Gs bx b rows.length c) bx k rows) F
 |agg (cs:List DV) (Fs:Nat->Nat->Prop) (F:Nat->Prop) (hr:∀(i:Nat) d,cs[i]? =some d->Ok w S d (Fs i))
  (hd:∀i i' x,Fs i x->Fs i' x->i=i') (hval:∀i x,Fs i x->∃d,cs[i]? =some d) (hF:∀x,F x↔∃i,Fs i x):Ok w S (.agg cs) F
 |A9 (cs:List DV) (Fs:Nat->Nat->Prop) (F:Nat->Prop) (hr:∀(i:Nat) d,cs[i]? =some d->Ok w S d (Fs i))
  (hd:∀i i' x,Fs i x->Fs i' x->i=i') (hval:∀i x,Fs i x->∃d,cs[i]? =some d) (hF:∀x,F x↔∃i,Fs i x):Ok w S (.A9 cs) F
variable {w w':World} {S S':Nat->Prop} {d:DV} {F F':Nat->Prop}
theorem Ok.Hw (h:Ok w S d F):Sc d:=by
 induction h with
 |lf a v F ha hF=>exact .lf a v ha.CB
 |nil k F hF=>exact .own _ _ _ _ (by simp)
 |own bx k rows b c arr E Fs F hb hk hcap hS hv hr hd hval hbF hF ih=>exact .own _ _ _ _ ih
 |agg cs Fs F hr hd hval hF ih=>exact .agg cs ih
 |A9 cs Fs F hr hd hval hF ih=>exact .A9 cs ih
theorem Ok.D6 (h:Ok w S d F):∀x,F x->¬S x:=by
 induction h with
 |lf a v F ha hF=>exactλx hx=>absurd hx (hF x)
 |nil k F hF=>exactλx hx=>absurd hx (hF x)
 |own bx k rows b c arr E Fs F hb hk hcap hS hv hr hd hval hbF hF ih=>
  intro x hx
  rcases(hF x).1 hx with rfl|⟨i,j,h⟩
  . exact hS
  . obtain⟨row,d,h1,h2⟩:=hval i j x h
    exact ih i j row d h1 h2 x h
 |agg cs Fs F hr hd hval hF ih=>
  intro x hx
  obtain⟨i,h⟩:=(hF x).1 hx
  obtain⟨d,h1⟩:=hval i x h
  exact ih i d h1 x h
 |A9 cs Fs F hr hd hval hF ih=>
  intro x hx
  obtain⟨i,h⟩:=(hF x).1 hx
  obtain⟨d,h1⟩:=hval i x h
  exact ih i d h1 x h
theorem Ok.lt (h:Ok w S d F):∀x,F x->x<w.heap.size:=by
 induction h with
 |lf a v F ha hF=>exactλx hx=>absurd hx (hF x)
 |nil k F hF=>exactλx hx=>absurd hx (hF x)
 |own bx k rows b c arr E Fs F hb hk hcap hS hv hr hd hval hbF hF ih=>
  intro x hx
  rcases(hF x).1 hx with rfl|⟨i,j,h⟩
  . exact(Array.getElem?_eq_some_iff.1 hb).1
  . obtain⟨row,d,h1,h2⟩:=hval i j x h
    exact ih i j row d h1 h2 x h
 |agg cs Fs F hr hd hval hF ih=>
  intro x hx
  obtain⟨i,h⟩:=(hF x).1 hx
  obtain⟨d,h1⟩:=hval i x h
  exact ih i d h1 x h
 |A9 cs Fs F hr hd hval hF ih=>
  intro x hx
  obtain⟨i,h⟩:=(hF x).1 hx
  obtain⟨d,h1⟩:=hval i x h
  exact ih i d h1 x h
theorem Ok.congr (h:Ok w S d F) (hF':∀x,F' x↔F x):Ok w S d F':=by
 have:F'=F:=funext λx=>propext (hF' x)
 exact this▸h
theorem Ok.mono (h:Ok w S d F) (hw:∀b,S b->w'.heap[b]? =w.heap[b]?) (hf:∀b,F b->w'.heap[b]? =w.heap[b]?) (hS:∀b,S b->S' b) (hn:∀x,F x->¬S' x):Ok w' S' d F:=by
 induction h with
 |lf a v F ha hF=>exact .lf a v F (ha.mono hw hS) hF
 |nil k F hF=>exact .nil k F hF
 |own bx k rows b c arr E Fs F hb hk hcap hSb hv hr hd hval hbF hF ih=>
  refine .own bx k rows b c arr E Fs F ?_ hk hcap (hn b ((hF b).2 (.inl rfl))) hv (λi j row d h1 h2=>ih i j row d h1 h2 ?_ ?_) hd hval hbF hF
  . rw[hf b ((hF b).2 (.inl rfl))];exact hb
  . exactλx hx=>hf x ((hF x).2 (.inr ⟨i,j,hx⟩))
  . exactλx hx=>hn x ((hF x).2 (.inr ⟨i,j,hx⟩))
 |agg cs Fs F hr hd hval hF ih=>
  exact .agg cs Fs F (λi d h1=>ih i d h1 (λx hx=>hf x ((hF x).2 ⟨i,hx⟩)) (λx hx=>hn x ((hF x).2 ⟨i,hx⟩))) hd hval hF
 |A9 cs Fs F hr hd hval hF ih=>
  exact .A9 cs Fs F (λi d h1=>ih i d h1 (λx hx=>hf x ((hF x).2 ⟨i,hx⟩)) (λx hx=>hn x ((hF x).2 ⟨i,hx⟩))) hd hval hF
theorem Ok.Ai {x:DV} {p:List Step} (h:Ok w S d F) (hs:Ai d p=some x):∃F',Ok w S x F'/\∀y,F' y->F y:=by
 induction p generalizing d F with
 |nil=>simp only[Abs.Ai,Option.some.injEq]at hs;exact⟨F,hs▸h,λ_ h=>h⟩
 |cons s p ih=>
  obtain⟨i,j,k⟩:=s
  cases h with
  |lf a v _ ha hF=>simp[Abs.Ai]at hs
  |nil k _ hF=>simp[Abs.Ai]at hs
  |own bx k rows b c arr E Fs _ hb hk hcap hSb hv hr hd hval hbF hF=>
   simp only[Abs.Ai]at hs
   split at hs
   . split at hs
     . rename_i row hrow _ e he
       obtain⟨F',h1,h2⟩:=ih (hr i j row e hrow he) hs
       exact⟨F',h1,λy hy=>(hF y).2 (.inr ⟨i,j,h2 y hy⟩)⟩
     . cases hs
   . cases hs
  |agg cs Fs _ hr hd hval hF=>
   simp only[Abs.Ai]at hs
   split at hs
   . rename_i e he
     obtain⟨F',h1,h2⟩:=ih (hr j e he) hs
     exact⟨F',h1,λy hy=>(hF y).2 ⟨j,h2 y hy⟩⟩
   . cases hs
  |A9 cs Fs _ hr hd hval hF=>
   simp only[Abs.Ai]at hs
   split at hs
   . rename_i e he
     obtain⟨F',h1,h2⟩:=ih (hr j e he) hs
     exact⟨F',h1,λy hy=>(hF y).2 ⟨j,h2 y hy⟩⟩
   . cases hs
mutual
def Gj:AV->AV
 | .own false k rows=>.sl false k (LO rows)
 | .own true _ _=>.dead
 | .agg cs=>.agg (SA cs)
 | .A9 cs=>.A9 (SA cs)
 | .sc v=>.sc v
 | .sl x k rows=>.sl x k rows
 |_=>.dead
def SA:List AV->List AV
 |[]=>[]
 |a::r=>Gj a::SA r
def LO:List (List AV)->List (List AV)
 |[]=>[]
 |a::r=>SA a::LO r
end
theorem Pu (l:List AV):SA l=l.map Gj:=by
 induction l with
 |nil=>rfl
 |cons d r ih=>simp[SA,ih]
theorem Pv (l:List (List AV)):LO l=l.map (·.map Gj):=by
 induction l with
 |nil=>rfl
 |cons d r ih=>simp[LO,ih,Pu]
@[simp]theorem JL (k:Nat) (rows:List (List AV)):Gj (.own false k rows)= .sl false k (rows.map (·.map Gj)):=by simp[Gj,Pv]
@[simp]theorem Xm (k:Nat) (rows:List (List AV)):Gj (.own true k rows)= .dead:=by simp[Gj]
@[simp]theorem Xl (cs:List AV):Gj (.agg cs)= .agg (cs.map Gj):=by simp[Gj,Pu]
@[simp]theorem Xn (cs:List AV):Gj (.A9 cs)= .A9 (cs.map Gj):=by simp[Gj,Pu]
@[simp]theorem frz_sc (v:Value):Gj (.sc v)= .sc v:=by simp[Gj]
@[simp]theorem cQ (x:Bool) (k:Nat) (rows:List (List AV)):Gj (.sl x k rows)= .sl x k rows:=by simp[Gj]
theorem cP {a:AV} {v:Value} (h:FG w S a v):Fz w S (Gj a) v:=by
 cases a with
 |sc u=>obtain⟨rfl,hp⟩:=h;simpa using Fz.sc v hp
 |sl x k rows=>rw[cQ];exact h
 |_=>first|exact h.elim| (simp only[Gj];exact .dead v)
theorem Ok.freeze (h:Ok w S d F):Fz w (λx=>S x∨F x) (Gj d.er) d.Al:=by
 induction h with
 |lf a v F ha hF=>
  simp only[Dj,Hk]
  exact(cP ha).mono (λ_ _=>rfl) (λ_ h=>.inl h)
 |nil k F hF=>simpa using Fz.nil false k none 0 (by simp)
 |own bx k rows b c arr E Fs F hb hk hcap hSb hv hr hd hval hbF hF ih=>
  cases bx with
  |true=>simp only[DL,Xm];exact .dead _
  |false=>
   simp only[DL,JL,Hs,Gs,List.map_map]
   have hlen:((rows.map ((λx=>x.map Gj) ∘ λx=>x.map DV.er))).length=rows.length:=by simp
   rw[show(Value.slice (some ⟨b,0,none⟩) rows.length c)=Value.slice (some ⟨b,0,none⟩) (rows.map ((λx=>x.map Gj) ∘ λx=>x.map DV.er)).length c from by rw[hlen]]
   refine Fz.sl false k _ b 0 c (λi j=>(arr[i*k+j]?).getD undef) (by simp) (by rw[hlen];simp at hcap;exact hcap.2) (.inr ((hF b).2 (.inl rfl))) ?_ ?_ ?_
   . intro row hrow
     obtain⟨r0,h0,rfl⟩:=List.mem_map.1 hrow
     simpa using hk r0 h0
   . intro i j row a h1 h2
     simp only[List.getElem?_map,Option.map_eq_some_iff]at h1
     obtain⟨r0,h0,rfl⟩:=h1
     simp only[Function.comp,List.map_map,List.getElem?_map,Option.map_eq_some_iff]at h2
     obtain⟨d0,h3,rfl⟩:=h2
     simp[World.cell?,hb,hv i j r0 d0 h0 h3]
   . intro i j row a h1 h2
     simp only[List.getElem?_map,Option.map_eq_some_iff]at h1
     obtain⟨r0,h0,rfl⟩:=h1
     simp only[Function.comp,List.map_map,List.getElem?_map,Option.map_eq_some_iff]at h2
     obtain⟨d0,h3,rfl⟩:=h2
     simp only[hv i j r0 d0 h0 h3,Option.getD_some]
     refine(ih i j r0 d0 h0 h3).mono (λ_ _=>rfl) ?_
     rintro x (h|h)
     . exact .inl h
     . exact .inr ((hF x).2 (.inr ⟨i,j,h⟩))
 |agg cs Fs F hr hd hval hF ih=>
  simp only[E1,Xl,G0]
  refine Fz.agg _ _ (by simp) ?_
  intro i a v h1 h2
  simp only[List.map_map,List.getElem?_map,Option.map_eq_some_iff]at h1 h2
  obtain⟨d1,h1,rfl⟩:=h1
  obtain⟨d2,h2,rfl⟩:=h2
  obtain rfl:d1=d2:=by rw[h1]at h2;exact Option.some.inj h2
  refine(ih i d1 h1).mono (λ_ _=>rfl) ?_
  rintro x (h|h)
  . exact .inl h
  . exact .inr ((hF x).2 ⟨i,h⟩)
 |A9 cs Fs F hr hd hval hF ih=>
  simp only[Gh,Xn,Ht]
  refine Fz.A9 _ _ (by simp) ?_
  intro i a v h1 h2
  simp only[List.map_map,List.getElem?_map,Option.map_eq_some_iff]at h1 h2
  obtain⟨d1,h1,rfl⟩:=h1
  obtain⟨d2,h2,rfl⟩:=h2
  obtain rfl:d1=d2:=by rw[h1]at h2;exact Option.some.inj h2
  refine(ih i d1 h1).mono (λ_ _=>rfl) ?_
  rintro x (h|h)
  . exact .inl h
  . exact .inr ((hF x).2 ⟨i,h⟩)
end Go.Abs
namespace Go.Abs
variable {w w':World} {S S':Nat->Prop} {d:DV} {F F':Nat->Prop}
def NO:Value->Option Nat
 | .slice (some a) _ _=>some a.block
 | .pointer (some a)=>some a.block
 |_=>none
@[simp]theorem Qf (bx:Bool) (b n c:Nat):NO (Gs bx b n c)=some b:=by cases bx<;>rfl
theorem Xq {k i j i' j':Nat} (hj:j<k) (hj':j'<k) (h:i*k+j=i'*k+j'):i=i'/\j=j':=by
 have hk:0<k:=by omega
 have h1:(i*k+j)/k=i:=by rw[Nat.mul_comm,Nat.mul_add_div hk,Nat.div_eq_of_lt hj];rfl
 have h2:(i'*k+j')/k=i':=by rw[Nat.mul_comm,Nat.mul_add_div hk,Nat.div_eq_of_lt hj'];rfl
 have h3:i=i':=by rw[← h1,← h2,h]
 subst h3
 exact⟨rfl,by omega⟩
theorem Lx (w:World) (b o:Nat) (v:Value) (arr:Array Value) (E:TypeId) (fz:Nat×Nat) (hb:w.heap[b]? =some (.cells arr E fz)):
 (w.setCell ⟨b,o,none⟩ v).heap[b]? =some (.cells (arr.setIfInBounds o v) E fz):=by
 simp[World.setCell,Array.getElem?_modify,hb]
theorem CM (w:World) (b o x:Nat) (v:Value) (h:x≠b):(w.setCell ⟨b,o,none⟩ v).heap[x]? =w.heap[x]? :=by
 simp only[World.setCell,Array.getElem?_modify]
 rw[if_neg (by omega)]
theorem Mj {α:Type} {rows:List (List α)} {k i j:Nat} {row:List α} {x:α} (hk:∀row∈rows,row.length=k) (h1:rows[i]? =some row) (h2:row[j]? =some x):j<k:=by
 have:=hk row (List.mem_of_getElem? h1)
 have:=(List.getElem?_eq_some_iff.1 h2).1
 omega
theorem Ok.store {new:DV} {Fn:Nat->Prop} {k i j:Nat} {bx:Bool} {rows:List (List DV)} {row:List DV} {old:DV} {hv:Value} {b:Nat} (p:List Step)
 (h:Ok w S d F) (hs:Abs.Ai d p=some (.own hv bx k rows)) (h1:rows[i]? =some row) (h2:row[j]? =some old) (hb:NO hv=some b)
 (hn:Ok (w.setCell ⟨b,i*k+j,none⟩ new.Al) S new Fn) (hdis:∀x,Fn x->¬F x):
 ∃t F',DA d (p++[(i,j,k)]) new=some t/\Ok (w.setCell ⟨b,i*k+j,none⟩ new.Al) S t F'/\(∀x,F' x->F x∨Fn x)/\t.Al=d.Al/\F b:=by
 induction p generalizing d F with
 |nil=>
  simp only[Abs.Ai,Option.some.injEq]at hs
  subst hs
  generalize hvv:hv=hv' at h
  cases h with
  |nil k _ hF=>simp at h1
  |own _ _ _ b' c arr E Fs _ hbb hk hcap hSb hv hr hd hval hbF hF=>
   subst hvv
   simp only[Qf,Option.some.injEq]at hb
   subst hb
   have hjk:=Mj hk h1 h2
   have hlt:=(List.getElem?_eq_some_iff.1 h1).1
   have hji:=(List.getElem?_eq_some_iff.1 h2).1
   have hin:i*k+j<arr.size:=by
    have:=hv i j row old h1 h2
    exact(Array.getElem?_eq_some_iff.1 this).1
   refine⟨.own (Gs bx b' rows.length c) bx k (rows.set i (row.set j new)),λx=>x=b'∨∃i' j',(if i'=i/\j'=j then Fn else Fs i' j') x,?_,?_,?_,by simp,(hF b').2 (.inl rfl)⟩
   . simp[DA,h1,h2]
   . rw[show(Gs bx b' rows.length c)=Gs bx b' (rows.set i (row.set j new)).length c from by simp]
     refine Ok.own bx k _ b' c (arr.setIfInBounds (i*k+j) new.Al) E (λi' j'=>if i'=i/\j'=j then Fn else Fs i' j') _ (Lx _ _ _ _ _ _ _ hbb) ?_ ?_ hSb ?_ ?_ ?_ ?_ ?_ (λx=>Iff.rfl)
     . intro r hr'
       rcases List.mem_or_eq_of_mem_set hr' with h|rfl
       . exact hk r h
       . simp[hk row (List.mem_of_getElem? h1)]
     . simpa using hcap
     . intro i' j' r e h3 h4
       by_cases hi:i'=i
       . subst hi
         rw[List.getElem?_set_self hlt]at h3
         obtain rfl:=Option.some.inj h3
         by_cases hj:j'=j
         . subst hj
           rw[List.getElem?_set_self hji]at h4
           obtain rfl:=Option.some.inj h4
           simp[hin]
         . rw[List.getElem?_set_ne (by omega)]at h4
           rw[Array.getElem?_setIfInBounds_ne (by have:=Mj hk h1 h4;omega)]
           exact hv i' j' row e h1 h4
       . rw[List.getElem?_set_ne (by omega)]at h3
         rw[Array.getElem?_setIfInBounds_ne]
         . exact hv i' j' r e h3 h4
         . intro he
           exact hi (Xq (Mj hk h3 h4) hjk he.symm).1
     . intro i' j' r e h3 h4
       by_cases hij:i'=i/\j'=j
       . obtain⟨rfl,rfl⟩:=hij
         rw[List.getElem?_set_self hlt]at h3
         obtain rfl:=Option.some.inj h3
         rw[List.getElem?_set_self hji]at h4
         obtain rfl:=Option.some.inj h4
         simpa using hn
       . simp only[hij,if_false]
         have hold:Ok w S e (Fs i' j'):=by
          by_cases hi:i'=i
          . subst hi
            have hj:j'≠j:=λe=>hij ⟨rfl,e⟩
            rw[List.getElem?_set_self hlt]at h3
            obtain rfl:=Option.some.inj h3
            rw[List.getElem?_set_ne (by omega)]at h4
            exact hr i' j' row e h1 h4
          . rw[List.getElem?_set_ne (by omega)]at h3
            exact hr i' j' r e h3 h4
         refine hold.mono (λx hx=>CM _ _ _ _ _ ?_) (λx hx=>CM _ _ _ _ _ ?_) (λ_ h=>h) hold.D6
         . rintro rfl;exact hSb hx
         . rintro rfl;exact hbF _ _ hx
     . intro i1 j1 i2 j2 x hx hy
       split at hx<;>split at hy
       . rename_i a b;omega
       . exact absurd ((hF x).2 (.inr ⟨i2,j2,hy⟩)) (hdis x hx)
       . exact absurd ((hF x).2 (.inr ⟨i1,j1,hx⟩)) (hdis x hy)
       . exact hd _ _ _ _ x hx hy
     . intro i1 j1 x hx
       split at hx
       . rename_i hij
         obtain⟨rfl,rfl⟩:=hij
         exact⟨_,new,List.getElem?_set_self hlt,List.getElem?_set_self hji⟩
       . obtain⟨r,e,h3,h4⟩:=hval i1 j1 x hx
         by_cases hi:i1=i
         . subst hi
           rename_i hne
           have hj:j1≠j:=λe=>hne ⟨rfl,e⟩
           obtain rfl:row=r:=by rw[h1]at h3;exact Option.some.inj h3
           exact⟨_,e,List.getElem?_set_self hlt,by rw[List.getElem?_set_ne (by omega)];exact h4⟩
         . exact⟨r,e,by rw[List.getElem?_set_ne (by omega)];exact h3,h4⟩
     . intro i1 j1 hx
       split at hx
       . exact hdis b' hx ((hF b').2 (.inl rfl))
       . exact hbF _ _ hx
   . rintro x (rfl|⟨i1,j1,hx⟩)
     . exact .inl ((hF x).2 (.inl rfl))
     . split at hx
       . exact .inr hx
       . exact .inl ((hF x).2 (.inr ⟨i1,j1,hx⟩))
 |cons s p ih=>
  obtain⟨i0,j0,k0⟩:=s
  cases h with
  |lf a v _ ha hF=>simp[Abs.Ai]at hs
  |nil k _ hF=>simp[Abs.Ai]at hs
  |own bx0 k1 rows0 b0 c arr E Fs _ hbb hk hcap hSb hv hr hd hval hbF hF=>
   simp only[Abs.Ai]at hs
   split at hs
   . split at hs
     . rename_i row0 hrow0 _ e0 he0
       obtain⟨t,F0,ht,hok,hsub,hann,hFb⟩:=ih (hr i0 j0 row0 e0 hrow0 he0) hs (λx hx hf=>hdis x hx ((hF x).2 (.inr ⟨i0,j0,hf⟩)))
       have hne:b0≠b:=by rintro rfl;exact hbF _ _ hFb
       have hlt:=(List.getElem?_eq_some_iff.1 hrow0).1
       have hji:=(List.getElem?_eq_some_iff.1 he0).1
       refine⟨.own (Gs bx0 b0 rows0.length c) bx0 k1 (rows0.set i0 (row0.set j0 t)),λx=>x=b0∨∃i' j',(if i'=i0/\j'=j0 then F0 else Fs i' j') x,?_,?_,?_,by simp,(hF b).2 (.inr ⟨i0,j0,hFb⟩)⟩
       . simp[DA,hrow0,he0,ht]
       . rw[show(Gs bx0 b0 rows0.length c)=Gs bx0 b0 (rows0.set i0 (row0.set j0 t)).length c from by simp]
         refine Ok.own bx0 k1 _ b0 c arr E (λi' j'=>if i'=i0/\j'=j0 then F0 else Fs i' j') _ (by rw[CM _ _ _ _ _ hne];exact hbb) ?_ (by simpa using hcap) hSb ?_ ?_ ?_ ?_ ?_ (λx=>Iff.rfl)
         . intro r hr'
           rcases List.mem_or_eq_of_mem_set hr' with h|rfl
           . exact hk r h
           . simp[hk row0 (List.mem_of_getElem? hrow0)]
         . intro i' j' r e h3 h4
           by_cases hi:i'=i0
           . subst hi
             rw[List.getElem?_set_self hlt]at h3
             obtain rfl:=Option.some.inj h3
             by_cases hj:j'=j0
             . subst hj
               rw[List.getElem?_set_self hji]at h4
               obtain rfl:=Option.some.inj h4
               rw[hann]
               exact hv i' j' row0 e0 hrow0 he0
             . rw[List.getElem?_set_ne (by omega)]at h4
               exact hv i' j' row0 e hrow0 h4
           . rw[List.getElem?_set_ne (by omega)]at h3
             exact hv i' j' r e h3 h4
         . intro i' j' r e h3 h4
           by_cases hij:i'=i0/\j'=j0
           . obtain⟨rfl,rfl⟩:=hij
             rw[List.getElem?_set_self hlt]at h3
             obtain rfl:=Option.some.inj h3
             rw[List.getElem?_set_self hji]at h4
             obtain rfl:=Option.some.inj h4
             simpa using hok
           . simp only[hij,if_false]
             have hold:Ok w S e (Fs i' j'):=by
              by_cases hi:i'=i0
              . subst hi
                have hj:j'≠j0:=λe=>hij ⟨rfl,e⟩
                rw[List.getElem?_set_self hlt]at h3
                obtain rfl:=Option.some.inj h3
                rw[List.getElem?_set_ne (by omega)]at h4
                exact hr i' j' row0 e hrow0 h4
              . rw[List.getElem?_set_ne (by omega)]at h3
                exact hr i' j' r e h3 h4
             refine hold.mono (λx hx=>CM _ _ _ _ _ ?_) (λx hx=>CM _ _ _ _ _ ?_) (λ_ h=>h) hold.D6
             . rintro rfl;exact(hr i0 j0 row0 e0 hrow0 he0).D6 x hFb hx
             . rintro rfl;exact hij (hd _ _ _ _ x hx hFb)
         . intro i1 j1 i2 j2 x hx hy
           split at hx<;>split at hy
           . rename_i a b;omega
           . rename_i a b
             rcases hsub x hx with h|h
             . exact absurd (hd _ _ _ _ x hy h) b
             . exact absurd ((hF x).2 (.inr ⟨i2,j2,hy⟩)) (hdis x h)
           . rename_i a b
             rcases hsub x hy with h|h
             . exact absurd (hd _ _ _ _ x hx h) a
             . exact absurd ((hF x).2 (.inr ⟨i1,j1,hx⟩)) (hdis x h)
           . exact hd _ _ _ _ x hx hy
         . intro i1 j1 x hx
           split at hx
           . rename_i hij
             obtain⟨rfl,rfl⟩:=hij
             exact⟨_,t,List.getElem?_set_self hlt,List.getElem?_set_self hji⟩
           . obtain⟨r,e,h3,h4⟩:=hval i1 j1 x hx
             by_cases hi:i1=i0
             . subst hi
               rename_i hne
               have hj:j1≠j0:=λe=>hne ⟨rfl,e⟩
               obtain rfl:row0=r:=by rw[hrow0]at h3;exact Option.some.inj h3
               exact⟨_,e,List.getElem?_set_self hlt,by rw[List.getElem?_set_ne (by omega)];exact h4⟩
             . exact⟨r,e,by rw[List.getElem?_set_ne (by omega)];exact h3,h4⟩
         . intro i1 j1 hx
           split at hx
           . rcases hsub b0 hx with h|h
             . exact hbF _ _ h
             . exact hdis b0 h ((hF b0).2 (.inl rfl))
           . exact hbF _ _ hx
       . rintro x (rfl|⟨i1,j1,hx⟩)
         . exact .inl ((hF x).2 (.inl rfl))
         . split at hx
           . rcases hsub x hx with h|h
             . exact .inl ((hF x).2 (.inr ⟨i0,j0,h⟩))
             . exact .inr h
           . exact .inl ((hF x).2 (.inr ⟨i1,j1,hx⟩))
     . cases hs
   . cases hs
  |agg cs Fs _ hr hd hval hF=>
   simp only[Abs.Ai]at hs
   split at hs
   . rename_i e0 he0
     obtain⟨t,F0,ht,hok,hsub,hann,hFb⟩:=ih (hr j0 e0 he0) hs (λx hx hf=>hdis x hx ((hF x).2 ⟨j0,hf⟩))
     have hji:=(List.getElem?_eq_some_iff.1 he0).1
     refine⟨.agg (cs.set j0 t),λx=>∃i',(if i'=j0 then F0 else Fs i') x,by simp[DA,he0,ht],?_,?_,?_,(hF b).2 ⟨j0,hFb⟩⟩
     . refine Ok.agg _ (λi'=>if i'=j0 then F0 else Fs i') _ ?_ ?_ ?_ (λx=>Iff.rfl)
       . intro i' e h4
         by_cases hi:i'=j0
         . subst hi
           rw[List.getElem?_set_self hji]at h4
           obtain rfl:=Option.some.inj h4
           simpa using hok
         . simp only[hi,if_false]
           rw[List.getElem?_set_ne (by omega)]at h4
           refine(hr i' e h4).mono (λx hx=>CM _ _ _ _ _ ?_) (λx hx=>CM _ _ _ _ _ ?_) (λ_ h=>h) (hr i' e h4).D6
           . rintro rfl;exact(hr j0 e0 he0).D6 x hFb hx
           . rintro rfl;exact hi (hd _ _ x hx hFb)
       . intro i1 i2 x hx hy
         split at hx<;>split at hy
         . omega
         . rename_i a b
           rcases hsub x hx with h|h
           . exact absurd (hd _ _ x hy h) b
           . exact absurd ((hF x).2 ⟨i2,hy⟩) (hdis x h)
         . rename_i a b
           rcases hsub x hy with h|h
           . exact absurd (hd _ _ x hx h) a
           . exact absurd ((hF x).2 ⟨i1,hx⟩) (hdis x h)
         . exact hd _ _ x hx hy
       . intro i1 x hx
         split at hx
         . rename_i hij;subst hij;exact⟨t,List.getElem?_set_self hji⟩
         . rename_i hij
           obtain⟨e,h3⟩:=hval i1 x hx
           exact⟨e,by rw[List.getElem?_set_ne (by omega)];exact h3⟩
     . rintro x ⟨i1,hx⟩
       split at hx
       . rcases hsub x hx with h|h
         . exact .inl ((hF x).2 ⟨j0,h⟩)
         . exact .inr h
       . exact .inl ((hF x).2 ⟨i1,hx⟩)
     . simp only[G0,List.map_set,hann]
       congr 2
       apply List.ext_getElem?
       intro n
       by_cases hn:n=j0
       . subst hn;rw[List.getElem?_set_self (by simpa using hji)];simp[he0]
       . rw[List.getElem?_set_ne (by omega)]
   . cases hs
  |A9 cs Fs _ hr hd hval hF=>
   simp only[Abs.Ai]at hs
   split at hs
   . rename_i e0 he0
     obtain⟨t,F0,ht,hok,hsub,hann,hFb⟩:=ih (hr j0 e0 he0) hs (λx hx hf=>hdis x hx ((hF x).2 ⟨j0,hf⟩))
     have hji:=(List.getElem?_eq_some_iff.1 he0).1
     refine⟨.A9 (cs.set j0 t),λx=>∃i',(if i'=j0 then F0 else Fs i') x,by simp[DA,he0,ht],?_,?_,?_,(hF b).2 ⟨j0,hFb⟩⟩
     . refine Ok.A9 _ (λi'=>if i'=j0 then F0 else Fs i') _ ?_ ?_ ?_ (λx=>Iff.rfl)
       . intro i' e h4
         by_cases hi:i'=j0
         . subst hi
           rw[List.getElem?_set_self hji]at h4
           obtain rfl:=Option.some.inj h4
           simpa using hok
         . simp only[hi,if_false]
           rw[List.getElem?_set_ne (by omega)]at h4
           refine(hr i' e h4).mono (λx hx=>CM _ _ _ _ _ ?_) (λx hx=>CM _ _ _ _ _ ?_) (λ_ h=>h) (hr i' e h4).D6
           . rintro rfl;exact(hr j0 e0 he0).D6 x hFb hx
           . rintro rfl;exact hi (hd _ _ x hx hFb)
       . intro i1 i2 x hx hy
         split at hx<;>split at hy
         . omega
         . rename_i a b
           rcases hsub x hx with h|h
           . exact absurd (hd _ _ x hy h) b
           . exact absurd ((hF x).2 ⟨i2,hy⟩) (hdis x h)
         . rename_i a b
           rcases hsub x hy with h|h
           . exact absurd (hd _ _ x hx h) a
           . exact absurd ((hF x).2 ⟨i1,hx⟩) (hdis x h)
         . exact hd _ _ x hx hy
       . intro i1 x hx
         split at hx
         . rename_i hij;subst hij;exact⟨t,List.getElem?_set_self hji⟩
         . rename_i hij
           obtain⟨e,h3⟩:=hval i1 x hx
           exact⟨e,by rw[List.getElem?_set_ne (by omega)];exact h3⟩
     . rintro x ⟨i1,hx⟩
       split at hx
       . rcases hsub x hx with h|h
         . exact .inl ((hF x).2 ⟨j0,h⟩)
         . exact .inr h
       . exact .inl ((hF x).2 ⟨i1,hx⟩)
     . simp only[Ht,List.map_set,hann]
       congr 2
       apply List.ext_getElem?
       intro n
       by_cases hn:n=j0
       . subst hn;rw[List.getElem?_set_self (by simpa using hji)];simp[he0]
       . rw[List.getElem?_set_ne (by omega)]
   . cases hs
end Go.Abs
namespace Go.Abs
structure Gi where
 rt:List (Nat×List Nat)
def Gi.Ee (G:Gi) (s:Nat):List Nat:=match G.rt.find? (·.1==s)with
 |some x=>x.2
 |none=>[]
def Gi.JG (G:Gi) (d:Nat):List Nat:=(G.rt.filter (λx=>x.2.contains d)).map (·.1)
theorem Gi.Xu {G:Gi} {s d:Nat} (h:d∈G.Ee s):s∈G.JG d:=by
 unfold Gi.Ee at h
 split at h
 . rename_i x hx
   have h1:=List.find?_some hx
   have h2:=List.mem_of_find?_eq_some hx
   simp only[beq_iff_eq]at h1
   subst h1
   simp only[Gi.JG,List.mem_map,List.mem_filter]
   exact⟨x,⟨h2,by simpa using h⟩,rfl⟩
 . cases h
mutual
def D9 (L:List Nat):AV->Bool
 | .al r _=>L.contains r
 | .HX r _ _ _ _=>L.contains r
 | .cl _ rs=>rs.all λx=>L.contains x.1
 | .vb s _ _=>L.contains s
 | .agg cs=>Ko L cs
 | .A9 cs=>Ko L cs
 |_=>true
def Ko (L:List Nat):List AV->Bool
 |[]=>true
 |a::r=>D9 L a&&Ko L r
end
theorem Py (L:List Nat) (l:List AV):Ko L l=l.all (D9 L):=by
 induction l with
 |nil=>rfl
 |cons d r ih=>simp[Ko,ih]
mutual
def D8 (d:Nat):AV->Bool
 | .al r _=>r != d
 | .HX r _ _ _ _=>r != d
 | .cl _ rs=>rs.all λx=>x.1 != d
 | .vb s _ _=>s != d
 | .agg cs=>JP d cs
 | .A9 cs=>JP d cs
 |_=>true
def JP (d:Nat):List AV->Bool
 |[]=>true
 |a::r=>D8 d a&&JP d r
end
theorem TI (d:Nat) (l:List AV):JP d l=l.all (D8 d):=by
 induction l with
 |nil=>rfl
 |cons a r ih=>simp[JP,ih]
mutual
def Cb (d:Nat):AV->AV
 | .al r p=>if r=d then .dead else .al r p
 | .HX r p i j k=>if r=d then .dead else .HX r p i j k
 | .cl f rs=>if(rs.all λx=>x.1 != d)=true then .cl f rs else .dead
 | .vb s o us=>if s=d then .dead else .vb s o us
 | .agg cs=>.agg (KR d cs)
 | .A9 cs=>.A9 (KR d cs)
 |a=>a
def KR (d:Nat):List AV->List AV
 |[]=>[]
 |a::r=>Cb d a::KR d r
end
theorem S9 (d:Nat) (l:List AV):KR d l=l.map (Cb d):=by
 induction l with
 |nil=>rfl
 |cons a r ih=>simp[KR,ih]
@[simp]theorem rin_sc (L:List Nat) (v:Value):D9 L (.sc v)=true:=by simp[D9]
@[simp]theorem rin_sl (L:List Nat) (x:Bool) (k:Nat) (rows:List (List AV)):D9 L (.sl x k rows)=true:=by simp[D9]
@[simp]theorem rin_own (L:List Nat) (x:Bool) (k:Nat) (rows:List (List AV)):D9 L (.own x k rows)=true:=by simp[D9]
@[simp]theorem rin_fp (L:List Nat) (cs:List AV):D9 L (.fp cs)=true:=by simp[D9]
@[simp]theorem rin_dead (L:List Nat):D9 L .dead=true:=by simp[D9]
@[simp]theorem rin_un (L:List Nat):D9 L .un=true:=by simp[D9]
@[simp]theorem HB (L:List Nat) (r:Nat) (p:List Step):D9 L (.al r p)=L.contains r:=by simp[D9]
@[simp]theorem Pz (L:List Nat) (r:Nat) (p:List Step) (i j k:Nat):D9 L (.HX r p i j k)=L.contains r:=by simp[D9]
@[simp]theorem HA (L:List Nat) (cs:List AV):D9 L (.agg cs)=cs.all (D9 L):=by simp[D9,Py]
@[simp]theorem JT (L:List Nat) (cs:List AV):D9 L (.A9 cs)=cs.all (D9 L):=by simp[D9,Py]
@[simp]theorem killr_sc (d:Nat) (v:Value):Cb d (.sc v)= .sc v:=by simp[Cb]
@[simp]theorem killr_sl (d:Nat) (x:Bool) (k:Nat) (rows:List (List AV)):Cb d (.sl x k rows)= .sl x k rows:=by simp[Cb]
@[simp]theorem uD (d:Nat) (x:Bool) (k:Nat) (rows:List (List AV)):Cb d (.own x k rows)= .own x k rows:=by simp[Cb]
@[simp]theorem killr_fp (d:Nat) (cs:List AV):Cb d (.fp cs)= .fp cs:=by simp[Cb]
@[simp]theorem rX (d:Nat):Cb d .dead= .dead:=by simp[Cb]
@[simp]theorem killr_un (d:Nat):Cb d .un= .un:=by simp[Cb]
@[simp]theorem Qp (d r:Nat) (p:List Step):Cb d (.al r p)=if r=d then .dead else .al r p:=by simp[Cb]
@[simp]theorem OU (d r:Nat) (p:List Step) (i j k:Nat):Cb d (.HX r p i j k)=if r=d then .dead else .HX r p i j k:=by simp[Cb]
@[simp]theorem TC (d:Nat) (cs:List AV):Cb d (.agg cs)= .agg (cs.map (Cb d)):=by simp[Cb,S9]
@[simp]theorem TD (d:Nat) (cs:List AV):Cb d (.A9 cs)= .A9 (cs.map (Cb d)):=by simp[Cb,S9]
@[simp]theorem rin_fcl (L:List Nat) (f:Nat) (css:List (List AV)):D9 L (.Wn f css)=true:=by simp[D9]
@[simp]theorem uC (d f:Nat) (css:List (List AV)):Cb d (.Wn f css)= .Wn f css:=by simp[Cb]
@[simp]theorem sJ (L:List Nat) (s o:Nat) (us:List Value):D9 L (.vb s o us)=L.contains s:=by simp[D9]
@[simp]theorem Qq (d s o:Nat) (us:List Value):Cb d (.vb s o us)=if s=d then .dead else .vb s o us:=by simp[Cb]
@[simp]theorem nroot_vb (d s o:Nat) (us:List Value):D8 d (.vb s o us)=(s != d):=by simp[D8]
@[simp]theorem XF (L:List Nat) (f:Nat) (rs:List (Nat×List Step)):D9 L (.cl f rs)=rs.all λx=>L.contains x.1:=by simp[D9]
@[simp]theorem NQ (d f:Nat) (rs:List (Nat×List Step)):Cb d (.cl f rs)=if(rs.all λx=>x.1 != d)=true then .cl f rs else .dead:=by simp[Cb]
@[simp]theorem nroot_cl (d f:Nat) (rs:List (Nat×List Step)):D8 d (.cl f rs)=rs.all λx=>x.1 != d:=by simp[D8]
@[simp]theorem ZM (d:Nat) (cs:List AV):D8 d (.agg cs)=cs.all (D8 d):=by simp[D8,TI]
@[simp]theorem ZO (d:Nat) (cs:List AV):D8 d (.A9 cs)=cs.all (D8 d):=by simp[D8,TI]
@[simp]theorem nroot_al (d r:Nat) (p:List Step):D8 d (.al r p)=(r != d):=by simp[D8]
@[simp]theorem uI (d r:Nat) (p:List Step) (i j k:Nat):D8 d (.HX r p i j k)=(r != d):=by simp[D8]
mutual
def Ew (d:Nat):DV->DV
 | .lf a v=>.lf (Cb d a) v
 | .own h b k rows=>.own h b k rows
 | .agg cs=>.agg (Qi d cs)
 | .A9 cs=>.A9 (Qi d cs)
def Qi (d:Nat):List DV->List DV
 |[]=>[]
 |a::r=>Ew d a::Qi d r
end
theorem Sz (d:Nat) (l:List DV):Qi d l=l.map (Ew d):=by
 induction l with
 |nil=>rfl
 |cons a r ih=>simp[Qi,ih]
@[simp]theorem Qj (d:Nat) (a:AV) (v:Value):Ew d (.lf a v)= .lf (Cb d a) v:=by simp[Ew]
@[simp]theorem I3 (d:Nat) (h:Value) (b:Bool) (k:Nat) (rows:List (List DV)):Ew d (.own h b k rows)= .own h b k rows:=by simp[Ew]
@[simp]theorem HO (d:Nat) (cs:List DV):Ew d (.agg cs)= .agg (cs.map (Ew d)):=by simp[Ew,Sz]
@[simp]theorem HP (d:Nat) (cs:List DV):Ew d (.A9 cs)= .A9 (cs.map (Ew d)):=by simp[Ew,Sz]
variable {w w':World} {S S':Nat->Prop} {x:DV} {F F':Nat->Prop}
theorem Hb (d:Nat) (h:Ok w S x F):(Ew d x).er=Cb d x.er/\(Ew d x).Al=x.Al/\Ok w S (Ew d x) F/\D8 d (Ew d x).er=true:=by
 induction h with
 |lf a v F ha hF=>
  refine⟨by simp,by simp,?_,?_⟩
  . rw[Qj]
    refine .lf _ v F ?_ hF
    cases a with
    |al r p=>rw[Qp];by_cases h:r=d<;>simp[h,FG]
    |HX r p i j k=>rw[OU];by_cases h:r=d<;>simp[h,FG]
    |cl f rs=>rw[NQ];split<;>trivial
    |vb s o us=>rw[Qq];split<;>first|trivial|exact ha
    |agg cs=>exact ha.elim
    |A9 cs=>exact ha.elim
    |own=>exact ha.elim
    |_=>simpa using ha
  . have:=ha.CB
    cases a with
    |al r p=>by_cases h:r=d<;>simp[h,D8]
    |HX r p i j k=>by_cases h:r=d<;>simp[h,D8]
    |vb s o us=>by_cases h:s=d<;>simp[h,D8]
    |cl f rs=>
     simp only[Qj,Dj,NQ]
     split
     . rename_i h;simpa using h
     . simp[D8]
    |agg cs=>exact ha.elim
    |A9 cs=>exact ha.elim
    |own=>exact ha.elim
    |_=>simp[D8]
 |nil k F hF=>exact⟨by simp,by simp,by rw[I3];exact .nil k F hF,by simp[D8]⟩
 |own bx k rows b c arr E Fs F hb hk hcap hSb hv hr hd hval hbF hF ih=>
  exact⟨by simp,by simp,by rw[I3];exact .own bx k rows b c arr E Fs F hb hk hcap hSb hv hr hd hval hbF hF,by simp[D8]⟩
 |agg cs Fs F hr hd hval hF ih=>
  have key:∀e∈cs,(Ew d e).er=Cb d e.er/\(Ew d e).Al=e.Al/\D8 d (Ew d e).er=true:=by
   intro e he
   obtain⟨i,hi⟩:=List.getElem?_of_mem he
   exact⟨(ih i e hi).1,(ih i e hi).2.1,(ih i e hi).2.2.2⟩
  refine⟨?_,?_,?_,?_⟩
  . simp only[HO,E1,TC,List.map_map,AV.agg.injEq]
    exact List.map_congr_left λe he=>(key e he).1
  . simp only[HO,G0,List.map_map]
    congr 2
    exact List.map_congr_left λe he=>(key e he).2.1
  . rw[HO]
    refine .agg _ Fs F ?_ hd ?_ hF
    . intro i e h1
      simp only[List.getElem?_map,Option.map_eq_some_iff]at h1
      obtain⟨e0,h0,rfl⟩:=h1
      exact(ih i e0 h0).2.2.1
    . intro i x hx
      obtain⟨e,h1⟩:=hval i x hx
      exact⟨Ew d e,by simp[h1]⟩
  . simp only[HO,E1,ZM,List.map_map,List.all_map,List.all_eq_true]
    exactλe he=>(key e he).2.2
 |A9 cs Fs F hr hd hval hF ih=>
  have key:∀e∈cs,(Ew d e).er=Cb d e.er/\(Ew d e).Al=e.Al/\D8 d (Ew d e).er=true:=by
   intro e he
   obtain⟨i,hi⟩:=List.getElem?_of_mem he
   exact⟨(ih i e hi).1,(ih i e hi).2.1,(ih i e hi).2.2.2⟩
  refine⟨?_,?_,?_,?_⟩
  . simp only[HP,Gh,TD,List.map_map,AV.A9.injEq]
    exact List.map_congr_left λe he=>(key e he).1
  . simp only[HP,Ht,List.map_map]
    congr 2
    exact List.map_congr_left λe he=>(key e he).2.1
  . rw[HP]
    refine .A9 _ Fs F ?_ hd ?_ hF
    . intro i e h1
      simp only[List.getElem?_map,Option.map_eq_some_iff]at h1
      obtain⟨e0,h0,rfl⟩:=h1
      exact(ih i e0 h0).2.2.1
    . intro i x hx
      obtain⟨e,h1⟩:=hval i x hx
      exact⟨Ew d e,by simp[h1]⟩
  . simp only[HP,Gh,ZO,List.map_map,List.all_map,List.all_eq_true]
    exactλe he=>(key e he).2.2
def Ip (δ:Nat->DV):AV->Value->Prop
 | .al r p,v=>∃bx k rows,Ai (δ r) p=some (.own v bx k rows)
 | .HX r p i j k,v=>∃h bx rows b,Ai (δ r) p=some (.own h bx k rows)/\NO h=some b/\v= .pointer (some ⟨b,i*k+j,none⟩)
 | .vb s _ us,_=>(δ s).Al= .agg us.toArray
 | .cl f rs,v=>∃vs:List Value,v= .func (.func f) #[] vs.toArray/\vs.length=rs.length/\∀(i:Nat) r p u,rs[i]? =some (r,p)->vs[i]? =some u->∃bx k rows,Ai (δ r) p=some (.own u bx k rows)
 |_,_=>True
inductive Cd (δ:Nat->DV):DV->Prop
 |lf (a v) (h:Ip δ a v):Cd δ (.lf a v)
 |own (h b k rows):Cd δ (.own h b k rows)
 |agg (cs) (hr:∀(i:Nat) d,cs[i]? =some d->Cd δ d):Cd δ (.agg cs)
 |A9 (cs) (hr:∀(i:Nat) d,cs[i]? =some d->Cd δ d):Cd δ (.A9 cs)
theorem Cd.mono {δ δ':Nat->DV} {L:List Nat} (h:Cd δ x) (hr:D9 L x.er=true)
 (hk:∀r∈L,∀p v bx k rows,Ai (δ r) p=some (.own v bx k rows)->∃rows',Ai (δ' r) p=some (.own v bx k rows')) (hk2:∀r∈L,(δ' r).Al=(δ r).Al):Cd δ' x:=by
 induction h with
 |lf a v h=>
  refine .lf a v ?_
  cases a with
  |al r p=>
   obtain⟨bx,k,rows,h⟩:=h
   obtain⟨rows',h'⟩:=hk r (by simpa using hr) p v bx k rows h
   exact⟨bx,k,rows',h'⟩
  |HX r p i j k=>
   obtain⟨hh,bx,rows,b,h,hb,rfl⟩:=h
   obtain⟨rows',h'⟩:=hk r (by simpa using hr) p hh bx k rows h
   exact⟨hh,bx,rows',b,h',hb,rfl⟩
  |vb s o us=>exact(hk2 s (by simpa using hr)).trans h
  |cl f rs=>
   obtain⟨vs,h1,h2,h3⟩:=h
   refine⟨vs,h1,h2,λi r p u hi hu=> ?_⟩
   obtain⟨bx,k,rows,hs⟩:=h3 i r p u hi hu
   simp only[Dj,XF,List.all_eq_true]at hr
   obtain⟨rows',h'⟩:=hk r (by simpa using hr _ (List.mem_of_getElem? hi)) p u bx k rows hs
   exact⟨bx,k,rows',h'⟩
  |_=>trivial
 |own=>exact .own _ _ _ _
 |agg cs _ ih=>
  refine .agg cs λi d hd=>ih i d hd ?_
  simp only[E1,HA,List.all_map,List.all_eq_true]at hr
  exact hr d (List.mem_of_getElem? hd)
 |A9 cs _ ih=>
  refine .A9 cs λi d hd=>ih i d hd ?_
  simp only[Gh,JT,List.all_map,List.all_eq_true]at hr
  exact hr d (List.mem_of_getElem? hd)
theorem ZY {L:List Nat} {d:Nat} {a:AV}:D9 L a=true->d∉L->D8 d a=true:=by
 refine AV.rec (motive_1:=λa=>D9 L a=true->d∉L->D8 d a=true) (motive_2:=λ_=>True) (motive_3:=λl=>Ko L l=true->d∉L->JP d l=true)
  ?_ ?_ ?_ ?_ ?_ ?_ ?_ ?_ ?_ ?_ ?_ ?_ ?_ ?_ ?_ ?_ ?_ a
 all_goals intros
 all_goals first|trivial|simp[D8];done|skip
 all_goals simp_all [D9,Ko,JP,D8]
 all_goals first
  | (rintro rfl;simp_all;done)
  | (rename_i h1 h2;intro a b hb e;subst e;exact h2 (h1 _ b hb))
theorem ZA {L:List Nat} {d:Nat} {a:AV}:D9 L a=true->D9 L (Cb d a)=true:=by
 refine AV.rec (motive_1:=λa=>D9 L a=true->D9 L (Cb d a)=true) (motive_2:=λ_=>True) (motive_3:=λl=>Ko L l=true->Ko L (KR d l)=true)
  ?_ ?_ ?_ ?_ ?_ ?_ ?_ ?_ ?_ ?_ ?_ ?_ ?_ ?_ ?_ ?_ ?_ a
 all_goals intros
 all_goals first|trivial| (simp_all [D9,Ko,Cb,KR];done)|skip
 all_goals first
  | (simp only[Cb];split<;>simp_all [D9];done)
  | (simp only[Cb];split<;>first|assumption|simp[D9])
  | (rename_i ih h;simp only[Cb,D9]at h ⊢;exact ih h)
end Go.Abs
namespace Go.Abs
variable {w w':World} {S S':Nat->Prop} {d:DV} {F F':Nat->Prop}
theorem Ok.replace {n:DV} (p:List Step) (h:Ok w S d F) (hs:Abs.Ai d p=some n):
 ∃Fo,Ok w S n Fo/\(∀x,Fo x->F x)/\∀(w':World) (S':Nat->Prop) (new:DV) (Fn:Nat->Prop),new.Al=n.Al->Ok w' S' new Fn->
  (∀x,Fn x->F x->Fo x)->(∀b,S b->w'.heap[b]? =w.heap[b]?)->(∀b,F b->¬Fo b->w'.heap[b]? =w.heap[b]?)->(∀b,S b->S' b)->(∀b,F b->¬Fo b->¬S' b)->
  ∃t F',DA d p new=some t/\Ok w' S' t F'/\(∀x,F' x↔(F x/\¬Fo x)∨Fn x)/\t.Al=d.Al:=by
 induction p generalizing d F with
 |nil=>
  simp only[Abs.Ai,Option.some.injEq]at hs
  subst hs
  refine⟨F,h,λ_ h=>h,λw' S' new Fn ha hn _ _ _ _ _=>⟨new,Fn,rfl,hn,λx=>⟨.inr,?_⟩,ha⟩⟩
  rintro(⟨h1,h2⟩|h)
  . exact absurd h1 h2
  . exact h
 |cons s p ih=>
  obtain⟨i0,j0,k0⟩:=s
  cases h with
  |lf a v _ ha hF=>simp[Abs.Ai]at hs
  |nil k _ hF=>simp[Abs.Ai]at hs
  |own bx0 k1 rows0 b0 c arr E Fs _ hbb hk hcap hSb hv hr hd hval hbF hF=>
   simp only[Abs.Ai]at hs
   split at hs
   . split at hs
     . rename_i row0 hrow0 _ e0 he0
       obtain⟨Fo,ho,hsub,hrep⟩:=ih (hr i0 j0 row0 e0 hrow0 he0) hs
       have hFo:∀x,Fo x->F x:=λx hx=>(hF x).2 (.inr ⟨i0,j0,hsub x hx⟩)
       refine⟨Fo,ho,hFo,?_⟩
       intro w' S' new Fn ha hn hnF hS hf hSS hfS
       have hlt:=(List.getElem?_eq_some_iff.1 hrow0).1
       have hji:=(List.getElem?_eq_some_iff.1 he0).1
       obtain⟨t,F0,ht,hok,hiff,hann⟩:=hrep w' S' new Fn ha hn (λx hx hy=>hnF x hx ((hF x).2 (.inr ⟨i0,j0,hy⟩))) hS
        (λb hb=>hf b ((hF b).2 (.inr ⟨i0,j0,hb⟩))) hSS (λb hb=>hfS b ((hF b).2 (.inr ⟨i0,j0,hb⟩)))
       have hb0:¬Fo b0:=λh=>hbF _ _ (hsub _ h)
       have hFb0:F b0:=(hF b0).2 (.inl rfl)
       have hother:∀i j,¬(i=i0/\j=j0)->∀x,Fs i j x->¬Fo x:=λi j hij x hx ho'=>hij (hd _ _ _ _ x hx (hsub x ho'))
       refine⟨.own (Gs bx0 b0 rows0.length c) bx0 k1 (rows0.set i0 (row0.set j0 t)),λx=>x=b0∨∃i' j',(if i'=i0/\j'=j0 then F0 else Fs i' j') x,?_,?_,?_,by simp⟩
       . simp[DA,hrow0,he0,ht]
       . rw[show(Gs bx0 b0 rows0.length c)=Gs bx0 b0 (rows0.set i0 (row0.set j0 t)).length c from by simp]
         refine Ok.own bx0 k1 _ b0 c arr E (λi' j'=>if i'=i0/\j'=j0 then F0 else Fs i' j') _ (by rw[hf b0 hFb0 hb0];exact hbb) ?_ (by simpa using hcap) (hfS b0 hFb0 hb0) ?_ ?_ ?_ ?_ ?_ (λx=>Iff.rfl)
         . intro r hr'
           rcases List.mem_or_eq_of_mem_set hr' with h|rfl
           . exact hk r h
           . simp[hk row0 (List.mem_of_getElem? hrow0)]
         . intro i' j' r e h3 h4
           by_cases hi:i'=i0
           . subst hi
             rw[List.getElem?_set_self hlt]at h3
             obtain rfl:=Option.some.inj h3
             by_cases hj:j'=j0
             . subst hj
               rw[List.getElem?_set_self hji]at h4
               obtain rfl:=Option.some.inj h4
               rw[hann]
               exact hv i' j' row0 e0 hrow0 he0
             . rw[List.getElem?_set_ne (by omega)]at h4
               exact hv i' j' row0 e hrow0 h4
           . rw[List.getElem?_set_ne (by omega)]at h3
             exact hv i' j' r e h3 h4
         . intro i' j' r e h3 h4
           by_cases hij:i'=i0/\j'=j0
           . obtain⟨rfl,rfl⟩:=hij
             rw[List.getElem?_set_self hlt]at h3
             obtain rfl:=Option.some.inj h3
             rw[List.getElem?_set_self hji]at h4
             obtain rfl:=Option.some.inj h4
             simpa using hok
           . simp only[hij,if_false]
             have hold:Ok w S e (Fs i' j'):=by
              by_cases hi:i'=i0
              . subst hi
                have hj:j'≠j0:=λe=>hij ⟨rfl,e⟩
                rw[List.getElem?_set_self hlt]at h3
                obtain rfl:=Option.some.inj h3
                rw[List.getElem?_set_ne (by omega)]at h4
                exact hr i' j' row0 e hrow0 h4
              . rw[List.getElem?_set_ne (by omega)]at h3
                exact hr i' j' r e h3 h4
             have hin:∀x,Fs i' j' x->F x/\¬Fo x:=λx hx=>⟨(hF x).2 (.inr ⟨i',j',hx⟩),hother i' j' hij x hx⟩
             exact hold.mono hS (λx hx=>hf x (hin x hx).1 (hin x hx).2) hSS (λx hx=>hfS x (hin x hx).1 (hin x hx).2)
         . intro i1 j1 i2 j2 x hx hy
           have aux:∀i j,¬(i=i0/\j=j0)->Fs i j x->¬F0 x:=by
            intro i j hij h1 h2
            rcases(hiff x).1 h2 with⟨h3,h4⟩|h3
            . exact hij (hd _ _ _ _ x h1 h3)
            . exact hother i j hij x h1 (hnF x h3 ((hF x).2 (.inr ⟨i,j,h1⟩)))
           split at hx<;>split at hy
           . rename_i a b;omega
           . rename_i a b;exact absurd hx (aux _ _ b hy)
           . rename_i a b;exact absurd hy (aux _ _ a hx)
           . exact hd _ _ _ _ x hx hy
         . intro i1 j1 x hx
           split at hx
           . rename_i hij
             obtain⟨rfl,rfl⟩:=hij
             exact⟨_,t,List.getElem?_set_self hlt,List.getElem?_set_self hji⟩
           . obtain⟨r,e,h3,h4⟩:=hval i1 j1 x hx
             by_cases hi:i1=i0
             . subst hi
               rename_i hne
               have hj:j1≠j0:=λe=>hne ⟨rfl,e⟩
               obtain rfl:row0=r:=by rw[hrow0]at h3;exact Option.some.inj h3
               exact⟨_,e,List.getElem?_set_self hlt,by rw[List.getElem?_set_ne (by omega)];exact h4⟩
             . exact⟨r,e,by rw[List.getElem?_set_ne (by omega)];exact h3,h4⟩
         . intro i1 j1 hx
           split at hx
           . rcases(hiff b0).1 hx with h|h
             . exact hbF _ _ h.1
             . exact hb0 (hnF b0 h hFb0)
           . exact hbF _ _ hx
       . intro x
         constructor
         . rintro(rfl|⟨i1,j1,hx⟩)
           . exact .inl ⟨hFb0,hb0⟩
           . split at hx
             . rcases(hiff x).1 hx with h|h
               . exact .inl ⟨(hF x).2 (.inr ⟨i0,j0,h.1⟩),h.2⟩
               . exact .inr h
             . rename_i hij
               exact .inl ⟨(hF x).2 (.inr ⟨i1,j1,hx⟩),hother _ _ hij x hx⟩
         . rintro(⟨h1,h2⟩|h)
           . rcases(hF x).1 h1 with rfl|⟨i1,j1,h3⟩
             . exact .inl rfl
             . by_cases hij:i1=i0/\j1=j0
               . obtain⟨rfl,rfl⟩:=hij
                 exact .inr ⟨i1,j1,by simp;exact(hiff x).2 (.inl ⟨h3,h2⟩)⟩
               . exact .inr ⟨i1,j1,by simp only[hij,if_false];exact h3⟩
           . exact .inr ⟨i0,j0,by simp;exact(hiff x).2 (.inr h)⟩
     . cases hs
   . cases hs
  |agg cs Fs _ hr hd hval hF=>
   simp only[Abs.Ai]at hs
   split at hs
   . rename_i e0 he0
     obtain⟨Fo,ho,hsub,hrep⟩:=ih (hr j0 e0 he0) hs
     have hFo:∀x,Fo x->F x:=λx hx=>(hF x).2 ⟨j0,hsub x hx⟩
     refine⟨Fo,ho,hFo,?_⟩
     intro w' S' new Fn ha hn hnF hS hf hSS hfS
     have hji:=(List.getElem?_eq_some_iff.1 he0).1
     obtain⟨t,F0,ht,hok,hiff,hann⟩:=hrep w' S' new Fn ha hn (λx hx hy=>hnF x hx ((hF x).2 ⟨j0,hy⟩)) hS
      (λb hb=>hf b ((hF b).2 ⟨j0,hb⟩)) hSS (λb hb=>hfS b ((hF b).2 ⟨j0,hb⟩))
     have hother:∀i,¬i=j0->∀x,Fs i x->¬Fo x:=λi hij x hx ho'=>hij (hd _ _ x hx (hsub x ho'))
     refine⟨.agg (cs.set j0 t),λx=>∃i',(if i'=j0 then F0 else Fs i') x,by simp[DA,he0,ht],?_,?_,?_⟩
     . refine Ok.agg _ (λi'=>if i'=j0 then F0 else Fs i') _ ?_ ?_ ?_ (λx=>Iff.rfl)
       . intro i' e h4
         by_cases hi:i'=j0
         . subst hi
           rw[List.getElem?_set_self hji]at h4
           obtain rfl:=Option.some.inj h4
           simpa using hok
         . simp only[hi,if_false]
           rw[List.getElem?_set_ne (by omega)]at h4
           have hin:∀x,Fs i' x->F x/\¬Fo x:=λx hx=>⟨(hF x).2 ⟨i',hx⟩,hother i' hi x hx⟩
           exact(hr i' e h4).mono hS (λx hx=>hf x (hin x hx).1 (hin x hx).2) hSS (λx hx=>hfS x (hin x hx).1 (hin x hx).2)
       . intro i1 i2 x hx hy
         have aux:∀i,¬i=j0->Fs i x->¬F0 x:=by
          intro i hij h1 h2
          rcases(hiff x).1 h2 with⟨h3,h4⟩|h3
          . exact hij (hd _ _ x h1 h3)
          . exact hother i hij x h1 (hnF x h3 ((hF x).2 ⟨i,h1⟩))
         split at hx<;>split at hy
         . omega
         . rename_i a b;exact absurd hx (aux _ b hy)
         . rename_i a b;exact absurd hy (aux _ a hx)
         . exact hd _ _ x hx hy
       . intro i1 x hx
         split at hx
         . rename_i hij;subst hij;exact⟨t,List.getElem?_set_self hji⟩
         . rename_i hij
           obtain⟨e,h3⟩:=hval i1 x hx
           exact⟨e,by rw[List.getElem?_set_ne (by omega)];exact h3⟩
     . intro x
       constructor
       . rintro⟨i1,hx⟩
         split at hx
         . rcases(hiff x).1 hx with h|h
           . exact .inl ⟨(hF x).2 ⟨j0,h.1⟩,h.2⟩
           . exact .inr h
         . rename_i hij
           exact .inl ⟨(hF x).2 ⟨i1,hx⟩,hother _ hij x hx⟩
       . rintro(⟨h1,h2⟩|h)
         . obtain⟨i1,h3⟩:=(hF x).1 h1
           by_cases hij:i1=j0
           . subst hij
             exact⟨i1,by simp;exact(hiff x).2 (.inl ⟨h3,h2⟩)⟩
           . exact⟨i1,by simp only[hij,if_false];exact h3⟩
         . exact⟨j0,by simp;exact(hiff x).2 (.inr h)⟩
     . simp only[G0,List.map_set,hann]
       congr 2
       apply List.ext_getElem?
       intro n
       by_cases hn:n=j0
       . subst hn;rw[List.getElem?_set_self (by simpa using hji)];simp[he0]
       . rw[List.getElem?_set_ne (by omega)]
   . cases hs
  |A9 cs Fs _ hr hd hval hF=>
   simp only[Abs.Ai]at hs
   split at hs
   . rename_i e0 he0
     obtain⟨Fo,ho,hsub,hrep⟩:=ih (hr j0 e0 he0) hs
     have hFo:∀x,Fo x->F x:=λx hx=>(hF x).2 ⟨j0,hsub x hx⟩
     refine⟨Fo,ho,hFo,?_⟩
     intro w' S' new Fn ha hn hnF hS hf hSS hfS
     have hji:=(List.getElem?_eq_some_iff.1 he0).1
     obtain⟨t,F0,ht,hok,hiff,hann⟩:=hrep w' S' new Fn ha hn (λx hx hy=>hnF x hx ((hF x).2 ⟨j0,hy⟩)) hS
      (λb hb=>hf b ((hF b).2 ⟨j0,hb⟩)) hSS (λb hb=>hfS b ((hF b).2 ⟨j0,hb⟩))
     have hother:∀i,¬i=j0->∀x,Fs i x->¬Fo x:=λi hij x hx ho'=>hij (hd _ _ x hx (hsub x ho'))
     refine⟨.A9 (cs.set j0 t),λx=>∃i',(if i'=j0 then F0 else Fs i') x,by simp[DA,he0,ht],?_,?_,?_⟩
     . refine Ok.A9 _ (λi'=>if i'=j0 then F0 else Fs i') _ ?_ ?_ ?_ (λx=>Iff.rfl)
       . intro i' e h4
         by_cases hi:i'=j0
         . subst hi
           rw[List.getElem?_set_self hji]at h4
           obtain rfl:=Option.some.inj h4
           simpa using hok
         . simp only[hi,if_false]
           rw[List.getElem?_set_ne (by omega)]at h4
           have hin:∀x,Fs i' x->F x/\¬Fo x:=λx hx=>⟨(hF x).2 ⟨i',hx⟩,hother i' hi x hx⟩
           exact(hr i' e h4).mono hS (λx hx=>hf x (hin x hx).1 (hin x hx).2) hSS (λx hx=>hfS x (hin x hx).1 (hin x hx).2)
       . intro i1 i2 x hx hy
         have aux:∀i,¬i=j0->Fs i x->¬F0 x:=by
          intro i hij h1 h2
          rcases(hiff x).1 h2 with⟨h3,h4⟩|h3
          . exact hij (hd _ _ x h1 h3)
          . exact hother i hij x h1 (hnF x h3 ((hF x).2 ⟨i,h1⟩))
         split at hx<;>split at hy
         . omega
         . rename_i a b;exact absurd hx (aux _ b hy)
         . rename_i a b;exact absurd hy (aux _ a hx)
         . exact hd _ _ x hx hy
       . intro i1 x hx
         split at hx
         . rename_i hij;subst hij;exact⟨t,List.getElem?_set_self hji⟩
         . rename_i hij
           obtain⟨e,h3⟩:=hval i1 x hx
           exact⟨e,by rw[List.getElem?_set_ne (by omega)];exact h3⟩
     . intro x
       constructor
       . rintro⟨i1,hx⟩
         split at hx
         . rcases(hiff x).1 hx with h|h
           . exact .inl ⟨(hF x).2 ⟨j0,h.1⟩,h.2⟩
           . exact .inr h
         . rename_i hij
           exact .inl ⟨(hF x).2 ⟨i1,hx⟩,hother _ hij x hx⟩
       . rintro(⟨h1,h2⟩|h)
         . obtain⟨i1,h3⟩:=(hF x).1 h1
           by_cases hij:i1=j0
           . subst hij
             exact⟨i1,by simp;exact(hiff x).2 (.inl ⟨h3,h2⟩)⟩
           . exact⟨i1,by simp only[hij,if_false];exact h3⟩
         . exact⟨j0,by simp;exact(hiff x).2 (.inr h)⟩
     . simp only[Ht,List.map_set,hann]
       congr 2
       apply List.ext_getElem?
       intro n
       by_cases hn:n=j0
       . subst hn;rw[List.getElem?_set_self (by simpa using hji)];simp[he0]
       . rw[List.getElem?_set_ne (by omega)]
   . cases hs
theorem Ly {t t' new old:DV} (q':List Step) (hp:DA t q' new=some t') (ho:Abs.Ai t q'=some old) (hl:∀h b k rows,old≠ .own h b k rows) (hl2:∀cs,old≠ .agg cs) (hl3:∀cs,old≠ .A9 cs)
 (q:List Step) (v:Value) (bx:Bool) (k:Nat) (rows:List (List DV)) (hq:Abs.Ai t q=some (.own v bx k rows)):∃rows',Abs.Ai t' q=some (.own v bx k rows'):=by
 induction q' generalizing t t' q with
 |nil=>
  simp only[Abs.Ai,Option.some.injEq]at ho
  subst ho
  cases q with
  |nil=>simp only[Abs.Ai,Option.some.injEq]at hq;exact absurd hq (hl _ _ _ _)
  |cons s q=>
   cases t with
   |lf a v=>simp[Abs.Ai]at hq
   |own h b k rows=>exact absurd rfl (hl _ _ _ _)
   |agg cs=>exact absurd rfl (hl2 _)
   |A9 cs=>exact absurd rfl (hl3 _)
 |cons s q' ih=>
  obtain⟨i,j,k0⟩:=s
  cases t with
  |lf a v=>simp[DA]at hp
  |own h b k1 rows1=>
   simp only[DA]at hp
   simp only[Abs.Ai]at ho
   cases hi:rows1[i]? with
   |none=>simp[hi]at hp
   |some row=>
    simp only[hi]at hp ho
    cases hj:row[j]? with
    |none=>simp[hj]at hp
    |some c=>
     simp only[hj]at hp ho
     cases hc:DA c q' new with
     |none=>simp[hc]at hp
     |some c'=>
      simp only[hc,Option.some.injEq]at hp
      subst hp
      have hlt:=(List.getElem?_eq_some_iff.1 hi).1
      have hji:=(List.getElem?_eq_some_iff.1 hj).1
      cases q with
      |nil=>
       simp only[Abs.Ai,Option.some.injEq,DV.own.injEq]at hq
       obtain⟨rfl,rfl,rfl,_⟩:=hq
       exact⟨_,rfl⟩
      |cons s2 q=>
       obtain⟨i2,j2,k2⟩:=s2
       simp only[Abs.Ai]at hq ⊢
       by_cases h1:i2=i
       . subst h1
         simp only[List.getElem?_set_self hlt]
         simp only[hi]at hq
         by_cases h2:j2=j
         . subst h2
           simp only[List.getElem?_set_self hji]
           simp only[hj]at hq
           exact ih hc ho q hq
         . rw[List.getElem?_set_ne (by omega)]
           exact⟨rows,hq⟩
       . rw[List.getElem?_set_ne (by omega)]
         exact⟨rows,hq⟩
  |agg cs=>
   simp only[DA]at hp
   simp only[Abs.Ai]at ho
   cases hj:cs[j]? with
   |none=>simp[hj]at hp
   |some c=>
    simp only[hj]at hp ho
    cases hc:DA c q' new with
    |none=>simp[hc]at hp
    |some c'=>
     simp only[hc,Option.some.injEq]at hp
     subst hp
     have hji:=(List.getElem?_eq_some_iff.1 hj).1
     cases q with
     |nil=>simp[Abs.Ai]at hq
     |cons s2 q=>
      obtain⟨i2,j2,k2⟩:=s2
      simp only[Abs.Ai]at hq ⊢
      by_cases h2:j2=j
      . subst h2
        simp only[List.getElem?_set_self hji]
        simp only[hj]at hq
        exact ih hc ho q hq
      . rw[List.getElem?_set_ne (by omega)]
        exact⟨rows,hq⟩
  |A9 cs=>
   simp only[DA]at hp
   simp only[Abs.Ai]at ho
   cases hj:cs[j]? with
   |none=>simp[hj]at hp
   |some c=>
    simp only[hj]at hp ho
    cases hc:DA c q' new with
    |none=>simp[hc]at hp
    |some c'=>
     simp only[hc,Option.some.injEq]at hp
     subst hp
     have hji:=(List.getElem?_eq_some_iff.1 hj).1
     cases q with
     |nil=>simp[Abs.Ai]at hq
     |cons s2 q=>
      obtain⟨i2,j2,k2⟩:=s2
      simp only[Abs.Ai]at hq ⊢
      by_cases h2:j2=j
      . subst h2
        simp only[List.getElem?_set_self hji]
        simp only[hj]at hq
        exact ih hc ho q hq
      . rw[List.getElem?_set_ne (by omega)]
        exact⟨rows,hq⟩
end Go.Abs
namespace Go.Abs
variable {w w':World} {S S':Nat->Prop} {F F':Nat->Prop}
structure St (G:Gi) (w:World) (S:Nat->Prop) (δ:Nat->DV) (F:Nat->Nat->Prop):Prop where
 ok:∀s,Ok w S (δ s) (F s)
 I0:∀s t x,F s x->F t x->s=t
 al:∀s,Cd δ (δ s)
 rt:∀s,D9 (G.Ee s) (δ s).er=true
 self:∀s,s∉G.Ee s
mutual
def Dk (n d:Nat):AV->AV
 | .al r p=>if r=d/\n≤p.length then .dead else .al r p
 | .HX r p i j k=>if r=d/\n≤p.length then .dead else .HX r p i j k
 | .cl f rs=>if(rs.all λx=>x.1 != d)=true then .cl f rs else .dead
 | .vb s o us=>if s=d then .dead else .vb s o us
 | .agg cs=>.agg (OS n d cs)
 | .A9 cs=>.A9 (OS n d cs)
 |a=>a
def OS (n d:Nat):List AV->List AV
 |[]=>[]
 |a::r=>Dk n d a::OS n d r
end
theorem S5 (n d:Nat) (l:List AV):OS n d l=l.map (Dk n d):=by
 induction l with
 |nil=>rfl
 |cons a r ih=>simp[OS,ih]
mutual
def ET (n d:Nat):DV->DV
 | .lf a v=>.lf (Dk n d a) v
 | .own h b k rows=>.own h b k rows
 | .agg cs=>.agg (NP n d cs)
 | .A9 cs=>.A9 (NP n d cs)
def NP (n d:Nat):List DV->List DV
 |[]=>[]
 |a::r=>ET n d a::NP n d r
end
theorem Qk (n d:Nat) (l:List DV):NP n d l=l.map (ET n d):=by
 induction l with
 |nil=>rfl
 |cons a r ih=>simp[NP,ih]
def Fq (G:Gi) (n d:Nat) (σ:Sg):Sg:=λs=>if s∈G.JG d then Dk n d (σ s)else σ s
def Ec (G:Gi) (n d:Nat) (δ:Nat->DV):Nat->DV:=λs=>if s∈G.JG d then ET n d (δ s)else δ s
def Gt (G:Gi) (d:Nat) (σ:Sg):Sg:=λs=>if s∈G.JG d then Cb d (σ s)else σ s
def Ex (G:Gi) (d:Nat) (δ:Nat->DV):Nat->DV:=λs=>if s∈G.JG d then Ew d (δ s)else δ s
theorem Rg {t:DV} (d:Nat) (q:List Step) {v:Value} {bx:Bool} {k:Nat} {rows:List (List DV)} (hq:Abs.Ai t q=some (.own v bx k rows)):Abs.Ai (Ew d t) q=some (.own v bx k rows):=by
 induction q generalizing t with
 |nil=>simp only[Abs.Ai,Option.some.injEq]at hq;subst hq;simp[Abs.Ai]
 |cons s q ih=>
  obtain⟨i,j,k0⟩:=s
  cases t with
  |lf a v=>simp[Abs.Ai]at hq
  |own h b k1 rows1=>rw[I3];exact hq
  |agg cs=>
   simp only[HO,Abs.Ai,List.getElem?_map]at hq ⊢
   cases hj:cs[j]? with
   |none=>simp[hj]at hq
   |some c=>simp only[hj,Option.map_some]at hq ⊢;exact ih hq
  |A9 cs=>
   simp only[HP,Abs.Ai,List.getElem?_map]at hq ⊢
   cases hj:cs[j]? with
   |none=>simp[hj]at hq
   |some c=>simp only[hj,Option.map_some]at hq ⊢;exact ih hq
theorem Cd.kill {δ:Nat->DV} {x:DV} (d:Nat) (h:Cd δ x) (hl:Sc x):Cd δ (Ew d x):=by
 induction h with
 |lf a v h=>
  rw[Qj]
  refine .lf _ v ?_
  cases hl with
  |lf _ _ hl=>
   cases a with
   |al r p=>
    rw[Qp]
    by_cases e:r=d
    . simp only[e,if_true];trivial
    . simp only[e,if_false];exact h
   |HX r p i j k=>
    rw[OU]
    by_cases e:r=d
    . simp only[e,if_true];trivial
    . simp only[e,if_false];exact h
   |vb s o us=>
    rw[Qq]
    split
    . trivial
    . exact h
   |cl f rs=>
    rw[NQ]
    split
    . exact h
    . trivial
   |agg cs=>simp[CB]at hl
   |A9 cs=>simp[CB]at hl
   |own=>simp[CB]at hl
   |_=>simp only[Cb];trivial
 |own=>rw[I3];exact .own _ _ _ _
 |agg cs _ ih=>
  rw[HO]
  cases hl with
  |agg _ hl=>
   refine .agg _ λi d' hd=> ?_
   simp only[List.getElem?_map,Option.map_eq_some_iff]at hd
   obtain⟨e,he,rfl⟩:=hd
   exact ih i e he (hl i e he)
 |A9 cs _ ih=>
  rw[HP]
  cases hl with
  |A9 _ hl=>
   refine .A9 _ λi d' hd=> ?_
   simp only[List.getElem?_map,Option.map_eq_some_iff]at hd
   obtain⟨e,he,rfl⟩:=hd
   exact ih i e he (hl i e he)
variable {G:Gi} {δ:Nat->DV} {Fr:Nat->Nat->Prop}
theorem St.VH (h:St G w S δ Fr) (d s:Nat):(Ex G d δ s).er=Gt G d (λs=>(δ s).er) s:=by
 unfold Ex Gt
 split
 . exact(Hb d (h.ok s)).1
 . rfl
theorem St.OV (h:St G w S δ Fr) (d s:Nat):(Ex G d δ s).Al=(δ s).Al:=by
 unfold Ex
 split
 . exact(Hb d (h.ok s)).2.1
 . rfl
theorem St.VJ (h:St G w S δ Fr) (d s:Nat):D8 d (Ex G d δ s).er=true:=by
 unfold Ex
 split
 . exact(Hb d (h.ok s)).2.2.2
 . rename_i hn
   exact ZY (h.rt s) λhm=>hn (Gi.Xu hm)
theorem St.dB (h:St G w S δ Fr) (d s:Nat):Ok w S (Ex G d δ s) (Fr s):=by
 unfold Ex
 split
 . exact(Hb d (h.ok s)).2.2.1
 . exact h.ok s
theorem St.VK (h:St G w S δ Fr) (d s:Nat):D9 (G.Ee s) (Ex G d δ s).er=true:=by
 unfold Ex
 split
 . rw[(Hb d (h.ok s)).1];exact ZA (h.rt s)
 . exact h.rt s
theorem St.dA (h:St G w S δ Fr) (d s:Nat):Cd δ (Ex G d δ s):=by
 unfold Ex
 split
 . exact(h.al s).kill d (h.ok s).Hw
 . exact h.al s
theorem ZC (d r:Nat) (p:List Step) {v:Value} {bx:Bool} {k:Nat} {rows:List (List DV)} (hq:Abs.Ai (δ r) p=some (.own v bx k rows)):Abs.Ai (Ex G d δ r) p=some (.own v bx k rows):=by
 unfold Ex
 split
 . exact Rg d p hq
 . exact hq
theorem ZN {L:List Nat} {d:Nat} {a:AV}:D9 L a=true->D8 d a=true->D9 (L.filter (· != d)) a=true:=by
 refine AV.rec (motive_1:=λa=>D9 L a=true->D8 d a=true->D9 (L.filter (· != d)) a=true) (motive_2:=λ_=>True) (motive_3:=λl=>Ko L l=true->JP d l=true->Ko (L.filter (· != d)) l=true)
  ?_ ?_ ?_ ?_ ?_ ?_ ?_ ?_ ?_ ?_ ?_ ?_ ?_ ?_ ?_ ?_ ?_ a
 all_goals intros
 all_goals first|trivial| (simp[D9];done)|skip
 all_goals first
  | (simp_all [D9,D8];done)
  | (simp_all [Ko,JP];done)
  | (rename_i h1 h2;simp only[D9,D8,List.all_eq_true,List.contains_iff_mem,List.mem_filter]at h1 h2 ⊢;exactλx hx=>⟨h1 x hx,h2 x hx⟩)
  | (rename_i ih h1 h2;simp only[D9,D8]at h1 h2 ⊢;exact ih h1 h2)
theorem St.set (h:St G w S δ Fr) (d:Nat) (dn:DV) (Fn:Nat->Prop) (hw:∀b,S b->w'.heap[b]? =w.heap[b]?) (hf:∀s,s≠d->∀x,Fr s x->w'.heap[x]? =w.heap[x]?)
 (hSS:∀b,S b->S' b) (hfS:∀s,s≠d->∀x,Fr s x->¬S' x) (hn:Ok w' S' dn Fn) (hdis:∀s,s≠d->∀x,Fn x->¬Fr s x) (hrt:D9 (G.Ee d) dn.er=true) (hal:Cd δ dn):
 St G w' S' (DF (Ex G d δ) d dn) (DF Fr d Fn):=by
 have hkeep:∀(L:List Nat),d∉L->∀r∈L,∀p v bx k rows,Abs.Ai (δ r) p=some (.own v bx k rows)->∃rows',Abs.Ai (DF (Ex G d δ) d dn r) p=some (.own v bx k rows'):=by
  intro L hL r hr p v bx k rows hq
  refine⟨rows,?_⟩
  rw[BK _ _ (by rintro rfl;exact hL hr)]
  exact ZC d r p hq
 have hkeep2:∀(L:List Nat),d∉L->∀r∈L,(DF (Ex G d δ) d dn r).Al=(δ r).Al:=by
  intro L hL r hr
  rw[BK _ _ (by rintro rfl;exact hL hr)]
  exact h.OV d r
 refine⟨?_,?_,?_,?_,h.self⟩
 . intro s
   by_cases hs:s=d
   . subst hs;rw[A8,A8];exact hn
   . rw[BK _ _ hs,BK _ _ hs]
     exact(h.dB d s).mono hw (hf s hs) hSS (hfS s hs)
 . intro s t x h1 h2
   by_cases hs:s=d<;>by_cases ht:t=d
   . omega
   . subst hs
     rw[A8]at h1
     rw[BK _ _ ht]at h2
     exact absurd h2 (hdis t ht x h1)
   . subst ht
     rw[A8]at h2
     rw[BK _ _ hs]at h1
     exact absurd h1 (hdis s hs x h2)
   . rw[BK _ _ hs]at h1
     rw[BK _ _ ht]at h2
     exact h.I0 s t x h1 h2
 . intro s
   by_cases hs:s=d
   . subst hs
     rw[A8]
     exact hal.mono hrt (hkeep _ (h.self s)) (hkeep2 _ (h.self s))
   . rw[BK _ _ hs]
     refine(h.dA d s).mono (ZN (h.VK d s) (h.VJ d s)) (hkeep _ ?_) (hkeep2 _ ?_)
     . simp
     . simp
 . intro s
   by_cases hs:s=d
   . subst hs;rw[A8];exact hrt
   . rw[BK _ _ hs];exact h.VK d s
theorem St.poke (h:St G w S δ Fr) (d:Nat) (dn:DV) (Fn:Nat->Prop) (hw:∀b,S b->w'.heap[b]? =w.heap[b]?) (hf:∀s,s≠d->∀x,Fr s x->w'.heap[x]? =w.heap[x]?)
 (hn:Ok w' S dn Fn) (hdis:∀s,s≠d->∀x,Fn x->¬Fr s x) (hrt:D9 (G.Ee d) dn.er=true) (hal:Cd δ dn)
 (hheads:∀p v bx k rows,Abs.Ai (δ d) p=some (.own v bx k rows)->∃rows',Abs.Ai dn p=some (.own v bx k rows')) (hann:dn.Al=(δ d).Al):
 St G w' S (DF δ d dn) (DF Fr d Fn):=by
 have hkeep:∀(L:List Nat),∀r∈L,∀p v bx k rows,Abs.Ai (δ r) p=some (.own v bx k rows)->∃rows',Abs.Ai (DF δ d dn r) p=some (.own v bx k rows'):=by
  intro L r _ p v bx k rows hq
  by_cases hr:r=d
  . subst hr;rw[A8];exact hheads p v bx k rows hq
  . rw[BK _ _ hr];exact⟨rows,hq⟩
 have hkeep2:∀(L:List Nat),∀r∈L,(DF δ d dn r).Al=(δ r).Al:=by
  intro L r _
  by_cases hr:r=d
  . subst hr;rw[A8];exact hann
  . rw[BK _ _ hr]
 refine⟨?_,?_,?_,?_,h.self⟩
 . intro s
   by_cases hs:s=d
   . subst hs;rw[A8,A8];exact hn
   . rw[BK _ _ hs,BK _ _ hs]
     exact(h.ok s).mono hw (hf s hs) (λ_ h=>h) (h.ok s).D6
 . intro s t x h1 h2
   by_cases hs:s=d<;>by_cases ht:t=d
   . omega
   . subst hs
     rw[A8]at h1
     rw[BK _ _ ht]at h2
     exact absurd h2 (hdis t ht x h1)
   . subst ht
     rw[A8]at h2
     rw[BK _ _ hs]at h1
     exact absurd h1 (hdis s hs x h2)
   . rw[BK _ _ hs]at h1
     rw[BK _ _ ht]at h2
     exact h.I0 s t x h1 h2
 . intro s
   by_cases hs:s=d
   . subst hs
     rw[A8]
     exact hal.mono hrt (hkeep _) (hkeep2 _)
   . rw[BK _ _ hs]
     exact(h.al s).mono (h.rt s) (hkeep _) (hkeep2 _)
 . intro s
   by_cases hs:s=d
   . subst hs;rw[A8];exact hrt
   . rw[BK _ _ hs];exact h.rt s
theorem St.world (h:St G w S δ Fr) (hw:∀b,S b->w'.heap[b]? =w.heap[b]?) (hf:∀s x,Fr s x->w'.heap[x]? =w.heap[x]?) (hSS:∀b,S b->S' b) (hfS:∀s x,Fr s x->¬S' x):St G w' S' δ Fr:=
 ⟨λs=>(h.ok s).mono hw (hf s) hSS (hfS s),h.I0,h.al,h.rt,h.self⟩
end Go.Abs
namespace Go.Abs
inductive Ar where
 |t (s:Nat)
 |c (a:AV)
 deriving Inhabited
inductive Rq where
 |cp (x:Ar)
 |mv (x:Ar)
 |fz (x:Ar)
 |pick (c a b:Ar)
 |bx (n:Nat) (x:Ar)
 |Dc (z:List AV) (ps:List (Nat×Nat×Ar))
 |Eg (k:Nat) (z:List (List AV)) (ps:List (Nat×Ar))
 |ld (agg:Bool) (n:Nat) (a:Ar)
 |st (n:Nat) (a v:Ar)
 |PL (off:Nat) (x:Ar)
 |fld (agg:Bool) (off n:Nat) (x:Ar)
 |Lr (k:Nat) (x i:Ar)
 |kP (len k:Nat) (x i:Ar)
 |idx (agg:Bool) (len k:Nat) (x i:Ar)
 |bin (op:BinOp) (x y:Ar)
 |beq (neg:Bool) (x y:Ar)
 |un (op:UnOp) (x:Ar)
 |Xk (k:IntKind) (x:Ar)
 |mm (mx:Bool) (x y:Ar)
 |len (x:Ar)
 |Pk (x:Ar)
 |UE (x i:Ar)
 |Vm (neg:Bool) (kd:List Nat) (x y:Ar)
 |app (k bytes:Nat) (x y:Ar)
 |UM (k:Nat) (fr:Bool) (x:Ar) (lo hi mx:Option Ar)
 |ext (x:Ar) (i:Nat)
 |mk (k bytes:Nat) (z:List AV) (l c:Ar)
 |FF (x:Ar)
 |fM (f:Nat) (xs:List Ar)
 |Qt (a:Ar)
 |fl
 |jA (x:Ar) (k:Nat)
 |VE (r off kb k:Nat) (i:Ar)
 |P1 (a v:Ar)
 |q9 (a:Ar)
 |call (f:Nat) (args:List Ar) (m:Nat)
 |EK (f:Nat) (pre:List Ar) (x:Ar) (c:Option Nat) (post:List Ar)
 |bad
 deriving Inhabited
structure DU where
 d:Nat
 kl:List Nat
 rs:List Nat
 deriving Inhabited
structure A7 where
 dst:Option DU
 op:Rq
 guard:Option (Nat×Bool)
 deriving Inhabited
structure Zs where
 s:Nat
 e:Nat
 ap:Nat
 i7:Nat
 i8:Nat
 i9:Nat
 i11:Nat
 i12:Nat
 deriving Inhabited
inductive V7 where
 |o (o:A7)
 |rM (d:DU) (n:Nat) (s:Nat)
 |clo (d:Option DU) (f:Nat) (x:Ar) (args:List Ar)
 |Ty (d:DU) (neg:Bool) (x:Ar)
 |uA (d:DU) (g n:Nat)
 deriving Inhabited
structure Zt where
 r:Nat
 off:Nat
 kb:Nat
 i0:Nat
 i1:Nat
 i2:Nat
 d0:Nat
 d1:Nat
 deriving Inhabited
inductive IC where
 |skip
 |bad
 |Z1 (ops:List V7)
 |gz (c:Bool) (r:Nat) (p:List Step) (a:IC)
 |pg (c:Bool) (r:Nat) (p:List Step) (a:IC)
 |tO (f:Zs) (ops:List A7)
 |TO (ops:List A7)
 |tZ (f:Zt) (a b:List A7)
 |Vt (fs:List (Nat×Nat×Nat×Nat)) (ops:List A7)
 |seq (a b:IC)
 |cond (c:Ar) (a b:IC)
 |block (id:Nat) (a:IC)
 |loop (a:IC)
 |exit (id:Nat)
 |ret
 deriving Inhabited
def ar (σ:Sg):Ar->AV
 | .t s=>σ s
 | .c a=>a
def E3:AV->Bool
 | .sc _| .sl .. =>true
 |_=>false
def Gl:AV->AV
 | .sc u=>.sc u
 | .sl x k rows=>.sl x k rows
 |_=>.dead
def D3:AV->Bool
 | .sc _| .sl .. | .own .. =>true
 |_=>false
mutual
def view (r:Nat):List Step->AV->AV
 |p,.own _ _ _=>.al r p
 |p,.agg cs=>.agg (Kw r p 0 cs)
 |p,.A9 cs=>.A9 (Kw r p 0 cs)
 |_,a=>a
def Kw (r:Nat) (p:List Step):Nat->List AV->List AV
 |_,[]=>[]
 |i,c::cs=>view r (p++[(0,i,0)]) c::Kw r p (i+1) cs
end
def vC (r:Nat) (p:List Step) (i j k:Nat):AV->AV
 | .own _ _ _=>.al r (p++[(i,j,k)])
 | .sc v=>.sc v
 | .sl x k' rows=>.sl x k' rows
 |_=>.dead
def vF (s j:Nat):AV->AV
 | .own _ _ _=>.al s [(0,j,0)]
 | .agg _=>.dead
 | .A9 _=>.dead
 |a=>a
def Kv (r:Nat) (p:List Step) (i k:Nat):Nat->List AV->List AV
 |_,[]=>[]
 |j,c::cs=>vC r p i j k c::Kv r p i k (j+1) cs
def Io (s:Nat):Nat->List AV->List AV
 |_,[]=>[]
 |j,c::cs=>vF s j c::Io s (j+1) cs
def Fh (kl:List Nat) (d:Nat) (σ:Sg):Sg:=match kl with
 |[]=>σ
 |_=>λs=>if s∈kl then Cb d (σ s)else σ s
def wr (d:DU) (v:AV) (σ:Sg):Option Sg:=if D9 d.rs v=true then some (DF (Fh d.kl d.d σ) d.d v)else none
def XL (G:Gi) (r:Nat) (p:List Step) (σ:Sg):Option (AV×Sg):=
 match sub (σ r) p with
 |some (.own b k rows)=>match put (σ r) p .dead with
  |some t=>some (.own b k rows,DF (Fq G p.length r σ) r t)
  |none=>none
 |_=>none
def Vv (G:Gi):List AV->Sg->Option (List AV×Sg)
 |[],σ=>some ([],σ)
 |a::cs,σ=>match a with
  | .al r p=>match XL G r p σ with
   |some (n,τ)=>match Vv G cs τ with
    |some (l,τ')=>some (n::l,τ')
    |none=>none
   |none=>none
  |a=>if D3 a=true then
   match Vv G cs σ with
   |some (l,τ)=>some (a::l,τ)
   |none=>none
   else none
def tk (G:Gi) (x:Ar) (σ:Sg):Option (AV×Sg):=
 match x with
 | .c a=>some (a,σ)
 | .t s=>match σ s with
  | .al r p=>XL G r p σ
  | .own b k rows=>some (.own b k rows,DF (Gt G s σ) s .dead)
  | .agg cs=>if cs.all E3=true then some (.agg cs,σ)else
   match Vv G cs (DF (Gt G s σ) s .dead)with
   |some (l,τ)=>some (.agg l,τ)
   |none=>none
  | .sc v=>some (.sc v,σ)
  | .sl e k rows=>some (.sl e k rows,σ)
  | .HX r p i j k=>some (.HX r p i j k,σ)
  | .fp cs=>some (.fp cs,σ)
  |_=>none
def cellsOf:AV->List AV
 | .agg cs=>cs
 |a=>[a]
def hd (σ:Sg) (x:Ar):Option (AV×Option (Nat×List Step)):=
 match x with
 | .c a=>match a with
  | .own b k rows=>some (.own b k rows,none)
  |_=>none
 | .t s=>match σ s with
  | .al r p=>match sub (σ r) p with
   |some n=>some (n,some (r,p))
   |none=>none
  | .own b k rows=>some (.own b k rows,some (s,[]))
  | .sl e k rows=>some (.sl e k rows,none)
  |_=>none
def LP (G:Gi) (r:Nat) (p:List Step) (σ:Sg):Option (AV×Sg):=
 match sub (σ r) p with
 |some (.own b k rows)=>match put (σ r) p (Gj (.own b k rows))with
  |some t=>some (Gj (.own b k rows),DF (Gt G r σ) r t)
  |none=>none
 |_=>none
def WG:AV->Option Int
 | .sc (.int _ n)=>some n
 |_=>none
def C3 (σ:Sg) (x:Ar):Option (Nat×List Step×Nat×Nat×Nat):=
 match x with
 | .c _=>none
 | .t s=>match σ s with
  | .HX r p i j k=>some (r,p,i,j,k)
  | .own true k _=>some (s,[],0,0,k)
  | .al r p=>match sub (σ r) p with
   |some (.own true k _)=>some (r,p,0,0,k)
   |_=>none
  |_=>none
def iN (op:BinOp) (k:IntKind) (x y:Int):Option Value:=
 match op with
 | .add=>some (.int k (k.wrap (x+y)))
 | .sub=>some (.int k (k.wrap (x-y)))
 | .mul=>some (.int k (k.wrap (x*y)))
 | .quo=>if y=0 then none else some (.int k (k.wrap (x.tdiv y)))
 | .rem=>if y=0 then none else some (.int k (x.tmod y))
 | .eql=>some (.bool (x==y))
 | .neq=>some (.bool (x != y))
 | .lss=>some (.bool (x<y))
 | .leq=>some (.bool (x≤y))
 | .gtr=>some (.bool (x>y))
 | .geq=>some (.bool (x≥y))
 |_=>none
def rL (op:BinOp):AV->AV->Option AV
 | .sc (.int k x),.sc (.int k' y)=>if k=k' then(iN op k x y).map .sc else none
 | .sc (.string x),.sc (.string y)=>match op with
  | .eql=>some (.sc (.bool (x.toList==y.toList)))
  | .neq=>some (.sc (.bool (!(x.toList==y.toList))))
  |_=>none
 |_,_=>none
def unF (op:UnOp):AV->Option AV
 | .sc (.bool x)=>match op with
  | .not=>some (.sc (.bool (!x)))
  |_=>none
 | .sc (.int k x)=>match op with
  | .neg=>some (.sc (.int k (k.wrap (0-x))))
  |_=>none
 |_=>none
def GA (agg:Bool) (n:Nat) (cs:List AV):Option AV:=
 if cs.length=n then(if agg=true then some (.agg cs)else match cs with|[c]=>some c|_=>none)else none
def NF (rows:List (List AV)) (lo hi:Nat):Option (List (List AV)):=
 if lo≤hi/\hi≤rows.length then some ((rows.drop lo).take (hi-lo))else none
def I7 (σ:Sg) (x:Option Ar) (d:Nat):Option Nat:=
 match x with
 |none=>some d
 |some a=>match WG (ar σ a)with
  |some n=>if 0≤n then some n.toNat else none
  |none=>none
def Zz (σ:Sg) (mx:Option Ar) (h:Nat):Option Nat:=
 match mx with
 |none=>some h
 |some a=>I7 σ (some a) 0
def Yp:Nat->Value->Value->Option Bool
 |0,.bool a,.bool b=>some (a==b)
 |1,.int k n,.int k' m=>if k=k' then some (n==m)else none
 |2,.string a,.string b=>some (a.toList==b.toList)
 |_,_,_=>none
def K9:List Nat->List AV->List AV->Option Bool
 |[],[],[]=>some true
 |kd::ks,.sc u::xs,.sc v::ys=>match Yp kd u v,K9 ks xs ys with
  |some a,some b=>some (a&&b)
  |_,_=>none
 |_,_,_=>none
def M8 (σ:Sg):List Ar->Option (List (Nat×List Step))
 |[]=>some []
 |x::r=>match x with
  | .t s=>(match σ s,M8 σ r with
   | .own true _ _,some l=>some ((s,[])::l)
   | .al q p,some l=>(match sub (σ q) p with
    |some (.own true _ _)=>some ((q,p)::l)
    |_=>none)
   |_,_=>none)
  | .c _=>none
def valOf (o:Rq) (σ:Sg):Option AV:=
 match o with
 | .cp x=>match x with
  | .t s=>some (view s [] (σ s))
  | .c a=>some a
 | .pick c a b=>match ar σ c with
  | .sc (.bool x)=>match ar σ (if x=true then a else b)with
   | .sc v=>some (.sc v)
   |_=>none
  |_=>none
 | .ld agg n a=>match a with
  | .c _=>none
  | .t s=>match σ s with
   | .fp cs=>GA agg n ((cs.take n).map Gl)
   | .vb q o _=>match σ q with
    | .agg cs=>GA agg n (Io q o ((cs.drop o).take n))
    |_=>none
   |_=>match C3 σ (.t s)with
    |some (r,p,i,j,k)=>match sub (σ r) p with
     |some (.own _ _ rows)=>match rows[i]? with
      |some row=>GA agg n (Kv r p i k j ((row.drop j).take n))
      |none=>none
     |_=>none
    |none=>none
 | .PL off x=>match x with
  | .c _=>none
  | .t s=>match σ s with
   | .fp cs=>some (.fp (cs.drop off))
   | .vb q o us=>some (.vb q (o+off) us)
   |_=>match C3 σ (.t s)with
    |some (r,p,i,j,k)=>some (.HX r p i (j+off) k)
    |none=>none
 | .fld agg off n x=>match x with
  | .c _=>none
  | .t s=>match σ s with
   | .agg cs=>GA agg n (Io s off ((cs.drop off).take n))
   |_=>none
 | .Lr k x i=>match hd σ x,WG (ar σ i)with
  |some (.own false k' rows,some (r,p)),some n=>if k'=k/\0≤n/\n<rows.length then some (.HX r p n.toNat 0 k)else none
  |some (.sl _ k' rows,_),some n=>if k'=k/\0≤n then(rows[n.toNat]?).map .fp else none
  |_,_=>none
 | .kP len k x i=>match x,WG (ar σ i)with
  | .t s,some n=>if 0≤n/\n<len then
   match σ s with
   | .fp cs=>some (.fp (cs.drop (n.toNat*k)))
   |_=>match C3 σ (.t s)with
    |some (r,p,i,j,k')=>some (.HX r p i (j+n.toNat*k) k')
    |none=>none
   else none
  |_,_=>none
 | .idx agg len k x i=>match x,WG (ar σ i)with
  | .t s,some n=>if 0≤n/\n<len then
   match σ s with
   | .agg cs=>GA agg k (Io s (n.toNat*k) ((cs.drop (n.toNat*k)).take k))
   |_=>none
   else none
  |_,_=>none
 | .bin op x y=>rL op (ar σ x) (ar σ y)
 | .beq neg x y=>match ar σ x,ar σ y with
  | .sc (.bool a),.sc (.bool b)=>some (.sc (.bool (if neg=true then !(a==b)else(a==b))))
  |_,_=>none
 | .un op x=>unF op (ar σ x)
 | .Xk k x=>match ar σ x with
  | .sc (.int _ n)=>some (.sc (.int k (k.wrap n)))
  |_=>none
 | .mm mx x y=>match ar σ x,ar σ y with
  | .sc (.int k n),.sc (.int k' m)=>if k=k' then some (.sc (.int k (if mx=true then(if m>n then m else n)else(if m<n then m else n))))else none
  |_,_=>none
 | .len x=>match hd σ x with
  |some (.own false _ rows,_)=>some (.sc (.int .i64 rows.length))
  |some (.sl _ _ rows,_)=>some (.sc (.int .i64 rows.length))
  |_=>none
 | .Pk x=>match ar σ x with
  | .sc (.string s)=>some (.sc (.int .i64 s.size))
  |_=>none
 | .UE x i=>match ar σ x,WG (ar σ i)with
  | .sc (.string s),some n=>if 0≤n then(s[n.toNat]?).map λb=>.sc (.int .u8 b.toNat)else none
  |_,_=>none
 | .Vm neg kd x y=>match ar σ x,ar σ y with
  | .agg xs,.agg ys=>(K9 kd xs ys).map λb=>.sc (.bool (if neg=true then !b else b))
  |_,_=>none
 | .ext x i=>match x with
  | .t s=>match σ s with
   | .A9 cs=>match cs[i]? with
    |some c=>some (view s [(0,i,0)] c)
    |none=>none
   |_=>none
  |_=>none
 | .FF x=>match ar σ x with
  | .HX r p i j k=>some (.HX r p i j k)
  | .fp cs=>some (.fp cs)
  | .al r p=>match sub (σ r) p with
   |some (.own true _ _)=>some (.al r p)
   |_=>none
  | .own true _ _=>match x with
   | .t s=>some (.al s [])
   |_=>none
  |_=>none
 | .fM f xs=>(M8 σ xs).map (.cl f)
 | .fl=>some .dead
 | .jA x k=>match x with
  | .t s=>match σ s with
   | .A9 cs=>if k<cs.length then some .dead else none
   |_=>none
  |_=>none
 | .VE r off kb k i=>match σ r,WG (ar σ i)with
  | .own true kb' [row],some n=>match row[off]? with
   |some (.own false k' rows)=>if kb'=kb/\k'=k/\0≤n/\n<rows.length then some (.HX r [(0,off,kb)] n.toNat 0 k)else none
   |_=>none
  |_,_=>none
 | .Qt a=>match C3 σ a with
  |some (r,p,i,j,k)=>match sub (σ r) p with
   |some (.own _ _ rows)=>match rows[i]? with
    |some row=>match row[j]? with
     |some (.own _ _ _)=>some (.al r (p++[(i,j,k)]))
     |_=>none
    |none=>none
   |_=>none
  |none=>none
 |_=>none
def UH (cs:List AV) (off:Nat) (xs:List AV):List AV:=cs.take off++xs++cs.drop (off+xs.length)
def PJ (G:Gi):List (Nat×Nat×Ar)->List AV->Sg->Option (List AV×Sg)
 |[],cs,σ=>some (cs,σ)
 | (off,n,x)::ps,cs,σ=>match tk G x σ with
  |some (a,τ)=>if(cellsOf a).length=n/\off+n≤cs.length/\(cellsOf a).all D3=true then PJ G ps (UH cs off (cellsOf a)) τ else none
  |none=>none
def PK (G:Gi) (k:Nat):List (Nat×Ar)->List (List AV)->Sg->Option (List (List AV)×Sg)
 |[],rows,σ=>some (rows,σ)
 | (i,x)::ps,rows,σ=>match tk G x σ with
  |some (a,τ)=>if(cellsOf a).length=k/\i<rows.length/\(cellsOf a).all D3=true then PK G k ps (rows.set i (cellsOf a)) τ else none
  |none=>none
def eR (p:List Step) (i k:Nat):Nat->List AV->AV->Option AV
 |_,[],t=>some t
 |j,c::cs,t=>match put t (p++[(i,j,k)]) c with
  |some t'=>eR p i k (j+1) cs t'
  |none=>none
def Aq (n bytes:Nat):Bool:=n*bytes≤70368744177664
def QK (G:Gi) (k:Nat) (y:Ar) (σ:Sg):Option (List (List AV)×Sg):=
 match y with
 | .t s=>match σ s with
  | .own false k' rows=>if k'=k/\rows.all (·.all D3)=true then some (rows,DF (Gt G s σ) s .dead)else none
  | .sl _ k' rows=>if k'=k/\rows.all (·.all E3)=true then some (rows,σ)else none
  | .al r p=>match LP G r p σ with
   |some (.sl _ k' rows,τ)=>if k'=k/\rows.all (·.all E3)=true then some (rows,τ)else none
   |_=>none
  |_=>none
 | .c a=>match a with
  | .own false _ []=>some ([],σ)
  |_=>none
def PG (G:Gi) (k:Nat) (x:Ar) (τ:Sg):Option (AV×Sg):=
 match x with
 | .t s=>match τ s with
  | .sl true k' rows=>if k'=k/\rows.all (·.all E3)=true then some (.sl true k' rows,τ)else none
  | .own false k' rows=>if k'=k then some (.own false k' rows,DF (Gt G s τ) s .dead)else none
  | .al r p=>match XL G r p τ with
   |some (.own false k' rows,τ')=>if k'=k then some (.own false k' rows,τ')else none
   |_=>none
  |_=>none
 | .c a=>match a with
  | .own false _ []=>some (.own false k [],τ)
  |_=>none
def ES (G:Gi) (o:Rq) (d:Option DU) (σ:Sg):Option Sg:=
 match o,d with
 | .mv x,some d=>match tk G x σ with
  |some (v,τ)=>wr d v τ
  |none=>none
 | .fz x,some d=>match x with
  | .t s=>match σ s with
   | .al r p=>match LP G r p σ with
    |some (v,τ)=>wr d v τ
    |none=>none
   | .own _ _ _=>match LP G s [] σ with
    |some (v,τ)=>wr d v τ
    |none=>none
   | .sc v=>wr d (.sc v) σ
   | .sl e k rows=>wr d (.sl e k rows) σ
   |_=>none
  | .c _=>none
 | .bx n x,some d=>match tk G x σ with
  |some (v,τ)=>if(cellsOf v).length=n/\(cellsOf v).all D3=true then wr d (.own true n [cellsOf v]) τ else none
  |none=>none
 | .Dc z ps,some d=>match PJ G ps z σ with
  |some (cs,τ)=>wr d (.agg cs) τ
  |none=>none
 | .Eg k z ps,some d=>match PK G k ps z σ with
  |some (rows,τ)=>wr d (.own false k rows) τ
  |none=>none
 | .mk k bytes z l c,some d=>match WG (ar σ l),WG (ar σ c)with
  |some l,some c=>if 0≤l/\l≤c/\Aq c.toNat bytes=true then wr d (.own false k (List.replicate l.toNat z)) σ else none
  |_,_=>none
 | .UM k fr x lo hi mx,some d=>match hd σ x with
  |some (.sl _ k' rows,_)=>match I7 σ lo 0,I7 σ hi rows.length with
   |some l,some h=>match NF rows l h,Zz σ mx h with
    |some rs,some m=>if k'=k/\m=h then wr d (.sl mx.isSome k rs) σ else none
    |_,_=>none
   |_,_=>none
  |some (.own false k' rows,some (r,p))=>match I7 σ lo 0,I7 σ hi rows.length with
   |some l,some h=>match NF rows l h,Zz σ mx h with
    |some rs,some m=>if k'=k/\m=h then
     (if fr=true then
      match LP G r p σ with
      |some (_,τ)=>wr d (.sl mx.isSome k (rs.map (·.map Gj))) τ
      |none=>none
     else if l=0/\mx.isNone=true then
      match XL G r p σ with
      |some (_,τ)=>wr d (.own false k rs) τ
      |none=>none
     else none)
     else none
    |_,_=>none
   |_,_=>none
  |_=>none
 | .app k bytes x y,some d=>match QK G k y σ with
  |some (ys,τ)=>match PG G k x τ with
   |some (.own _ _ rows,τ')=>if Aq (rows.length+ys.length) bytes=true then wr d (.own false k (rows++ys)) τ' else none
   |some (.sl e _ rows,τ')=>match ys with
    |[]=>wr d (.sl e k rows) τ'
    |y::ys=>if Aq (rows.length+(y::ys).length) bytes=true then wr d (.own false k (rows++y::ys)) τ' else none
   |_=>none
  |none=>none
 | .st n a v,none=>match tk G v σ with
  |some (x,τ)=>match C3 τ a with
   |some (r,p,i,j,k)=>match sub (τ r) p with
    |some (.own _ _ rows)=>match rows[i]? with
     |some row=>
      if(cellsOf x).length=n/\(cellsOf x).all D3=true/\j+n≤row.length then
       match eR p i k j (cellsOf x) (τ r)with
       |some t=>if((row.drop j).take n).all CB=true then some (DF τ r t)else some (DF (Gt G r τ) r t)
       |none=>none
      else none
     |none=>none
    |_=>none
   |none=>none
  |none=>none
 | .P1 a v,none=>match ar σ v with
  | .sc u=>match C3 σ a with
   |some (r,p,i,j,k)=>match sub (σ r) p with
    |some (.own _ _ rows)=>match rows[i]? with
     |some row=>match row[j]? with
      |some (.sc _)=>match put (σ r) (p++[(i,j,k)]) (.sc u)with
       |some t=>some (DF σ r t)
       |none=>none
      |_=>none
     |none=>none
    |_=>none
   |none=>none
  |_=>none
 | .q9 a,none=>match C3 σ a with
  |some (r,p,i,j,_)=>match sub (σ r) (p++[(i,j,0)])with
   |some .dead=>some σ
   |_=>none
  |none=>none
 |o,some d=>match valOf o σ with
  |some v=>wr d v σ
  |none=>none
 |_,none=>none
theorem dG {a:Ar} {σ:Sg} {v:AV} (h:valOf (.Qt a) σ=some v):valOf (.ld false 1 a) σ=some v:=by
 simp only[valOf]at h ⊢
 split at h
 . rename_i r p i j k ha
   split at h
   . rename_i b k' rows hs
     split at h
     . rename_i row hr
       split at h
       . rename_i b2 k2 rows2 hc
         obtain rfl:=Option.some.inj h
         have hd:(row.drop j).take 1=[.own b2 k2 rows2]:=by
          obtain⟨hj,hx⟩:=List.getElem?_eq_some_iff.1 hc
          rw[List.drop_eq_getElem_cons hj,hx];rfl
         cases a with
         |c=>simp[C3]at ha
         |t s=>
          simp only
          cases hσ:σ s with
          |fp cs=>simp[C3,hσ]at ha
          |vb q o us=>simp[C3,hσ]at ha
          |_=>simp only[ha,hs,hr,hd];rfl
       . cases h
     . cases h
   . cases h
 . cases h
theorem sU {G:Gi} {a v:Ar} {σ τ:Sg} (h:ES G (.P1 a v) none σ=some τ):ES G (.st 1 a v) none σ=some τ:=by
 simp only[ES]at h ⊢
 split at h
 . rename_i u hu
   have htk:tk G v σ=some (.sc u,σ):=by
    cases v with
    |c c=>simp only[ar]at hu;subst hu;rfl
    |t s=>simp only[ar]at hu;simp[tk,hu]
   rw[htk]
   simp only
   split at h
   . rename_i r p i j k ha
     try simp only[ha]
     split at h
     . rename_i b k' rows hs
       try simp only[hs]
       split at h
       . rename_i row hr
         try simp only[hr]
         split at h
         . rename_i u0 hc
           obtain⟨hj,hx⟩:=List.getElem?_eq_some_iff.1 hc
           have hd:(row.drop j).take 1=[.sc u0]:=by rw[List.drop_eq_getElem_cons hj,hx];rfl
           split at h
           . rename_i t ht
             obtain rfl:=Option.some.inj h
             rw[if_pos ⟨by simp[cellsOf],by simp[cellsOf,D3],by omega⟩]
             simp[cellsOf,eR,ht,hd,CB]
           . cases h
         . cases h
       . cases h
     . cases h
   . cases h
 . cases h
def Tt (kb off:Nat):AV->Bool
 | .own true k [row]=>k==kb&&decide (off<row.length)
 |_=>false
end Go.Abs
namespace Go.Abs
structure Ext (w w':World) (F:Nat->Prop):Prop where
 os:w'.os=w.os
 tape:w'.tape=w.tape
 output:w'.output=w.output
 size:w.heap.size≤w'.heap.size
 block:∀b,b<w.heap.size->¬F b->w'.heap[b]? =w.heap[b]?
def Ho:List ByteArray:=[⟨#[118,97,114]⟩,⟨#[118,111,108,97,116,105,108,101]⟩,⟨#[109,117,116,101,120]⟩,⟨#[114,119,108,111,99,107]⟩,⟨#[99,111,110,100]⟩,⟨#[102,117,116,117,114,101]⟩,⟨#[116,104,114,101,97,100]⟩,⟨#[105,102]⟩,⟨#[101,108,115,101]⟩,⟨#[119,104,105,108,101]⟩,⟨#[108,111,99,107]⟩,⟨#[114,101,97,100]⟩,⟨#[119,114,105,116,101]⟩,⟨#[116,114,97,110,115,97,99,116,105,111,110]⟩,⟨#[97,116,111,109,105,99]⟩,⟨#[119,97,105,116]⟩,⟨#[110,111,116,105,102,121]⟩,⟨#[110,111,116,105,102,121,97,108,108]⟩,⟨#[115,112,97,119,110]⟩,⟨#[106,111,105,110]⟩,⟨#[115,101,116]⟩,⟨#[103,101,116]⟩]
def Gam:List (Nat×List Value):=[(0,Ho.map Value.string)]
def GI (w:World) (S:Nat->Prop):Prop:=∀x∈Gam,S x.1/\∃arr E fz,w.heap[x.1]? =some (.cells arr E fz)/\∀(j:Nat) v,x.2[j]? =some v->arr[j]? =some v
def A5 (P:Program) (f:Nat) (args:List AV) (res:AV) (outs:List AV):Prop:=
 ∀(w:World) (S:Nat->Prop) (ds:List DV) (F:Nat->Prop),GI w S->ds.map DV.er=args->Ok w S (.A9 ds) F->(∀b,S b->b<w.heap.size)->
  Calls P f (ds.map DV.Al).toArray w λe w'=>∃(r:DV) (os:List DV) (S' F':Nat->Prop),e= .returned r.Al/\r.er=res/\os.map DV.er=outs/\os.map DV.Al=ds.map DV.Al/\
   Ok w' S' (.A9 (r::os)) F'/\Ext w w' F/\(∀b,S b->S' b)/\(∀b,S' b->S b∨F b∨w.heap.size≤b)/\(∀b,S' b->b<w'.heap.size)/\(∀x,F' x->F x∨w.heap.size≤x)
def Says (P:Program) (f:Nat) (args:List AV) (res:AV):Prop:=A5 P f args res (args.map λ_=>.dead)
def Nj (σ:Sg):AV->Option AV
 | .al r p=>match sub (σ r) p with
  |some (.own false k rows)=>some (Gj (.own false k rows))
  |some (.own true _ [row])=>some (.fp (row.map Gj))
  |_=>none
 | .own false k rows=>some (Gj (.own false k rows))
 | .own true _ [row]=>some (.fp (row.map Gj))
 | .fp cs=>some (.fp cs)
 | .sc v=>some (.sc v)
 | .sl _ k rows=>some (.sl false k rows)
 |_=>none
def Z0 (σ:Sg):List AV->Option (List AV)
 |[]=>some []
 |a::r=>match Nj σ a,Z0 σ r with
  |some x,some l=>some (x::l)
  |_,_=>none
def VV (σ:Sg):AV->Option AV
 | .agg cs=>match Z0 σ cs with
  |some l=>some (.agg l)
  |none=>none
 | .al r p=>Nj σ (.al r p)
 | .own b k rows=>Nj σ (.own b k rows)
 | .sc v=>Nj σ (.sc v)
 | .sl e k rows=>Nj σ (.sl e k rows)
 | .fp cs=>Nj σ (.fp cs)
 |_=>none
def G5 (σ:Sg):List Ar->Option (List AV)
 |[]=>some []
 |x::r=>match VV σ (ar σ x),G5 σ r with
  |some a,some l=>some (a::l)
  |_,_=>none
def rT:AV->AV
 | .sl _ k rows=>.sl false k rows
 |a=>Gj a
def Zx:AV->AV
 | .agg cs=>.agg (cs.map rT)
 |a=>rT a
def Iu (G:Gi):List Ar->Sg->Option (List AV×Sg)
 |[],σ=>some ([],σ)
 |x::r,σ=>match tk G x σ with
  |some (a,τ)=>match Iu G r τ with
   |some (l,τ')=>some (Zx a::l,τ')
   |none=>none
  |none=>none
def Lz (G:Gi):List Ar->Sg->Option (List AV×Sg)
 |[],σ=>some ([],σ)
 |x::r,σ=>match tk G x σ with
  |some (a,τ)=>match Lz G r τ with
   |some (l,τ')=>some (a::l,τ')
   |none=>none
  |none=>none
def QP (σ:Sg):List (Nat×List Step)->Option (List (List AV))
 |[]=>some []
 | (r,p)::l=>match Nj σ (.al r p),QP σ l with
  |some (.fp cs),some css=>some (cs::css)
  |_,_=>none
def Pn (G:Gi):List Ar->Sg->Option (List AV×Sg)
 |[],_=>none
 |x::r,σ=>match r with
  |[]=>(match ar σ x with
   | .cl f rs=>(match QP σ rs with
    |some css=>some ([.Wn f css],σ)
    |none=>none)
   |_=>none)
  |y::r=>match tk G x σ with
   |some (a,τ)=>match Pn G (y::r) τ with
    |some (l,τ')=>some (a::l,τ')
    |none=>none
   |none=>none
def Ss:AV->Bool
 | .sc _=>true
 | .agg cs=>cs.all λ| .sc _=>true|_=>false
 | .A9 cs=>cs.all λ| .sc _=>true|_=>false
 |_=>false
mutual
def fresh:AV->Bool
 | .sc _=>true
 | .own _ _ rows=>MQ rows
 | .agg cs=>KM cs
 | .A9 cs=>KM cs
 |_=>false
def KM:List AV->Bool
 |[]=>true
 |a::r=>fresh a&&KM r
def MQ:List (List AV)->Bool
 |[]=>true
 |a::r=>KM a&&MQ r
end
def HK:AV->Bool
 | .sc _| .sl .. | .own .. =>true
 |_=>false
def clean:AV->Bool
 | .agg cs=>cs.all HK
 | .A9 cs=>cs.all λ
  | .agg l=>l.all HK
  |a=>HK a
 |a=>HK a
def Oi (m:Nat) (res:AV):Option AV:=
 match m with
 |0=>if Ss res=true then some res else none
 |1=>some (Gj res)
 |2=>if fresh res=true then some res else none
 |3=>if clean res=true then some res else none
 |4=>if fresh res=true then some res else none
 |_=>none
def ER (G:Gi) (m:Nat) (args:List Ar) (σ:Sg):Option (List AV×Sg):=
 match m with
 |1=>Iu G args σ
 |3=>Lz G args σ
 |4=>Pn G args σ
 |_=>match G5 σ args with
  |some l=>some (l,σ)
  |none=>none
def CJ (dst:Option DU) (v:AV) (K:Sg->Prop) (τ:Sg):Prop:=
 match dst with
 |some d=>(match wr d v τ with
  |some τ'=>K τ'
  |none=>False)
 |none=>K τ
def sF (σ:Sg):Ar->Option (Nat×List Step)
 | .t s=>match σ s with
  | .al r p=>some (r,p)
  | .own _ _ _=>some (s,[])
  |_=>none
 | .c _=>none
def HJ:AV->Bool
 | .own .. | .dead=>true
 |_=>false
def Mb:AV->AV
 | .sc v=>.sc v
 | .sl _ k rows=>.sl false k rows
 |_=>.dead
def fN (σ:Sg):Ar->Option AV
 | .t s=>match σ s with
  | .agg cs=>some (.agg (cs.map Mb))
  |a=>some (Mb a)
 | .c a=>match a with
  | .sc v=>some (.sc v)
  | .own false k []=>some (.sl false k [])
  |_=>none
def Kg (σ:Sg):List Ar->Option (List AV)
 |[]=>some []
 |x::r=>match fN σ x,Kg σ r with
  |some a,some l=>some (a::l)
  |_,_=>none
def Ke (σ:Sg) (x:Ar) (c:Option Nat):Option (Nat×List Step):=match c with
 |none=>sF σ x
 |some j=>match x with
  | .t s=>match σ s with
   | .agg cs=>match cs[j]? with
    |some (.al r p)=>some (r,p)
    |some (.own _ _ _)=>some (s,[(0,j,0)])
    |_=>none
   |_=>none
  | .c _=>none
def NV (σ:Sg) (x:Ar) (c:Option Nat) (n:AV):AV:=match c with
 |none=>n
 |some j=>match ar σ x with
  | .agg cs=>.agg ((cs.map Mb).set j n)
  |_=>.dead
def Mz (c:Option Nat) (out:AV):Option AV:=match c with
 |none=>some out
 |some j=>match out with
  | .agg cs=>cs[j]?
  |_=>none
def Tv (u:AV) (b:Bool) (k:Nat) (p:List Step):Nat:=match u with
 | .own b' k' _=>if b'=b/\k'=k then p.length+1 else 0
 |_=>0
def C5 (P:Program) (G:Gi) (o:A7) (K:Sg->Prop) (σ:Sg):Prop:=
 match o.op with
 | .call f args m=>match ER G m args σ with
  |some (aZ9,τ)=>∃res,Says P f aZ9 res/\(match Oi m res with
   |some v=>CJ o.dst v K τ
   |none=>False)
  |none=>False
 | .EK f pre x c post=>match Ke σ x c,Kg σ pre,Kg σ post with
  |some (r,p),some aZ9,some bs=>(match sub (σ r) p with
   |some (.own b k rows)=>∃res out u,A5 P f (aZ9++NV σ x c (.own b k rows)::bs) res ((aZ9.map λ_=>.dead)++out::bs.map λ_=>.dead)/\Mz c out=some u/\HJ u=true/\clean res=true/\(match put (σ r) p u with
    |some t=>CJ o.dst res K (DF (Fq G (Tv u b k p) r σ) r t)
    |none=>False)
   |_=>False)
  |_,_,_=>False
 |op=>match ES G op o.dst σ with
  |some τ=>K τ
  |none=>False
def HU (P:Program) (G:Gi) (o:A7) (K:Sg->Prop) (σ:Sg):Prop:=
 match o.guard with
 |none=>C5 P G o K σ
 |some (g,want)=>match σ g with
  | .sc (.bool b)=>if b=want then C5 P G o K σ else
   (match o.dst with
   |some d=>K (DF (Fh d.kl d.d σ) d.d .un)
   |none=>K σ)
  | .un=>(match o.dst with
   |some d=>K (DF (Fh d.kl d.d σ) d.d .un)
   |none=>K σ)
  |_=>False
def KH (P:Program) (G:Gi):List A7->(Sg->Prop)->Sg->Prop
 |[],K,σ=>K σ
 |o::os,K,σ=>HU P G o (KH P G os K) σ
def rowsOf:AV->Option (List (List AV))
 | .own false _ rows=>some rows
 | .sl _ _ rows=>some rows
 |_=>none
def Yf (σ:Sg):List (Nat×List Step)->Option (List AV)
 |[]=>some []
 | (r,p)::l=>match Nj σ (.al r p),Yf σ l with
  |some a,some aZ9=>some (a::aZ9)
  |_,_=>none
def iR (σ:Sg) (f:Nat) (x:Ar) (args:List Ar):Option (List AV):=match ar σ x with
 | .cl f' rs=>if f'=f then(match G5 σ args,Yf σ rs with
  |some aZ9,some bs=>some (aZ9++bs)
  |_,_=>none)else none
 |_=>none
def U9 (g n:Nat):Option (List Value):=match Gam.find? (λx=>x.1==g)with
 |some x=>if x.2.length=n/\x.2.all EO=true then some x.2 else none
 |none=>none
def K5 (P:Program) (G:Gi):List V7->(Sg->Prop)->Sg->Prop
 |[],K,σ=>K σ
 | .o o::xs,K,σ=>HU P G o (K5 P G xs K) σ
 | .Ty d neg x::xs,K,σ=>match hd σ x with
  |some (a,_)=>(match rowsOf a with
   |some rows=>∀b:Bool,(b=true->rows=[])->CJ (some d) (.sc (.bool (if neg=true then !b else b))) (K5 P G xs K) σ
   |none=>False)
  |none=>False
 | .uA d g n::xs,K,σ=>match U9 g n with
  |some cs=>CJ (some d) (.agg (cs.map .sc)) (K5 P G xs K) σ
  |none=>False
 | .rM d n s::xs,K,σ=>match σ s with
  | .agg cs=>cs.length=n/\∀us:List Value,us.length=n->CJ (some d) (.vb s 0 us) (K5 P G xs K) σ
  |_=>False
 | .clo d f x args::xs,K,σ=>match iR σ f x args with
  |some aZ9=>∃res,Says P f aZ9 res/\(match Oi 0 res with
   |some v=>CJ d v (K5 P G xs K) σ
   |none=>False)
  |none=>False
def czS (G:Gi) (r:Nat) (p:List Step) (σ:Sg):Option Sg:=match sub (σ r) p with
 |some (.own b k rows)=>(match put (σ r) p (.own b k (LO rows))with
  |some t=>some (DF (Fq G (p.length+1) r σ) r t)
  |none=>none)
 |_=>none
def fJ (G:Gi) (c:Bool) (r:Nat) (p:List Step) (σ:Sg):Option Sg:=if c=true then czS G r p σ else match sub (σ r) p with
 |some (.sl _ _ _)=>some σ
 |_=>match LP G r p σ with
  |some (_,τ)=>some τ
  |none=>none
def uL (G:Gi) (c:Bool) (r:Nat) (p:List Step) (Q:Exit->Sg->Prop):Exit->Sg->Prop
 | .normal,σ=>(match fJ G c r p σ with
  |some τ=>Q .normal τ
  |none=>False)
 |e,σ=>Q e σ
def Lp (P:Program) (G:Gi) (f:Zt):List A7->(Sg->Prop)->Sg->Prop
 |[],K,σ=>K σ
 |o::os,K,σ=>Tt f.kb f.off (σ f.r)=true/\HU P G o (Lp P G f os K) σ
def KQ:AV->Bool
 | .own false _ _=>true
 |_=>false
def MU:AV->Bool
 | .HX .. =>true
 |_=>false
def ZP (f:Zs) (m:Nat) (σ:Sg):Bool:=(decide (m≤f.i7)||KQ (σ f.s))&&(decide (m≤f.i8)||MU (σ f.e))&&(decide (m≤f.i11)||MU (σ f.ap))
def Ja (P:Program) (G:Gi) (f:Zs):Nat->List A7->(Sg->Prop)->Sg->Prop
 |m,[],K,σ=>ZP f m σ=true/\K σ
 |m,o::os,K,σ=>ZP f m σ=true/\HU P G o (Ja P G f (m+1) os K) σ
def Exit.Lj (next:Sg->Prop) (Q:Exit->Sg->Prop):Exit->Sg->Prop
 | .normal,σ=>next σ
 |e,σ=>Q e σ
def Exit.QO (id:Nat) (Q:Exit->Sg->Prop):Exit->Sg->Prop
 | .exit i,σ=>if i=id then Q .normal σ else Q (.exit i) σ
 |e,σ=>Q e σ
def FZ (P:Program) (G:Gi):IC->(Exit->Sg->Prop)->Sg->Prop
 | .skip,Q,σ=>Q .normal σ
 | .bad,_,_=>False
 | .Z1 xs,Q,σ=>K5 P G xs (Q .normal) σ
 | .tO f ops,Q,σ=>Ja P G f 0 ops (HU P G ⟨none,.st 1 (.t f.ap) (.t f.s),none⟩ (Q .normal)) σ
 | .pg c r p a,Q,σ=>FZ P G a (uL G c r p Q) σ
 | .gz c r p a,Q,σ=>match fJ G c r p σ with
  |some τ=>FZ P G a Q τ
  |none=>False
 | .TO ops,Q,σ=>KH P G ops (Q .normal) σ
 | .tZ f a b,Q,σ=>Lp P G f a (KH P G b (Q .normal)) σ
 | .Vt _ ops,Q,σ=>KH P G ops (Q .normal) σ
 | .seq a b,Q,σ=>FZ P G a (Exit.Lj (FZ P G b Q) Q) σ
 | .cond c a b,Q,σ=>match ar σ c with
  | .sc (.bool x)=>if x=true then FZ P G a Q σ else FZ P G b Q σ
  |_=>False
 | .block id a,Q,σ=>FZ P G a (Exit.QO id Q) σ
 | .loop a,Q,σ=>∃I:Nat->Sg->Prop,(∃n,I n σ)/\∀n τ,I n τ->FZ P G a (Exit.Lj (λτ'=>∃n',n'<n/\I n' τ') Q) τ
 | .exit id,Q,σ=>Q (.exit id) σ
 | .ret,Q,σ=>Q .ret σ
theorem bM (P:Program) (G:Gi) (Q:Exit->Sg->Prop) (σ:Sg):FZ P G .skip Q σ=Q .normal σ:=(rfl)
theorem gY (P:Program) (G:Gi) (ops:List A7) (Q:Exit->Sg->Prop) (σ:Sg):FZ P G (.TO ops) Q σ=KH P G ops (Q .normal) σ:=(rfl)
theorem hZ (P:Program) (G:Gi) (xs:List V7) (Q:Exit->Sg->Prop) (σ:Sg):FZ P G (.Z1 xs) Q σ=K5 P G xs (Q .normal) σ:=(rfl)
theorem Xd (P:Program) (G:Gi) (a b:IC) (Q:Exit->Sg->Prop) (σ:Sg):FZ P G (.seq a b) Q σ=FZ P G a (Exit.Lj (FZ P G b Q) Q) σ:=(rfl)
theorem YX (P:Program) (G:Gi) (id:Nat) (a:IC) (Q:Exit->Sg->Prop) (σ:Sg):FZ P G (.block id a) Q σ=FZ P G a (Exit.QO id Q) σ:=(rfl)
theorem bJ (P:Program) (G:Gi) (id:Nat) (Q:Exit->Sg->Prop) (σ:Sg):FZ P G (.exit id) Q σ=Q (.exit id) σ:=(rfl)
theorem gZ (P:Program) (G:Gi) (Q:Exit->Sg->Prop) (σ:Sg):FZ P G .ret Q σ=Q .ret σ:=(rfl)
theorem Uo (P:Program) (G:Gi) (c:Ar) (a b:IC) (Q:Exit->Sg->Prop) (σ:Sg):FZ P G (.cond c a b) Q σ=match ar σ c with
 | .sc (.bool x)=>if x=true then FZ P G a Q σ else FZ P G b Q σ
 |_=>False:=rfl
theorem bL {P:Program} {G:Gi} {a:IC} {Q:Exit->Sg->Prop} {σ:Sg} (I:Nat->Sg->Prop) (n:Nat) (h:I n σ)
 (round:∀n τ,I n τ->FZ P G a (Exit.Lj (λτ'=>∃n',n'<n/\I n' τ') Q) τ):FZ P G (.loop a) Q σ:=⟨I,⟨n,h⟩,round⟩
theorem Vk (next:Sg->Prop) (Q:Exit->Sg->Prop) (σ:Sg):Exit.Lj next Q .normal σ=next σ:=(rfl)
theorem Ze (next:Sg->Prop) (Q:Exit->Sg->Prop) (id:Nat) (σ:Sg):Exit.Lj next Q (.exit id) σ=Q (.exit id) σ:=(rfl)
theorem eK (next:Sg->Prop) (Q:Exit->Sg->Prop) (σ:Sg):Exit.Lj next Q .ret σ=Q .ret σ:=(rfl)
theorem Ru (id:Nat) (Q:Exit->Sg->Prop) (σ:Sg):Exit.QO id Q .normal σ=Q .normal σ:=(rfl)
theorem KJ (id i:Nat) (Q:Exit->Sg->Prop) (σ:Sg):Exit.QO id Q (.exit i) σ=if i=id then Q .normal σ else Q (.exit i) σ:=(rfl)
theorem WM (id:Nat) (Q:Exit->Sg->Prop) (σ:Sg):Exit.QO id Q .ret σ=Q .ret σ:=(rfl)
inductive RV where
 |tmp (t:Nat)
 |cell (a:Nat) (agg:Bool) (n:Nat)
 deriving Inhabited
def EF (G:Gi):List RV->Sg->Option (List AV×Sg)
 |[],σ=>some ([],σ)
 | .tmp t::l,σ=>match tk G (.t t) σ with
  |some (v,τ)=>match EF G l τ with
   |some (vs,τ')=>some (v::vs,τ')
   |none=>none
  |none=>none
 | .cell a agg n::l,σ=>match σ a with
  | .own true _ [row]=>match GA agg n row with
   |some v=>match EF G l (DF (Gt G a σ) a .dead)with
    |some (vs,τ')=>some (v::vs,τ')
    |none=>none
   |none=>none
  |_=>none
def one:List AV->AV
 |[v]=>v
 |vs=>.A9 vs
def Ends (G:Gi) (rs:List RV) (res:AV) (e:Exit) (σ:Sg):Prop:=
 (match e with| .normal=>True| .ret=>True|_=>False)/\∃vs τ,EF G rs σ=some (vs,τ)/\one vs=res
def start (args:List AV):Sg:=λs=>args.getD s .un
end Go.Abs
namespace Go.Abs
variable {w w':World} {S S':Nat->Prop} {F F':Nat->Prop} {G:Gi} {δ δ':Nat->DV} {Fr:Nat->Nat->Prop}
theorem Ql (n d r:Nat) (p:List Step):Dk n d (.al r p)=if r=d/\n≤p.length then .dead else .al r p:=by simp[Dk]
theorem OT (n d r:Nat) (p:List Step) (i j k:Nat):Dk n d (.HX r p i j k)=if r=d/\n≤p.length then .dead else .HX r p i j k:=by simp[Dk]
@[simp]theorem S6 (n d:Nat) (cs:List AV):Dk n d (.agg cs)= .agg (cs.map (Dk n d)):=by simp[Dk,S5]
@[simp]theorem S7 (n d:Nat) (cs:List AV):Dk n d (.A9 cs)= .A9 (cs.map (Dk n d)):=by simp[Dk,S5]
theorem Qn (n d s o:Nat) (us:List Value):Dk n d (.vb s o us)=if s=d then .dead else .vb s o us:=by simp[Dk]
theorem Qm (n d f:Nat) (rs:List (Nat×List Step)):Dk n d (.cl f rs)=if(rs.all λx=>x.1 != d)=true then .cl f rs else .dead:=by simp[Dk]
@[simp]theorem S4 (n d:Nat) (a:AV) (v:Value):ET n d (.lf a v)= .lf (Dk n d a) v:=by simp[ET]
@[simp]theorem JN (n d:Nat) (h:Value) (b:Bool) (k:Nat) (rows:List (List DV)):ET n d (.own h b k rows)= .own h b k rows:=by simp[ET]
@[simp]theorem IJ (n d:Nat) (cs:List DV):ET n d (.agg cs)= .agg (cs.map (ET n d)):=by simp[ET,Qk]
@[simp]theorem IK (n d:Nat) (cs:List DV):ET n d (.A9 cs)= .A9 (cs.map (ET n d)):=by simp[ET,Qk]
theorem LC (L:List Nat) (n d:Nat):∀(a:AV),D9 L a=true->D9 L (Dk n d a)=true
 | .al r p,h=>by
  rw[Ql];split
  . simp
  . exact h
 | .HX r p i j k,h=>by
  rw[OT];split
  . simp
  . exact h
 | .agg cs,h=>by
  rw[HA,List.all_eq_true]at h
  rw[S6,HA,List.all_map,List.all_eq_true]
  intro c hc
  exact LC L n d c (h c hc)
 | .A9 cs,h=>by
  rw[JT,List.all_eq_true]at h
  rw[S7,JT,List.all_map,List.all_eq_true]
  intro c hc
  exact LC L n d c (h c hc)
 | .sc _,_=>by simp[Dk]
 | .sl ..,_=>by simp[Dk]
 | .own ..,_=>by simp[Dk]
 | .fp _,_=>by simp[Dk]
 | .dead,_=>by simp[Dk]
 | .un,_=>by simp[Dk]
 | .Wn ..,_=>by simp[Dk,D9]
 | .vb s o us,h=>by
  rw[Qn];split
  . simp
  . exact h
 | .cl f rs,h=>by
  rw[Qm];split
  . exact h
  . simp
theorem Wy {a:AV} (n d:Nat) {v:Value} (ha:FG w S a v):FG w S (Dk n d a) v:=by
 cases a with
 |al r p=>rw[Ql];split<;>simp[FG]
 |HX r p i j k=>rw[OT];split<;>simp[FG]
 |cl f rs=>rw[Qm];split<;>trivial
 |vb s o us=>rw[Qn];split<;>first|trivial|exact ha
 |agg cs=>exact ha.elim
 |A9 cs=>exact ha.elim
 |own=>exact ha.elim
 |_=>simpa[Dk]using ha
theorem Hv {x:DV} (n d:Nat) (h:Ok w S x F):(ET n d x).er=Dk n d x.er/\(ET n d x).Al=x.Al/\Ok w S (ET n d x) F:=by
 induction h with
 |lf a v F ha hF=>
  refine⟨by simp,by simp,?_⟩
  rw[S4]
  exact .lf _ v F (Wy n d ha) hF
 |nil k F hF=>exact⟨by simp[Dk],by simp,by rw[JN];exact .nil k F hF⟩
 |own bx k rows b c arr E Fs F hb hk hcap hSb hv hr hd hval hbF hF ih=>
  exact⟨by simp[Dk],by simp,by rw[JN];exact .own bx k rows b c arr E Fs F hb hk hcap hSb hv hr hd hval hbF hF⟩
 |agg cs Fs F hr hd hval hF ih=>
  have key:∀e∈cs,(ET n d e).er=Dk n d e.er/\(ET n d e).Al=e.Al:=by
   intro e he
   obtain⟨i,hi⟩:=List.getElem?_of_mem he
   exact⟨(ih i e hi).1,(ih i e hi).2.1⟩
  refine⟨?_,?_,?_⟩
  . simp only[IJ,E1,S6,List.map_map,AV.agg.injEq]
    exact List.map_congr_left λe he=>(key e he).1
  . simp only[IJ,G0,List.map_map]
    congr 2
    exact List.map_congr_left λe he=>(key e he).2
  . rw[IJ]
    refine .agg _ Fs F ?_ hd ?_ hF
    . intro i e h1
      simp only[List.getElem?_map,Option.map_eq_some_iff]at h1
      obtain⟨e0,h0,rfl⟩:=h1
      exact(ih i e0 h0).2.2
    . intro i x hx
      obtain⟨e,h1⟩:=hval i x hx
      exact⟨ET n d e,by simp[h1]⟩
 |A9 cs Fs F hr hd hval hF ih=>
  have key:∀e∈cs,(ET n d e).er=Dk n d e.er/\(ET n d e).Al=e.Al:=by
   intro e he
   obtain⟨i,hi⟩:=List.getElem?_of_mem he
   exact⟨(ih i e hi).1,(ih i e hi).2.1⟩
  refine⟨?_,?_,?_⟩
  . simp only[IK,Gh,S7,List.map_map,AV.A9.injEq]
    exact List.map_congr_left λe he=>(key e he).1
  . simp only[IK,Ht,List.map_map]
    congr 2
    exact List.map_congr_left λe he=>(key e he).2
  . rw[IK]
    refine .A9 _ Fs F ?_ hd ?_ hF
    . intro i e h1
      simp only[List.getElem?_map,Option.map_eq_some_iff]at h1
      obtain⟨e0,h0,rfl⟩:=h1
      exact(ih i e0 h0).2.2
    . intro i x hx
      obtain⟨e,h1⟩:=hval i x hx
      exact⟨ET n d e,by simp[h1]⟩
theorem Cd.Dk {x:DV} (n d:Nat) (h:Cd δ x) (hl:Sc x)
 (hk:∀r p v bx k rows,(r≠d∨p.length<n)->Ai (δ r) p=some (.own v bx k rows)->∃rows',Ai (δ' r) p=some (.own v bx k rows')) (hk2:∀r,r≠d->(δ' r).Al=(δ r).Al):Cd δ' (ET n d x):=by
 induction h with
 |lf a v h=>
  rw[S4]
  refine .lf _ v ?_
  cases hl with
  |lf _ _ hl=>
   cases a with
   |al r p=>
    rw[Ql]
    split
    . trivial
    . rename_i e
      obtain⟨bx,k,rows,h⟩:=h
      obtain⟨rows',h'⟩:=hk r p v bx k rows (by omega) h
      exact⟨bx,k,rows',h'⟩
   |HX r p i j k=>
    rw[OT]
    split
    . trivial
    . obtain⟨hh,bx,rows,b,h,hb,rfl⟩:=h
      obtain⟨rows',h'⟩:=hk r p hh bx k rows (by omega) h
      exact⟨hh,bx,rows',b,h',hb,rfl⟩
   |vb s o us=>
    rw[Qn]
    split
    . trivial
    . exact(hk2 s (by assumption)).trans h
   |cl f rs=>
    rw[Qm]
    split
    . rename_i hr
      obtain⟨vs,h1,h2,h3⟩:=h
      refine⟨vs,h1,h2,λi r p u hi hu=> ?_⟩
      obtain⟨bx,k,rows,hs⟩:=h3 i r p u hi hu
      rw[List.all_eq_true]at hr
      obtain⟨rows',h'⟩:=hk r p u bx k rows (.inl (by simpa using hr _ (List.mem_of_getElem? hi))) hs
      exact⟨bx,k,rows',h'⟩
    . trivial
   |agg cs=>simp[CB]at hl
   |A9 cs=>simp[CB]at hl
   |own=>simp[CB]at hl
   |_=>simp only[Abs.Dk];trivial
 |own=>rw[JN];exact .own _ _ _ _
 |agg cs _ ih=>
  rw[IJ]
  cases hl with
  |agg _ hl=>
   refine .agg _ λi d' hd=> ?_
   simp only[List.getElem?_map,Option.map_eq_some_iff]at hd
   obtain⟨e,he,rfl⟩:=hd
   exact ih i e he (hl i e he)
 |A9 cs _ ih=>
  rw[IK]
  cases hl with
  |A9 _ hl=>
   refine .A9 _ λi d' hd=> ?_
   simp only[List.getElem?_map,Option.map_eq_some_iff]at hd
   obtain⟨e,he,rfl⟩:=hd
   exact ih i e he (hl i e he)
theorem St.S8 (h:St G w S δ Fr) (n d s:Nat):(Ec G n d δ s).er=Fq G n d (λs=>(δ s).er) s:=by
 unfold Ec Fq
 split
 . exact(Hv n d (h.ok s)).1
 . rfl
theorem St.MV (h:St G w S δ Fr) (n d s:Nat):(Ec G n d δ s).Al=(δ s).Al:=by
 unfold Ec
 split
 . exact(Hv n d (h.ok s)).2.1
 . rfl
theorem St.Y8 (h:St G w S δ Fr) (n d s:Nat):Ok w S (Ec G n d δ s) (Fr s):=by
 unfold Ec
 split
 . exact(Hv n d (h.ok s)).2.2
 . exact h.ok s
theorem St.Y9 (h:St G w S δ Fr) (n d s:Nat):D9 (G.Ee s) (Ec G n d δ s).er=true:=by
 unfold Ec
 split
 . rw[(Hv n d (h.ok s)).1];exact LC _ n d _ (h.rt s)
 . exact h.rt s
theorem Pm {t:DV} (n d:Nat) (q:List Step) {v:Value} {bx:Bool} {k:Nat} {rows:List (List DV)}:Abs.Ai (ET n d t) q=some (.own v bx k rows)↔Abs.Ai t q=some (.own v bx k rows):=by
 induction q generalizing t with
 |nil=>
  simp only[Abs.Ai,Option.some.injEq]
  cases t<;>simp
 |cons s q ih=>
  obtain⟨i,j,k0⟩:=s
  cases t with
  |lf a v=>simp[Abs.Ai]
  |own h b k1 rows1=>rw[JN]
  |agg cs=>
   simp only[IJ,Abs.Ai,List.getElem?_map]
   cases hj:cs[j]? with
   |none=>simp
   |some c=>simp only[Option.map_some];exact ih
  |A9 cs=>
   simp only[IK,Abs.Ai,List.getElem?_map]
   cases hj:cs[j]? with
   |none=>simp
   |some c=>simp only[Option.map_some];exact ih
theorem Qo (n d r:Nat) (p:List Step) {v:Value} {bx:Bool} {k:Nat} {rows:List (List DV)}:Abs.Ai (Ec G n d δ r) p=some (.own v bx k rows)↔Abs.Ai (δ r) p=some (.own v bx k rows):=by
 unfold Ec
 split
 . exact Pm n d p
 . exact Iff.rfl
theorem OZ {t t' y:DV} (q:List Step):∀(p:List Step),q.length≤p.length->DA t p y=some t'->(q.length=p.length->∀v bx k rows,Abs.Ai t p=some (.own v bx k rows)->∃rows',y= .own v bx k rows')->∀{v:Value} {bx:Bool} {k:Nat} {rows:List (List DV)},Abs.Ai t q=some (.own v bx k rows)->∃rows',Abs.Ai t' q=some (.own v bx k rows'):=by
 induction q generalizing t t' with
 |nil=>
  intro p hl hp hy v bx k rows hq
  simp only[Abs.Ai,Option.some.injEq]at hq
  subst hq
  match p,hl with
  |[],_=>
   simp only[DA,Option.some.injEq]at hp
   subst hp
   obtain⟨rows',h⟩:=hy rfl v bx k rows rfl
   exact⟨rows',by rw[h];rfl⟩
  | (i,j,k0)::p,_=>
   simp only[DA]at hp
   split at hp
   . split at hp
     . split at hp
       . simp only[Option.some.injEq]at hp;subst hp;exact⟨_,by simp[Abs.Ai];rfl⟩
       . cases hp
     . cases hp
   . cases hp
 |cons s q ih=>
  intro p hl hp hy v bx k rows hq
  obtain⟨i,j,k0⟩:=s
  match p,hl with
  | (i',j',k')::p,hl=>
   have hl':q.length≤p.length:=by simpa using hl
   cases t with
   |lf a v=>simp[Abs.Ai]at hq
   |own h b k1 rows1=>
    simp only[DA]at hp
    split at hp
    . rename_i row hrow
      split at hp
      . rename_i c hc
        split at hp
        . rename_i c' hc'
          simp only[Option.some.injEq]at hp
          subst hp
          simp only[Abs.Ai]at hq ⊢
          cases hi:rows1[i]? with
          |none=>simp[hi]at hq
          |some row2=>
           simp only[hi]at hq
           cases hj:row2[j]? with
           |none=>simp[hj]at hq
           |some c2=>
            simp only[hj]at hq
            have hi2:i<rows1.length:=(List.getElem?_eq_some_iff.1 hi).1
            have hj2:j<row2.length:=(List.getElem?_eq_some_iff.1 hj).1
            by_cases e1:i'=i
            . subst e1
              rw[hi]at hrow;cases hrow
              rw[List.getElem?_set_self hi2]
              by_cases e2:j'=j
              . subst e2
                rw[hj]at hc;cases hc
                simp only[List.getElem?_set_self hj2]
                exact ih p hl' hc' (λe v bx k rows h=>hy (by simp[e]) v bx k rows (by simp only[Abs.Ai,hi,hj];exact h)) hq
              . simp only[List.getElem?_set_ne e2,hj]
                exact⟨rows,hq⟩
            . rw[List.getElem?_set_ne e1]
              simp only[hi,hj]
              exact⟨rows,hq⟩
        . cases hp
      . cases hp
    . cases hp
   |agg cs=>
    simp only[DA]at hp
    split at hp
    . rename_i c hc
      split at hp
      . rename_i c' hc'
        simp only[Option.some.injEq]at hp
        subst hp
        simp only[Abs.Ai]at hq ⊢
        cases hj:cs[j]? with
        |none=>simp[hj]at hq
        |some c2=>
         simp only[hj]at hq
         have hj2:j<cs.length:=(List.getElem?_eq_some_iff.1 hj).1
         by_cases e2:j'=j
         . subst e2
           rw[hj]at hc;cases hc
           simp only[List.getElem?_set_self hj2]
           exact ih p hl' hc' (λe v bx k rows h=>hy (by simp[e]) v bx k rows (by simp only[Abs.Ai,hj];exact h)) hq
         . simp only[List.getElem?_set_ne e2,hj]
           exact⟨rows,hq⟩
      . cases hp
    . cases hp
   |A9 cs=>
    simp only[DA]at hp
    split at hp
    . rename_i c hc
      split at hp
      . rename_i c' hc'
        simp only[Option.some.injEq]at hp
        subst hp
        simp only[Abs.Ai]at hq ⊢
        cases hj:cs[j]? with
        |none=>simp[hj]at hq
        |some c2=>
         simp only[hj]at hq
         have hj2:j<cs.length:=(List.getElem?_eq_some_iff.1 hj).1
         by_cases e2:j'=j
         . subst e2
           rw[hj]at hc;cases hc
           simp only[List.getElem?_set_self hj2]
           exact ih p hl' hc' (λe v bx k rows h=>hy (by simp[e]) v bx k rows (by simp only[Abs.Ai,hj];exact h)) hq
         . simp only[List.getElem?_set_ne e2,hj]
           exact⟨rows,hq⟩
      . cases hp
    . cases hp
theorem St.sO (h:St G w S δ Fr) (n d:Nat) (dn:DV) (Fn:Nat->Prop) (hw:∀b,S b->w'.heap[b]? =w.heap[b]?) (hf:∀s,s≠d->∀x,Fr s x->w'.heap[x]? =w.heap[x]?)
 (hSS:∀b,S b->S' b) (hfS:∀s,s≠d->∀x,Fr s x->¬S' x) (hn:Ok w' S' dn Fn) (hdis:∀s,s≠d->∀x,Fn x->¬Fr s x) (hrt:D9 (G.Ee d) dn.er=true) (hal:Cd δ dn)
 (hab:∀p v bx k rows,p.length<n->Abs.Ai (δ d) p=some (.own v bx k rows)->∃rows',Abs.Ai dn p=some (.own v bx k rows')):
 St G w' S' (DF (Ec G n d δ) d dn) (DF Fr d Fn):=by
 have hkeep:∀r p v bx k rows,(r≠d∨p.length<n)->Abs.Ai (δ r) p=some (.own v bx k rows)->∃rows',Abs.Ai (DF (Ec G n d δ) d dn r) p=some (.own v bx k rows'):=by
  intro r p v bx k rows hr hq
  by_cases e:r=d
  . subst e
    rw[A8]
    exact hab p v bx k rows (by omega) hq
  . rw[BK _ _ e]
    exact⟨rows,(Qo n d r p).2 hq⟩
 have hkeep2:∀r,r≠d->(DF (Ec G n d δ) d dn r).Al=(δ r).Al:=by
  intro r hr
  rw[BK _ _ hr]
  exact h.MV n d r
 refine⟨?_,?_,?_,?_,h.self⟩
 . intro s
   by_cases hs:s=d
   . subst hs;rw[A8,A8];exact hn
   . rw[BK _ _ hs,BK _ _ hs]
     exact(h.Y8 n d s).mono hw (hf s hs) hSS (hfS s hs)
 . intro s t x h1 h2
   by_cases hs:s=d<;>by_cases ht:t=d
   . omega
   . subst hs
     rw[A8]at h1
     rw[BK _ _ ht]at h2
     exact absurd h2 (hdis t ht x h1)
   . subst ht
     rw[A8]at h2
     rw[BK _ _ hs]at h1
     exact absurd h1 (hdis s hs x h2)
   . rw[BK _ _ hs]at h1
     rw[BK _ _ ht]at h2
     exact h.I0 s t x h1 h2
 . intro s
   by_cases hs:s=d
   . subst hs
     rw[A8]
     refine hal.mono hrt (λr hr p v bx k rows hq=>hkeep r p v bx k rows (.inl ?_) hq) (λr hr=>hkeep2 r ?_)
     . rintro rfl;exact h.self _ hr
     . rintro rfl;exact h.self _ hr
   . rw[BK _ _ hs]
     unfold Ec
     split
     . exact(h.al s).Dk n d (h.ok s).Hw hkeep hkeep2
     . rename_i hn
       have hd:d∉G.Ee s:=λhm=>hn (Gi.Xu hm)
       refine(h.al s).mono (h.rt s) (λr hr p v bx k rows hq=>hkeep r p v bx k rows (.inl ?_) hq) (λr hr=>hkeep2 r ?_)
       . rintro rfl;exact hd hr
       . rintro rfl;exact hd hr
 . intro s
   by_cases hs:s=d
   . subst hs;rw[A8];exact hrt
   . rw[BK _ _ hs];exact h.Y9 n d s
end Go.Abs
namespace Go.Abs
variable {w w':World} {S S':Nat->Prop} {G:Gi} {δ:Nat->DV} {Fr:Nat->Nat->Prop}
structure Nx (w:World) (S U:Nat->Prop) (w':World) (S' U':Nat->Prop):Prop where
 os:w'.os=w.os
 tape:w'.tape=w.tape
 output:w'.output=w.output
 size:w.heap.size≤w'.heap.size
 block:∀b,b<w.heap.size->¬U b->w'.heap[b]? =w.heap[b]?
 sub:∀b,S b->S' b
 sup:∀b,S' b->S b∨U b∨w.heap.size≤b
 lt:(∀b,S b->b<w.heap.size)->∀b,S' b->b<w'.heap.size
 own:∀x,U' x->U x∨w.heap.size≤x
theorem Nx.refl (w:World) (S U:Nat->Prop):Nx w S U w S U:=
 ⟨rfl,rfl,rfl,Nat.le_refl _,λ_ _ _=>rfl,λ_ h=>h,λ_ h=>.inl h,λh=>h,λ_ h=>.inl h⟩
theorem Nx.less {w:World} {S U U':Nat->Prop} (h:∀x,U' x->U x):Nx w S U w S U':=
 ⟨rfl,rfl,rfl,Nat.le_refl _,λ_ _ _=>rfl,λ_ h=>h,λ_ h=>.inl h,λh=>h,λx hx=>.inl (h x hx)⟩
theorem Nx.trans {w w1 w2:World} {S S1 S2 U U1 U2:Nat->Prop} (h:Nx w S U w1 S1 U1) (k:Nx w1 S1 U1 w2 S2 U2):Nx w S U w2 S2 U2:=by
 refine⟨k.os.trans h.os,k.tape.trans h.tape,k.output.trans h.output,Nat.le_trans h.size k.size,?_,λb hb=>k.sub b (h.sub b hb),?_,λhl b hb=>k.lt (h.lt hl) b hb,?_⟩
 . intro b hb hU
   rw[k.block b (Nat.lt_of_lt_of_le hb h.size) ?_,h.block b hb hU]
   intro hU1
   rcases h.own b hU1 with h1|h1
   . exact hU h1
   . omega
 . intro b hb
   have hs:=h.size
   rcases k.sup b hb with h1|h1|h1
   . exact h.sup b h1
   . rcases h.own b h1 with h2|h2
     . exact .inr (.inl h2)
     . exact .inr (.inr h2)
   . exact .inr (.inr (Nat.le_trans hs h1))
 . intro x hx
   have hs:=h.size
   rcases k.own x hx with h1|h1
   . exact h.own x h1
   . exact .inr (Nat.le_trans hs h1)
abbrev A3 (Fr:Nat->Nat->Prop):Nat->Prop:=λx=>∃s,Fr s x
theorem cZ (d:Nat) (σ:Sg):Fh (G.JG d) d σ=Gt G d σ:=by
 unfold Fh Gt
 split
 . rename_i h;funext s;simp[h]
 . rfl
theorem Cd.dead (v:Value):Cd δ (.lf .dead v):=.lf _ _ trivial
theorem St.empty (h:St G w S δ Fr) (s:Nat):
 St G w S (DF (Ex G s δ) s (.lf .dead (δ s).Al)) (DF Fr s λ_=>False):=by
 refine h.set s _ _ (λ_ _=>rfl) (λ_ _ _ _=>rfl) (λ_ h=>h) (λt _ x hx=>(h.ok t).D6 x hx) (.lf _ _ _ trivial (λ_ h=>h)) (λ_ _ _ h=>h.elim) (by simp) (Cd.dead _)
theorem Fp (h:St G w S δ Fr) (d:Nat) (x:DV):(λs=>(DF (Ex G d δ) d x s).er)=DF (Gt G d (λs=>(δ s).er)) d x.er:=by
 funext s
 by_cases hs:s=d
 . subst hs;simp[DF]
 . simp only[DF,hs,if_false];exact h.VH d s
theorem FH (h:St G w S δ Fr) (d:Nat) (x:DV) (s:Nat):(DF (Ex G d δ) d x s).Al=if s=d then x.Al else(δ s).Al:=by
 by_cases hs:s=d
 . subst hs;simp[DF]
 . simp only[DF,hs,if_false];exact h.OV d s
theorem Oy {t t':DV} {a:AV} {v0:Value} (p:List Step) (hp:DA t p (.lf a v0)=some t') (q:List Step) {v:Value} {bx:Bool} {k:Nat} {rows:List (List DV)}
 (hq:Ai t' q=some (.own v bx k rows)):∃rows',Ai t q=some (.own v bx k rows'):=by
 induction p generalizing t t' q with
 |nil=>
  simp only[DA,Option.some.injEq]at hp
  subst hp
  cases q with
  |nil=>simp[Ai]at hq
  |cons s q=>simp[Ai]at hq
 |cons s p ih=>
  obtain⟨i,j,k0⟩:=s
  cases t with
  |lf a v=>simp[DA]at hp
  |own hh b k1 rows1=>
   simp only[DA]at hp
   cases hi:rows1[i]? with
   |none=>simp[hi]at hp
   |some row=>
    simp only[hi]at hp
    cases hj:row[j]? with
    |none=>simp[hj]at hp
    |some c=>
     simp only[hj]at hp
     cases hc:DA c p (.lf a v0)with
     |none=>simp[hc]at hp
     |some c'=>
      simp only[hc,Option.some.injEq]at hp
      subst hp
      have hlt:=(List.getElem?_eq_some_iff.1 hi).1
      have hji:=(List.getElem?_eq_some_iff.1 hj).1
      cases q with
      |nil=>
       simp only[Ai,Option.some.injEq,DV.own.injEq]at hq
       obtain⟨rfl,rfl,rfl,_⟩:=hq
       exact⟨_,rfl⟩
      |cons s2 q=>
       obtain⟨i2,j2,k2⟩:=s2
       simp only[Ai]at hq ⊢
       by_cases h1:i2=i
       . subst h1
         simp only[List.getElem?_set_self hlt]at hq
         simp only[hi]
         by_cases h2:j2=j
         . subst h2
           simp only[List.getElem?_set_self hji]at hq
           simp only[hj]
           exact ih hc q hq
         . rw[List.getElem?_set_ne (by omega)]at hq
           exact⟨rows,hq⟩
       . rw[List.getElem?_set_ne (by omega)]at hq
         exact⟨rows,hq⟩
  |agg cs=>
   simp only[DA]at hp
   cases hj:cs[j]? with
   |none=>simp[hj]at hp
   |some c=>
    simp only[hj]at hp
    cases hc:DA c p (.lf a v0)with
    |none=>simp[hc]at hp
    |some c'=>
     simp only[hc,Option.some.injEq]at hp
     subst hp
     have hji:=(List.getElem?_eq_some_iff.1 hj).1
     cases q with
     |nil=>simp[Ai]at hq
     |cons s2 q=>
      obtain⟨i2,j2,k2⟩:=s2
      simp only[Ai]at hq ⊢
      by_cases h2:j2=j
      . subst h2
        simp only[List.getElem?_set_self hji]at hq
        simp only[hj]
        exact ih hc q hq
      . rw[List.getElem?_set_ne (by omega)]at hq
        exact⟨rows,hq⟩
  |A9 cs=>
   simp only[DA]at hp
   cases hj:cs[j]? with
   |none=>simp[hj]at hp
   |some c=>
    simp only[hj]at hp
    cases hc:DA c p (.lf a v0)with
    |none=>simp[hc]at hp
    |some c'=>
     simp only[hc,Option.some.injEq]at hp
     subst hp
     have hji:=(List.getElem?_eq_some_iff.1 hj).1
     cases q with
     |nil=>simp[Ai]at hq
     |cons s2 q=>
      obtain⟨i2,j2,k2⟩:=s2
      simp only[Ai]at hq ⊢
      by_cases h2:j2=j
      . subst h2
        simp only[List.getElem?_set_self hji]at hq
        simp only[hj]
        exact ih hc q hq
      . rw[List.getElem?_set_ne (by omega)]at hq
        exact⟨rows,hq⟩
theorem LH {t t' new:DV} (p:List Step) (hp:DA t p new=some t') (ht:Cd δ t) (hn:Cd δ new):Cd δ t':=by
 induction p generalizing t t' with
 |nil=>simp only[DA,Option.some.injEq]at hp;exact hp▸hn
 |cons s p ih=>
  obtain⟨i,j,k⟩:=s
  cases ht with
  |lf a v h=>simp[DA]at hp
  |own hh b k1 rows=>
   simp only[DA]at hp
   split at hp
   . split at hp
     . split at hp
       . simp only[Option.some.injEq]at hp;subst hp;exact .own _ _ _ _
       . cases hp
     . cases hp
   . cases hp
  |agg cs hr=>
   simp only[DA]at hp
   split at hp
   . rename_i c hc
     split at hp
     . rename_i c' hc'
       simp only[Option.some.injEq]at hp
       subst hp
       refine .agg _ λi d hd=> ?_
       by_cases hi:i=j
       . subst hi
         rw[List.getElem?_set_self (List.getElem?_eq_some_iff.1 hc).1]at hd
         obtain rfl:=Option.some.inj hd
         exact ih hc' (hr i c hc)
       . rw[List.getElem?_set_ne (by omega)]at hd
         exact hr i d hd
     . cases hp
   . cases hp
  |A9 cs hr=>
   simp only[DA]at hp
   split at hp
   . rename_i c hc
     split at hp
     . rename_i c' hc'
       simp only[Option.some.injEq]at hp
       subst hp
       refine .A9 _ λi d hd=> ?_
       by_cases hi:i=j
       . subst hi
         rw[List.getElem?_set_self (List.getElem?_eq_some_iff.1 hc).1]at hd
         obtain rfl:=Option.some.inj hd
         exact ih hc' (hr i c hc)
       . rw[List.getElem?_set_ne (by omega)]at hd
         exact hr i d hd
     . cases hp
   . cases hp
theorem Kf {L:List Nat} {t t' new:DV} (p:List Step) (hp:DA t p new=some t') (ht:D9 L t.er=true) (hn:D9 L new.er=true):D9 L t'.er=true:=by
 induction p generalizing t t' with
 |nil=>simp only[DA,Option.some.injEq]at hp;exact hp▸hn
 |cons s p ih=>
  obtain⟨i,j,k⟩:=s
  cases t with
  |lf a v=>simp[DA]at hp
  |own hh b k1 rows=>
   simp only[DA]at hp
   split at hp
   . split at hp
     . split at hp
       . simp only[Option.some.injEq]at hp;subst hp;simp
       . cases hp
     . cases hp
   . cases hp
  |agg cs=>
   simp only[DA]at hp
   split at hp
   . rename_i c hc
     split at hp
     . rename_i c' hc'
       simp only[Option.some.injEq]at hp
       subst hp
       simp only[E1,HA,List.all_map,List.all_eq_true]at ht ⊢
       intro x hx
       rcases List.mem_or_eq_of_mem_set hx with h|rfl
       . exact ht x h
       . exact ih hc' (ht c (List.mem_of_getElem? hc))
     . cases hp
   . cases hp
  |A9 cs=>
   simp only[DA]at hp
   split at hp
   . rename_i c hc
     split at hp
     . rename_i c' hc'
       simp only[Option.some.injEq]at hp
       subst hp
       simp only[Gh,JT,List.all_map,List.all_eq_true]at ht ⊢
       intro x hx
       rcases List.mem_or_eq_of_mem_set hx with h|rfl
       . exact ht x h
       . exact ih hc' (ht c (List.mem_of_getElem? hc))
     . cases hp
   . cases hp
theorem St.replace {n:DV} (h:St G w S δ Fr) (r:Nat) (p:List Step) (hs:Ai (δ r) p=some n):
 ∃Fo,Ok w S n Fo/\(∀x,Fo x->Fr r x)/\∀(S':Nat->Prop) (new:DV),new.Al=n.Al->Ok w S' new (λ_=>False)->(∀b,S b->S' b)->(∀t b,Fr t b->¬Fo b->¬S' b)->
  (∀L,D9 L new.er=true)->Cd δ new->
  ∃t F',DA (δ r) p new=some t/\St G w S' (DF (Ex G r δ) r t) (DF Fr r F')/\(∀x,F' x↔Fr r x/\¬Fo x)/\t.Al=(δ r).Al:=by
 obtain⟨Fo,ho,hsub,hrep⟩:=(h.ok r).replace p hs
 refine⟨Fo,ho,hsub,?_⟩
 intro S' new ha hn hSS hfS hroot hal
 obtain⟨t,F',ht,hok,hiff,hann⟩:=hrep w S' new (λ_=>False) ha hn (λ_ h=>h.elim) (λ_ _=>rfl) (λ_ _ _=>rfl) hSS (λb hb hb'=>hfS r b hb hb')
 have hiff':∀x,F' x↔Fr r x/\¬Fo x:=λx=>by rw[hiff x];simp
 refine⟨t,F',ht,?_,hiff',hann⟩
 refine h.set r t F' (λ_ _=>rfl) (λ_ _ _ _=>rfl) hSS ?_ hok ?_ (Kf p ht (h.rt r) (hroot _)) (LH p ht (h.al r) hal)
 . intro s hs' x hx
   exact hfS s x hx λho'=>hs' (h.I0 s r x hx (hsub x ho'))
 . intro s hs' x hx hx'
   exact hs' (h.I0 s r x hx' ((hiff' x).1 hx).1)
theorem NH (h:St G w S δ Fr) (n d:Nat) (x:DV):(λs=>(DF (Ec G n d δ) d x s).er)=DF (Fq G n d (λs=>(δ s).er)) d x.er:=by
 funext s
 by_cases hs:s=d
 . subst hs;simp[DF]
 . simp only[DF,hs,if_false];exact h.S8 n d s
theorem Lo (h:St G w S δ Fr) (n d:Nat) (x:DV) (s:Nat):(DF (Ec G n d δ) d x s).Al=if s=d then x.Al else(δ s).Al:=by
 by_cases hs:s=d
 . subst hs;simp[DF]
 . simp only[DF,hs,if_false];exact h.MV n d s
theorem St.eA {n:DV} (h:St G w S δ Fr) (r:Nat) (p:List Step) (hs:Ai (δ r) p=some n):
 ∃Fo,Ok w S n Fo/\(∀x,Fo x->Fr r x)/\∀(S':Nat->Prop) (new:DV),new.Al=n.Al->Ok w S' new (λ_=>False)->(∀b,S b->S' b)->(∀t b,Fr t b->¬Fo b->¬S' b)->
  (∀L,D9 L new.er=true)->Cd δ new->
  ∃t F',DA (δ r) p new=some t/\St G w S' (DF (Ec G p.length r δ) r t) (DF Fr r F')/\(∀x,F' x↔Fr r x/\¬Fo x)/\t.Al=(δ r).Al:=by
 obtain⟨Fo,ho,hsub,hrep⟩:=(h.ok r).replace p hs
 refine⟨Fo,ho,hsub,?_⟩
 intro S' new ha hn hSS hfS hroot hal
 obtain⟨t,F',ht,hok,hiff,hann⟩:=hrep w S' new (λ_=>False) ha hn (λ_ h=>h.elim) (λ_ _=>rfl) (λ_ _ _=>rfl) hSS (λb hb hb'=>hfS r b hb hb')
 have hiff':∀x,F' x↔Fr r x/\¬Fo x:=λx=>by rw[hiff x];simp
 refine⟨t,F',ht,?_,hiff',hann⟩
 refine h.sO p.length r t F' (λ_ _=>rfl) (λ_ _ _ _=>rfl) hSS ?_ hok ?_ (Kf p ht (h.rt r) (hroot _)) (LH p ht (h.al r) hal) ?_
 . intro s hs' x hx
   exact hfS s x hx λho'=>hs' (h.I0 s r x hx (hsub x ho'))
 . intro s hs' x hx hx'
   exact hs' (h.I0 s r x hx' ((hiff' x).1 hx).1)
 . intro q v bx k rows hq hsq
   exact OZ q p (by omega) ht (λe=>absurd e (by omega)) hsq
theorem St.XL (h:St G w S δ Fr) {r:Nat} {p:List Step} {a:AV} {τ:Sg} (ht:Abs.XL G r p (λs=>(δ s).er)=some (a,τ)):
 ∃δ' F' D Ff,St G w S δ' F'/\(λs=>(δ' s).er)=τ/\(∀s,(δ' s).Al=(δ s).Al)/\Ok w S D Ff/\D.er=a/\(∃v bx k rows,D= .own v bx k rows)/\Ai (δ r) p=some D/\(∀s x,F' s x->¬Ff x)/\
  (∀x,A3 F' x∨Ff x->A3 Fr x)/\(∀q v bx k rows,Ai (δ' r) q=some (.own v bx k rows)->∃rows',Ai (δ r) q=some (.own v bx k rows'))/\(∀s,s≠r->δ' s=Ec G p.length r δ s):=by
 unfold Abs.XL at ht
 split at ht
 . rename_i b k rows hs
   split at ht
   . rename_i t hp
     simp only[Option.some.injEq,Prod.mk.injEq]at ht
     obtain⟨rfl,rfl⟩:=ht
     obtain⟨D,hD,hDe⟩:=Cy (h.ok r).Hw hs
     obtain⟨Fo,ho,hsub,hrep⟩:=h.eA r p hD
     obtain⟨td,F',htd,hst,hiff,hann⟩:=hrep S (.lf .dead D.Al) (by simp) (.lf _ _ _ trivial (λ_ h=>h)) (λ_ h=>h) (λt b hb _=>(h.ok t).D6 b hb) (by simp) (Cd.dead _)
     have hte:td.er=t:=by
      obtain⟨t',h1,h2⟩:=Gu (d:=δ r) (p:=p) (a:=t) (.lf .dead D.Al) (h.ok r).Hw (by simpa using hp)
      rw[htd]at h1
      obtain rfl:=Option.some.inj h1
      exact h2
     have hown:∃v bx k rows,D= .own v bx k rows:=by
      have:=ho.Hw
      cases D with
      |own v bx k rows=>exact⟨v,bx,k,rows,rfl⟩
      |lf a v=>cases this with|lf _ _ hl=>simp at hDe;subst hDe;simp[CB]at hl
      |agg cs=>simp at hDe
      |A9 cs=>simp at hDe
     refine⟨_,_,D,Fo,hst,by rw[NH h,hte],?_,ho,hDe,hown,hD,?_,?_,?_,λs hs'=>BK _ _ hs'⟩
     . intro s;rw[Lo h];split
       . rename_i e;rw[e,hann]
       . rfl
     . intro s x hx hF
       by_cases hs':s=r
       . subst hs';rw[A8]at hx;exact((hiff x).1 hx).2 hF
       . rw[BK _ _ hs']at hx
         exact hs' (h.I0 s r x hx (hsub x hF))
     . rintro x (⟨s,hx⟩|hx)
       . by_cases hs':s=r
         . subst hs';rw[A8]at hx;exact⟨s,((hiff x).1 hx).1⟩
         . rw[BK _ _ hs']at hx;exact⟨s,hx⟩
       . exact⟨r,hsub x hx⟩
     . intro q v bx k' rows' hq
       rw[A8]at hq
       exact Oy p htd q hq
   . cases ht
 . cases ht
end Go.Abs
namespace Go.Abs
variable {w w':World} {S S':Nat->Prop} {G:Gi} {δ:Nat->DV} {Fr:Nat->Nat->Prop}
theorem T2 {t:DV} (d:Nat) (q:List Step) {v:Value} {bx:Bool} {k:Nat} {rows:List (List DV)} (hq:Ai (Ew d t) q=some (.own v bx k rows)):Ai t q=some (.own v bx k rows):=by
 induction q generalizing t with
 |nil=>
  simp only[Ai,Option.some.injEq]at hq ⊢
  cases t with
  |lf a v=>simp at hq
  |own=>simpa using hq
  |agg=>simp at hq
  |A9=>simp at hq
 |cons s q ih=>
  obtain⟨i,j,k0⟩:=s
  cases t with
  |lf a v=>simp[Ai]at hq
  |own h b k1 rows1=>rw[I3]at hq;exact hq
  |agg cs=>
   simp only[HO,Ai,List.getElem?_map]at hq ⊢
   cases hj:cs[j]? with
   |none=>simp[hj]at hq
   |some c=>simp only[hj,Option.map_some]at hq ⊢;exact ih hq
  |A9 cs=>
   simp only[HP,Ai,List.getElem?_map]at hq ⊢
   cases hj:cs[j]? with
   |none=>simp[hj]at hq
   |some c=>simp only[hj,Option.map_some]at hq ⊢;exact ih hq
theorem Nf (d r:Nat) (q:List Step) {v:Value} {bx:Bool} {k:Nat} {rows:List (List DV)} (hq:Ai (Ex G d δ r) q=some (.own v bx k rows)):Ai (δ r) q=some (.own v bx k rows):=by
 unfold Ex at hq
 split at hq
 . exact T2 d q hq
 . exact hq
def Hd (δ δ':Nat->DV):Prop:=∀r q v bx k rows,Ai (δ' r) q=some (.own v bx k rows)->∃rows',Ai (δ r) q=some (.own v bx k rows')
theorem Hd.refl (δ:Nat->DV):Hd δ δ:=λ_ _ _ _ _ rows h=>⟨rows,h⟩
theorem Hd.trans {δ δ' δ'':Nat->DV} (h:Hd δ δ') (k:Hd δ' δ''):Hd δ δ'':=by
 intro r q v bx kk rows hq
 obtain⟨rows',h'⟩:=k r q v bx kk rows hq
 exact h r q v bx kk rows' h'
def HF (w:World) (S:Nat->Prop):List DV->(Nat->Prop)->Prop
 |[],F=>∀x,¬F x
 |d::ds,F=>∃F1 F2,Ok w S d F1/\HF w S ds F2/\(∀x,F1 x->¬F2 x)/\∀x,F x↔F1 x∨F2 x
def aC (w:World) (S:Nat->Prop) (cs:List DV) (F:Nat->Prop):Prop:=
 ∃Fs:Nat->Nat->Prop,(∀(i:Nat) d,cs[i]? =some d->Ok w S d (Fs i))/\(∀i i' x,Fs i x->Fs i' x->i=i')/\(∀i x,Fs i x->∃d,cs[i]? =some d)/\(∀x,F x↔∃i,Fs i x)
theorem Gy {cs:List DV} {F:Nat->Prop}:HF w S cs F↔aC w S cs F:=by
 induction cs generalizing F with
 |nil=>
  constructor
  . intro h
    exact⟨λ_ _=>False,by simp,λ_ _ _ h=>h.elim,λ_ _ h=>h.elim,λx=>⟨λhx=>absurd hx (h x),λ⟨_,h⟩=>h.elim⟩⟩
  . rintro⟨Fs,h1,h2,h3,h4⟩ x hx
    obtain⟨i,hi⟩:=(h4 x).1 hx
    obtain⟨d,hd⟩:=h3 i x hi
    simp at hd
 |cons d ds ih=>
  constructor
  . rintro⟨F1,F2,h1,h2,h3,h4⟩
    obtain⟨Fs,g1,g2,g3,g4⟩:=ih.1 h2
    refine⟨λi=>match i with|0=>F1|i+1=>Fs i,?_,?_,?_,?_⟩
    . intro i e he
      cases i with
      |zero=>simp only[List.getElem?_cons_zero,Option.some.injEq]at he;exact he▸h1
      |succ i=>simp only[List.getElem?_cons_succ]at he;exact g1 i e he
    . intro i i' x hx hy
      cases i<;>cases i'
      . rfl
      . exact absurd ((g4 x).2 ⟨_,hy⟩) (h3 x hx)
      . exact absurd ((g4 x).2 ⟨_,hx⟩) (h3 x hy)
      . rename_i a b;rw[g2 a b x hx hy]
    . intro i x hx
      cases i with
      |zero=>exact⟨d,rfl⟩
      |succ i=>obtain⟨e,he⟩:=g3 i x hx;exact⟨e,by simpa using he⟩
    . intro x
      rw[h4 x]
      constructor
      . rintro(h|h)
        . exact⟨0,h⟩
        . obtain⟨i,hi⟩:=(g4 x).1 h;exact⟨i+1,hi⟩
      . rintro⟨i,hi⟩
        cases i with
        |zero=>exact .inl hi
        |succ i=>exact .inr ((g4 x).2 ⟨i,hi⟩)
  . rintro⟨Fs,g1,g2,g3,g4⟩
    refine⟨Fs 0,λx=>∃i,Fs (i+1) x,g1 0 d rfl,ih.2 ⟨λi=>Fs (i+1),?_,?_,?_,λx=>Iff.rfl⟩,?_,?_⟩
    . intro i e he;exact g1 (i+1) e (by simpa using he)
    . intro i i' x hx hy;have:=g2 _ _ x hx hy;omega
    . intro i x hx;obtain⟨e,he⟩:=g3 _ x hx;exact⟨e,by simpa using he⟩
    . rintro x hx ⟨i,hi⟩;have:=g2 _ _ x hx hi;omega
    . intro x
      rw[g4 x]
      constructor
      . rintro⟨i,hi⟩
        cases i with
        |zero=>exact .inl hi
        |succ i=>exact .inr ⟨i,hi⟩
      . rintro(h|⟨i,h⟩)
        . exact⟨0,h⟩
        . exact⟨i+1,h⟩
theorem BQ {cs:List DV} {F:Nat->Prop}:Ok w S (.agg cs) F↔HF w S cs F:=by
 rw[Gy]
 constructor
 . intro h
   cases h with
   |agg _ Fs _ h1 h2 h3 h4=>exact⟨Fs,h1,h2,h3,h4⟩
 . rintro⟨Fs,h1,h2,h3,h4⟩
   exact .agg cs Fs F h1 h2 h3 h4
theorem A4 {cs:List DV} {F:Nat->Prop}:Ok w S (.A9 cs) F↔HF w S cs F:=by
 rw[Gy]
 constructor
 . intro h
   cases h with
   |A9 _ Fs _ h1 h2 h3 h4=>exact⟨Fs,h1,h2,h3,h4⟩
 . rintro⟨Fs,h1,h2,h3,h4⟩
   exact .A9 cs Fs F h1 h2 h3 h4
theorem HF.mono {cs:List DV} {F:Nat->Prop} (h:HF w S cs F) (hw:∀b,S b->w'.heap[b]? =w.heap[b]?) (hf:∀b,F b->w'.heap[b]? =w.heap[b]?) (hS:∀b,S b->S' b) (hn:∀x,F x->¬S' x):HF w' S' cs F:=
 BQ.1 ((BQ.2 h).mono hw hf hS hn)
theorem St.Vv {δ0:Nat->DV} (ds:List DV):∀{δ:Nat->DV} {Fr:Nat->Nat->Prop} {F:Nat->Prop} {l:List AV} {τ:Sg},St G w S δ Fr->HF w S ds F->(∀d∈ds,Cd δ0 d)->Hd δ0 δ->(∀s x,Fr s x->¬F x)->
 Abs.Vv G (ds.map DV.er) (λs=>(δ s).er)=some (l,τ)->
 ∃δ' F' ds' Ff,St G w S δ' F'/\(λs=>(δ' s).er)=τ/\(∀s,(δ' s).Al=(δ s).Al)/\HF w S ds' Ff/\ds'.map DV.er=l/\ds'.map DV.Al=ds.map DV.Al/\(∀s x,F' s x->¬Ff x)/\
  (∀x,A3 F' x∨Ff x->A3 Fr x∨F x)/\Hd δ0 δ'/\(∀a∈l,D3 a=true):=by
 induction ds with
 |nil=>
  intro δ Fr F l τ h hok hal hhd hdis ht
  simp only[List.map_nil,Abs.Vv,Option.some.injEq,Prod.mk.injEq]at ht
  obtain⟨rfl,rfl⟩:=ht
  exact⟨δ,Fr,[],F,h,rfl,λ_=>rfl,hok,rfl,rfl,hdis,λx hx=>hx,hhd,by simp⟩
 |cons d ds ih=>
  intro δ Fr F l τ h hok hal hhd hdis ht
  obtain⟨F1,F2,hd,hds,h12,hF⟩:=hok
  have hald:=hal d (by simp)
  have hal':∀e∈ds,Cd δ0 e:=λe he=>hal e (by simp[he])
  simp only[List.map_cons,Abs.Vv]at ht
  cases hde:d.er with
  |al r p=>
   simp only[hde]at ht
   split at ht
   . rename_i n τ1 ht1
     split at ht
     . rename_i l' τ' ht2
       simp only[Option.some.injEq,Prod.mk.injEq]at ht
       obtain⟨rfl,rfl⟩:=ht
       obtain⟨δ1,F1',D,Ff,hst,her,hann,hD,hDe,⟨v,bx,k,rows,rfl⟩,hsub,hdis1,hown1,hhd1,hoth⟩:=h.XL ht1
       have hH:Hd δ δ1:=by
        intro r' q v bx k rows hq
        by_cases hr:r'=r
        . subst hr;exact hhd1 q v bx k rows hq
        . rw[hoth r' hr]at hq;exact⟨rows,(Qo _ r r' q).1 hq⟩
       subst her
       have hdF2:∀s x,F1' s x->¬F2 x:=by
        intro s x hx hx2
        obtain⟨t,ht⟩:=hown1 x (.inl ⟨s,hx⟩)
        exact hdis t x ht ((hF x).2 (.inr hx2))
       obtain⟨δ2,F2',ds',Fd,hst2,her2,hann2,hok2,hmap,hmapa,hdis2,hown2,hhd2,hcell⟩:=ih hst hds hal' (hhd.trans hH) hdF2 ht2
       have hv:v=d.Al:=by
        cases d with
        |lf a u=>
         simp only[Dj]at hde
         subst hde
         cases hald with
         |lf _ _ hl=>
          obtain⟨bx',k',rows',hl⟩:=hl
          obtain⟨rows'',hq⟩:=hhd r p v bx k rows hsub
          rw[hl]at hq
          simp only[Option.some.injEq,DV.own.injEq]at hq
          simp[hq.1]
        |own=>simp at hde
        |agg=>simp at hde
        |A9=>simp at hde
       have hFf:∀x,Ff x->¬F2 x:=by
        intro x hx hx2
        obtain⟨t,ht⟩:=hown1 x (.inr hx)
        exact hdis t x ht ((hF x).2 (.inr hx2))
       have hdd:∀x,A3 F2' x∨Fd x->¬Ff x:=by
        intro x hx hf
        rcases hown2 x hx with⟨s,hs⟩|h2
        . exact hdis1 s x hs hf
        . exact hFf x hf h2
       refine⟨δ2,F2',.own v bx k rows::ds',λx=>Ff x∨Fd x,hst2,her2,λs=>(hann2 s).trans (hann s),⟨Ff,Fd,hD,hok2,λx hx hx'=>hdd x (.inr hx') hx,λx=>Iff.rfl⟩,?_,?_,?_,?_,hhd2,?_⟩
       . simp only[List.map_cons,hDe,hmap]
       . simp only[List.map_cons,hmapa,Hs,hv]
       . rintro s x hx (hf|hf)
         . exact hdd x (.inl ⟨s,hx⟩) hf
         . exact hdis2 s x hx hf
       . rintro x (hx|hx|hx)
         . rcases hown2 x (.inl hx)with h1|h1
           . exact .inl (hown1 x (.inl h1))
           . exact .inr ((hF x).2 (.inr h1))
         . exact .inl (hown1 x (.inr hx))
         . rcases hown2 x (.inr hx)with h1|h1
           . exact .inl (hown1 x (.inl h1))
           . exact .inr ((hF x).2 (.inr h1))
       . intro a ha
         simp only[List.mem_cons]at ha
         rcases ha with rfl|ha
         . rw[← hDe];simp[D3]
         . exact hcell a ha
     . cases ht
   . cases ht
  |_=>
   simp only[hde]at ht
   split at ht
   . rename_i hc
     split at ht
     . rename_i l' τ' ht2
       simp only[Option.some.injEq,Prod.mk.injEq]at ht
       obtain⟨rfl,rfl⟩:=ht
       have hdF2:∀s x,Fr s x->¬F2 x:=λs x hx hx2=>hdis s x hx ((hF x).2 (.inr hx2))
       obtain⟨δ2,F2',ds',Fd,hst2,her2,hann2,hok2,hmap,hmapa,hdis2,hown2,hhd2,hcell⟩:=ih h hds hal' hhd hdF2 ht2
       have hdd:∀x,A3 F2' x∨Fd x->¬F1 x:=by
        intro x hx hf
        rcases hown2 x hx with⟨s,hs⟩|h2
        . exact hdis s x hs ((hF x).2 (.inl hf))
        . exact h12 x hf h2
       refine⟨δ2,F2',d::ds',λx=>F1 x∨Fd x,hst2,her2,hann2,⟨F1,Fd,hd,hok2,λx hx hx'=>hdd x (.inr hx') hx,λx=>Iff.rfl⟩,?_,?_,?_,?_,hhd2,?_⟩
       . simp only[List.map_cons,hde,hmap]
       . simp only[List.map_cons,hmapa]
       . rintro s x hx (hf|hf)
         . exact hdd x (.inl ⟨s,hx⟩) hf
         . exact hdis2 s x hx hf
       . rintro x (hx|hx|hx)
         . rcases hown2 x (.inl hx)with h1|h1
           . exact .inl h1
           . exact .inr ((hF x).2 (.inr h1))
         . exact .inr ((hF x).2 (.inl hx))
         . rcases hown2 x (.inr hx)with h1|h1
           . exact .inl h1
           . exact .inr ((hF x).2 (.inr h1))
       . intro a ha
         simp only[List.mem_cons]at ha
         rcases ha with rfl|ha
         . exact hc
         . exact hcell a ha
     . cases ht
   . cases ht
end Go.Abs
namespace Go.Abs
variable {w w':World} {S S':Nat->Prop} {G:Gi} {δ:Nat->DV} {Fr:Nat->Nat->Prop}
mutual
def GR:AV->Option DV
 | .sc v=>if EO v=true then some (.lf (.sc v) v)else none
 | .own false k []=>some (.own (.slice none 0 0) false k [])
 | .sl x k []=>some (.lf (.sl x k []) (.slice none 0 0))
 | .agg cs=>match QW cs with
  |some ds=>some (.agg ds)
  |none=>none
 |_=>none
def QW:List AV->Option (List DV)
 |[]=>some []
 |a::r=>match GR a with
  |some d=>match QW r with
   |some ds=>some (d::ds)
   |none=>none
  |none=>none
end
theorem GC (a:AV):∀D,GR a=some D->D.er=a/\Ok w S D (λ_=>False)/\Cd δ D/\(∀L,D9 L a=true):=by
 refine AV.rec (motive_1:=λa=>∀D,GR a=some D->D.er=a/\Ok w S D (λ_=>False)/\Cd δ D/\(∀L,D9 L a=true)) (motive_2:=λ_=>True)
  (motive_3:=λl=>∀ds,QW l=some ds->ds.map DV.er=l/\HF w S ds (λ_=>False)/\(∀d∈ds,Cd δ d)/\(∀L,Ko L l=true)) ?_ ?_ ?_ ?_ ?_ ?_ ?_ ?_ ?_ ?_ ?_ ?_ ?_ ?_ ?_ ?_ ?_ a
 . intro v D h
   simp only[GR]at h
   split at h
   . rename_i hp
     obtain rfl:=Option.some.inj h
     exact⟨by simp,.lf _ _ _ ⟨rfl,hp⟩ (λ_ h=>h),.lf _ _ trivial,by simp⟩
   . cases h
 . intro x k rows _ D h
   cases rows with
   |nil=>
    simp only[GR]at h
    obtain rfl:=Option.some.inj h
    exact⟨by simp,.lf _ _ _ (Fz.nil x k none 0 (λ_=>rfl)) (λ_ h=>h),.lf _ _ trivial,by simp⟩
   |cons r rs=>simp[GR]at h
 . intro b k rows _ D h
   cases b with
   |true=>simp[GR]at h
   |false=>
    cases rows with
    |nil=>
     simp only[GR]at h
     obtain rfl:=Option.some.inj h
     exact⟨by simp,.nil k _ (λ_ h=>h),.own _ _ _ _,by simp⟩
    |cons r rs=>simp[GR]at h
 . intro cs ih D h
   simp only[GR]at h
   split at h
   . rename_i ds hds
     obtain rfl:=Option.some.inj h
     obtain⟨h1,h2,h3,h4⟩:=ih ds hds
     refine⟨by simp[h1],BQ.2 h2,.agg _ λi d hd=>h3 d (List.mem_of_getElem? hd),λL=>by simp only[D9];exact h4 L⟩
   . cases h
 . intro cs _ D h;simp[GR]at h
 . intro r p D h;simp[GR]at h
 . intro r p i j k D h;simp[GR]at h
 . intro cs _ D h;simp[GR]at h
 . intro D h;simp[GR]at h
 . intro D h;simp[GR]at h
 . intro f rs D h;simp[GR]at h
 . intro s o us D h;simp[GR]at h
 . intro f css _ D h;simp[GR]at h
 . trivial
 . intros;trivial
 . intro ds h
   simp only[QW,Option.some.injEq]at h
   subst h
   exact⟨rfl,λ_ h=>h,by simp,λL=>by simp[Ko]⟩
 . intro a l iha ihl ds h
   simp only[QW]at h
   split at h
   . rename_i d hd
     split at h
     . rename_i ds' hds
       obtain rfl:=Option.some.inj h
       obtain⟨h1,h2,h3,h4⟩:=iha d hd
       obtain⟨g1,g2,g3,g4⟩:=ihl ds' hds
       refine⟨by simp[h1,g1],⟨_,_,h2,g2,λ_ h=>h.elim,λx=>by simp⟩,?_,λL=>by simp[Ko,h4 L,g4 L]⟩
       intro e he
       simp only[List.mem_cons]at he
       rcases he with rfl|he
       . exact h3
       . exact g3 e he
     . cases h
   . cases h
def P6:Ar->Prop
 | .t _=>True
 | .c a=>∃D,GR a=some D
def CY (δ:Nat->DV):Ar->Value
 | .t s=>(δ s).Al
 | .c a=>match GR a with
  |some D=>D.Al
  |none=>undef
theorem ME {ds:List DV} (hc:∀a∈ds.map DV.er,D3 a=true):∀d∈ds,Cd δ d:=by
 intro d hd
 have h1:=hc d.er (List.mem_map_of_mem hd)
 cases d with
 |lf a v=>refine .lf a v ?_;simp only[Dj]at h1;cases a<;>simp_all [D3,Ip]
 |own=>exact .own _ _ _ _
 |agg cs=>simp[D3]at h1
 |A9 cs=>simp[D3]at h1
structure Fly (G:Gi) (w:World) (S:Nat->Prop) (δ:Nat->DV) (Fr:Nat->Nat->Prop) (δ':Nat->DV) (F':Nat->Nat->Prop) (D:DV) (Ff:Nat->Prop):Prop where
 st:St G w S δ' F'
 Al:∀s,(δ' s).Al=(δ s).Al
 ok:Ok w S D Ff
 al:Cd δ' D
 I0:∀s x,F' s x->¬Ff x
 own:∀x,A3 F' x∨Ff x->A3 Fr x
theorem St.tk (h:St G w S δ Fr) {x:Ar} {a:AV} {τ:Sg} (hx:P6 x) (ht:Abs.tk G x (λs=>(δ s).er)=some (a,τ)):
 ∃δ' F' D Ff,Fly G w S δ Fr δ' F' D Ff/\(λs=>(δ' s).er)=τ/\D.er=a/\D.Al=CY δ x:=by
 cases x with
 |c c=>
  obtain⟨D,hD⟩:=hx
  simp only[Abs.tk,Option.some.injEq,Prod.mk.injEq]at ht
  obtain⟨rfl,rfl⟩:=ht
  obtain⟨h1,h2,h3,_⟩:=GC (w:=w) (S:=S) (δ:=δ) c D hD
  exact⟨δ,Fr,D,_,⟨h,λ_=>rfl,h2,h3,λ_ _ _ h=>h,λx hx=>hx.elim id False.elim⟩,rfl,h1,by simp[CY,hD]⟩
 |t s=>
  simp only[Abs.tk]at ht
  have hleaf:∀b,(δ s).er=b->CB b=true->∃v,δ s= .lf b v:=by
   intro b hb hl
   have:=(h.ok s).Hw
   cases hd:δ s with
   |lf c v=>rw[hd]at hb;simp at hb;exact⟨v,by rw[hb]⟩
   |own=>rw[hd]at hb;simp at hb;subst hb;simp[CB]at hl
   |agg=>rw[hd]at hb;simp at hb;subst hb;simp[CB]at hl
   |A9=>rw[hd]at hb;simp at hb;subst hb;simp[CB]at hl
  have hcopy:∀b,(δ s).er=b->CB b=true->∃δ' F' D Ff,Fly G w S δ Fr δ' F' D Ff/\(λs=>(δ' s).er)=(λs=>(δ s).er)/\D.er=b/\D.Al=CY δ (.t s):=by
   intro b hb hl
   obtain⟨v,hv⟩:=hleaf b hb hl
   have hok:=h.ok s
   rw[hv]at hok
   cases hok with
   |lf _ _ _ ha hF=>
    exact⟨δ,Fr,.lf b v,λ_=>False,⟨h,λ_=>rfl,.lf _ _ _ ha (λ_ h=>h),hv▸h.al s,λ_ _ _ h=>h,λx hx=>hx.elim id False.elim⟩,rfl,by simp,by simp[CY,hv]⟩
  cases hs:(δ s).er with
  |al r p=>
   simp only[hs]at ht
   obtain⟨δ1,F1,D,Ff,hst,her,hann,hD,hDe,⟨v,bx,k,rows,rfl⟩,hsub,hdis,hown,hhd,hoth⟩:=h.XL ht
   refine⟨δ1,F1,_,Ff,⟨hst,hann,hD,.own _ _ _ _,hdis,hown⟩,her,hDe,?_⟩
   obtain⟨u,hu⟩:=hleaf _ hs rfl
   have hal:=h.al s
   rw[hu]at hal
   cases hal with
   |lf _ _ hl=>
    obtain⟨bx',k',rows',hl⟩:=hl
    rw[hl]at hsub
    simp only[Option.some.injEq,DV.own.injEq]at hsub
    simp[CY,hu,hsub.1]
  |own b k rows=>
   simp only[hs,Option.some.injEq,Prod.mk.injEq]at ht
   obtain⟨rfl,rfl⟩:=ht
   have hst:=h.empty s
   refine⟨_,_,δ s,Fr s,⟨hst,?_,h.ok s,?_,?_,?_⟩,by rw[Fp h];simp,hs,rfl⟩
   . intro t;rw[FH h];split
     . rename_i e;rw[e];simp
     . rfl
   . have:=(h.ok s).Hw
     cases hd:δ s with
     |own=>exact .own _ _ _ _
     |lf c v=>rw[hd]at hs this;cases this with|lf _ _ hl=>simp at hs;subst hs;simp[CB]at hl
     |agg=>rw[hd]at hs;simp at hs
     |A9=>rw[hd]at hs;simp at hs
   . intro t x hx hf
     by_cases e:t=s
     . subst e;rw[A8]at hx;exact hx
     . rw[BK _ _ e]at hx;exact e (h.I0 t s x hx hf)
   . rintro x (⟨t,hx⟩|hx)
     . by_cases e:t=s
       . subst e;rw[A8]at hx;exact hx.elim
       . rw[BK _ _ e]at hx;exact⟨t,hx⟩
     . exact⟨s,hx⟩
  |agg cs=>
   simp only[hs]at ht
   obtain⟨ds,hds,hcs⟩:∃ds,δ s= .agg ds/\ds.map DV.er=cs:=by
    have:=(h.ok s).Hw
    cases hd:δ s with
    |agg ds=>rw[hd]at hs;simp at hs;exact⟨ds,rfl,hs⟩
    |lf c v=>rw[hd]at hs this;cases this with|lf _ _ hl=>simp at hs;subst hs;simp[CB]at hl
    |own=>rw[hd]at hs;simp at hs
    |A9=>rw[hd]at hs;simp at hs
   split at ht
   . rename_i hpl
     simp only[Option.some.injEq,Prod.mk.injEq]at ht
     obtain⟨rfl,rfl⟩:=ht
     have hok:=h.ok s
     rw[hds]at hok
     -- nothing is owned
     have hempty:HF w S ds (λ_=>False):=by
      have hokL:=BQ.1 hok
      clear hok hds
      rw[← hcs]at hpl
      clear hcs hs
      generalize Fr s=F at hokL
      induction ds generalizing F with
      |nil=>exactλ_ h=>h
      |cons d ds ih=>
       obtain⟨F1,F2,h1,h2,_,_⟩:=hokL
       simp only[List.map_cons,List.all_cons,Bool.and_eq_true]at hpl
       refine⟨λ_=>False,λ_=>False,?_,ih hpl.2 F2 h2,λ_ h=>h.elim,λx=>by simp⟩
       cases h1 with
       |lf a v _ ha hF=>exact .lf a v _ ha (λ_ h=>h)
       |nil=>simp[E3]at hpl
       |own=>simp[E3]at hpl
       |agg=>simp[E3]at hpl
       |A9=>simp[E3]at hpl
     exact⟨δ,Fr,.agg ds,λ_=>False,⟨h,λ_=>rfl,BQ.2 hempty,hds▸h.al s,λ_ _ _ h=>h,λx hx=>hx.elim id False.elim⟩,rfl,by simp[hcs],by simp[CY,hds]⟩
   . split at ht
     . rename_i l τ' htl
       simp only[Option.some.injEq,Prod.mk.injEq]at ht
       obtain⟨rfl,rfl⟩:=ht
       have hst:=h.empty s
       have hok:=h.ok s
       rw[hds]at hok
       have hals:∀d∈ds,Cd δ d:=by
        have:=h.al s
        rw[hds]at this
        cases this with
        |agg _ hr=>intro d hd;obtain⟨i,hi⟩:=List.getElem?_of_mem hd;exact hr i d hi
       have hH:Hd δ (DF (Ex G s δ) s (.lf .dead (δ s).Al)):=by
        intro r q v bx k rows hq
        by_cases e:r=s
        . subst e
          rw[A8]at hq
          cases q<;>simp[Ai]at hq
        . rw[BK _ _ e]at hq
          exact⟨rows,Nf s r q hq⟩
       have hdis:∀t x,(DF Fr s λ_=>False) t x->¬Fr s x:=by
        intro t x hx hf
        by_cases e:t=s
        . subst e;rw[A8]at hx;exact hx
        . rw[BK _ _ e]at hx;exact e (h.I0 t s x hx hf)
       have herr:(λt=>(DF (Ex G s δ) s (.lf .dead (δ s).Al) t).er)=DF (Gt G s λs=>(δ s).er) s .dead:=by rw[Fp h];simp
       obtain⟨δ2,F2,ds',Ff,hst2,her2,hann2,hok2,hmap,hmapa,hdis2,hown2,_,hcell⟩:=hst.Vv ds (BQ.1 hok) hals hH hdis (l:=l) (τ:=τ') (by rw[herr,hcs];exact htl)
       refine⟨δ2,F2,.agg ds',Ff,⟨hst2,?_,BQ.2 hok2,.agg _ λi d hd=> ?_,hdis2,?_⟩,her2,by simp[hmap],by simp[CY,hds,hmapa]⟩
       . intro t;rw[hann2,FH h];split
         . rename_i e;rw[e];simp
         . rfl
       . exact ME (by rw[hmap];exact hcell) d (List.mem_of_getElem? hd)
       . intro x hx
         rcases hown2 x hx with⟨t,hx'⟩|hx'
         . by_cases e:t=s
           . subst e;rw[A8]at hx';exact hx'.elim
           . rw[BK _ _ e]at hx';exact⟨t,hx'⟩
         . exact⟨s,hx'⟩
     . cases ht
  |sc v=>simp only[hs,Option.some.injEq,Prod.mk.injEq]at ht;obtain⟨rfl,rfl⟩:=ht;exact hcopy _ hs rfl
  |sl e k rows=>simp only[hs,Option.some.injEq,Prod.mk.injEq]at ht;obtain⟨rfl,rfl⟩:=ht;exact hcopy _ hs rfl
  |HX r p i j k=>simp only[hs,Option.some.injEq,Prod.mk.injEq]at ht;obtain⟨rfl,rfl⟩:=ht;exact hcopy _ hs rfl
  |fp cs=>simp only[hs,Option.some.injEq,Prod.mk.injEq]at ht;obtain⟨rfl,rfl⟩:=ht;exact hcopy _ hs rfl
  |A9 cs=>simp[hs]at ht
  |dead=>simp[hs]at ht
  |un=>simp[hs]at ht
  |cl f rs=>simp[hs]at ht
  |vb s o us=>simp[hs]at ht
  |Wn f css=>simp[hs]at ht
theorem St.LP (h:St G w S δ Fr) {r:Nat} {p:List Step} {a:AV} {τ:Sg} (ht:Abs.LP G r p (λs=>(δ s).er)=some (a,τ)):
 ∃(δ':Nat->DV) (F':Nat->Nat->Prop) (Fo:Nat->Prop) (v:Value) (bx:Bool) (k:Nat) (rows:List (List DV)),St G w (λx=>S x∨Fo x) δ' F'/\(λs=>(δ' s).er)=τ/\(∀s,(δ' s).Al=(δ s).Al)/\Ai (δ r) p=some (.own v bx k rows)/\Fz w (λx=>S x∨Fo x) a v/\
  a=Gj (DV.own v bx k rows).er/\(∀s x,F' s x->¬Fo x)/\(∀x,A3 F' x∨Fo x->A3 Fr x)/\Hd δ δ':=by
 unfold Abs.LP at ht
 split at ht
 . rename_i b k rows hs
   split at ht
   . rename_i t hp
     simp only[Option.some.injEq,Prod.mk.injEq]at ht
     obtain⟨rfl,rfl⟩:=ht
     obtain⟨D,hD,hDe⟩:=Cy (h.ok r).Hw hs
     obtain⟨Fo,ho,hsub,hrep⟩:=h.replace r p hD
     have hown:∃v bx k rows,D= .own v bx k rows:=by
      have:=ho.Hw
      cases D with
      |own v bx k rows=>exact⟨v,bx,k,rows,rfl⟩
      |lf a v=>cases this with|lf _ _ hl=>simp at hDe;subst hDe;simp[CB]at hl
      |agg cs=>simp at hDe
      |A9 cs=>simp at hDe
     obtain⟨v,bx,k1,rows1,rfl⟩:=hown
     have hfz:Fz w (λx=>S x∨Fo x) (Gj (.own b k rows)) v:=by have:=ho.freeze;rw[hDe]at this;simpa using this
     have hnew:Ok w (λx=>S x∨Fo x) (.lf (Gj (.own b k rows)) v) (λ_=>False):=by
      refine .lf _ _ _ ?_ (λ_ h=>h)
      cases b with
      |true=>simp only[Xm];trivial
      |false=>simp only[JL]at hfz ⊢;exact hfz
     obtain⟨td,F',htd,hst,hiff,hann⟩:=hrep (λx=>S x∨Fo x) (.lf (Gj (.own b k rows)) v) (by simp) hnew (λ_ h=>.inl h)
      (λt b' hb hno hS=>hS.elim ((h.ok t).D6 b' hb) hno) (by intro L;cases b<;>simp) (.lf _ _ (by cases b<;>simp[Ip]))
     have hte:td.er=t:=by
      obtain⟨t',h1,h2⟩:=Gu (d:=δ r) (p:=p) (a:=t) (.lf (Gj (.own b k rows)) v) (h.ok r).Hw (by simpa using hp)
      rw[htd]at h1
      obtain rfl:=Option.some.inj h1
      exact h2
     refine⟨_,_,Fo,v,bx,k1,rows1,hst,by rw[Fp h,hte],?_,hD,hfz,by rw[hDe],?_,?_,?_⟩
     . intro s;rw[FH h];split
       . rename_i e;rw[e,hann]
       . rfl
     . intro s x hx hF
       by_cases hs':s=r
       . subst hs';rw[A8]at hx;exact((hiff x).1 hx).2 hF
       . rw[BK _ _ hs']at hx
         exact hs' (h.I0 s r x hx (hsub x hF))
     . rintro x (⟨s,hx⟩|hx)
       . by_cases hs':s=r
         . subst hs';rw[A8]at hx;exact⟨s,((hiff x).1 hx).1⟩
         . rw[BK _ _ hs']at hx;exact⟨s,hx⟩
       . exact⟨r,hsub x hx⟩
     . intro r' q v' bx' k' rows' hq
       by_cases e:r'=r
       . subst e
         rw[A8]at hq
         exact Oy p htd q hq
       . rw[BK _ _ e]at hq
         exact⟨rows',Nf r r' q hq⟩
   . cases ht
 . cases ht
theorem St.wr (h:St G w S δ Fr) {dst:DU} (hkl:dst.kl=G.JG dst.d) (hrs:dst.rs=G.Ee dst.d) {D:DV} {Ff:Nat->Prop} {σ':Sg} (hw:∀b,S b->w'.heap[b]? =w.heap[b]?) (hf:∀s x,Fr s x->w'.heap[x]? =w.heap[x]?)
 (hSS:∀b,S b->S' b) (hfS:∀s x,Fr s x->¬S' x) (hD:Ok w' S' D Ff) (hdis:∀s x,Fr s x->¬Ff x) (hal:Cd δ D) (hwr:Abs.wr dst D.er (λs=>(δ s).er)=some σ'):
 ∃δ' F',St G w' S' δ' F'/\(λs=>(δ' s).er)=σ'/\(∀s,(δ' s).Al=if s=dst.d then D.Al else(δ s).Al)/\(∀x,A3 F' x->A3 Fr x∨Ff x):=by
 unfold Abs.wr at hwr
 split at hwr
 . rename_i hr
   simp only[Option.some.injEq]at hwr
   subst hwr
   refine⟨_,_,h.set dst.d D Ff hw (λs _=>hf s) hSS (λs _=>hfS s) hD (λs _ x hx hx'=>hdis s x hx' hx) (hrs▸hr) hal,?_,λs=>FH h dst.d D s,?_⟩
   . rw[Fp h,hkl,cZ]
   . rintro x ⟨s,hx⟩
     by_cases e:s=dst.d
     . subst e;rw[A8]at hx;exact .inr hx
     . rw[BK _ _ e]at hx;exact .inl ⟨s,hx⟩
 . cases hwr
end Go.Abs
namespace Go.Abs
variable {w w':World} {S S':Nat->Prop} {G:Gi} {δ:Nat->DV} {Fr:Nat->Nat->Prop} {P:Program}
def X0:Value->Value->Bool
 | .bool a,.bool b=>a==b
 | .int k a,.int k' b=>decide (k=k')&&decide (a=b)
 | .string a,.string b=>decide (a.data=b.data)
 | .pointer none,.pointer none=>true
 | .slice none 0 0,.slice none 0 0=>true
 | .nilFunc,.nilFunc=>true
 | .nilIface,.nilIface=>true
 |_,_=>false
def N8:List Value->List Value->Bool
 |[],[]=>true
 |a::l,b::r=>X0 a b&&N8 l r
 |_,_=>false
def X1:Value->Value->Bool
 | .agg a,.agg b=>N8 a.toList b.toList
 |a,b=>X0 a b
theorem Vg {a b:Value} (h:X0 a b=true):a=b:=by
 unfold X0 at h
 split at h<;>simp_all
 rename_i x y
 cases x;cases y;simp_all
theorem Kr:∀{a b:List Value},N8 a b=true->a=b
 |[],[],_=>rfl
 |[],_::_,h=>by simp[N8]at h
 |_::_,[],h=>by simp[N8]at h
 |a::l,b::r,h=>by
  simp only[N8,Bool.and_eq_true]at h
  rw[Vg h.1,Kr h.2]
theorem Vh {a b:Value} (h:X1 a b=true):a=b:=by
 unfold X1 at h
 split at h
 . rename_i x y;have:=Kr h;rw[Value.agg.injEq];exact Array.ext' this
 . exact Vg h
def Bf (x:Operand) (y:Ar):Bool:=
 match x,y with
 | .tmp s,.t s'=>s==s'
 | .const v,.c a=>match GR a with
  |some D=>X1 v D.Al
  |none=>false
 |_,_=>false
def Rd (δ:Nat->DV) (a:Act):Prop:=∀s,a.tmps.getD s undef=(δ s).Al
theorem Aa {x:Operand} {y:Ar} {a:Act} (h:Bf x y=true) (ha:Rd δ a):P6 y/\a.eval x=CY δ y:=by
 unfold Bf at h
 split at h
 . simp only[beq_iff_eq]at h;subst h;exact⟨trivial,ha _⟩
 . rename_i v c
   split at h
   . rename_i D hD
     exact⟨⟨D,hD⟩,by simp[Act.eval,CY,hD,Vh h]⟩
   . cases h
 . cases h
def FU:List Operand->List Ar->Bool
 |[],[]=>true
 |x::l,y::r=>Bf x y&&FU l r
 |_,_=>false
def MJ:Option Operand->Option Ar->Bool
 |none,none=>true
 |some x,some y=>Bf x y
 |_,_=>false
def EV (P:Program) (t:TypeId):Option Nat:=(P.info? t).map (·.size)
def Gk (P:Program) (t:TypeId):Option Bool:=(P.underlying t).map λ| .struct _=>true| .array _ _=>true|_=>false
theorem run_sizeOf {t:TypeId} {n:Nat} (h:EV P t=some n) (w:World):(sizeOf t).run P w= .ok n w:=by
 unfold EV at h
 cases hi:P.info? t with
 |none=>simp[hi]at h
 |some i=>simp only[hi,Option.map_some,Option.some.injEq]at h;simp[sizeOf,typeInfo,hi,h]
theorem LL {t:TypeId} {b:Bool} (h:Gk P t=some b) (w:World):(isAgg t).run P w= .ok b w:=by
 unfold Gk at h
 cases hi:P.underlying t with
 |none=>simp[hi]at h
 |some d=>simp only[hi,Option.map_some,Option.some.injEq]at h;cases d<;>simp_all [isAgg,underlying]
theorem F7 (t:DV) (p q:List Step):Ai t (p++q)=(Ai t p).bind (Ai · q):=by
 induction p generalizing t with
 |nil=>simp[Ai]
 |cons s p ih=>
  obtain⟨i,j,k⟩:=s
  cases t with
  |lf a v=>simp[Ai]
  |own h b k1 rows=>
   simp only[List.cons_append,Ai]
   cases rows[i]? with
   |none=>rfl
   |some row=>simp only[];cases row[j]? with
    |none=>rfl
    |some c=>exact ih c
  |agg cs=>simp only[List.cons_append,Ai];cases cs[j]? with
   |none=>rfl
   |some c=>exact ih c
  |A9 cs=>simp only[List.cons_append,Ai];cases cs[j]? with
   |none=>rfl
   |some c=>exact ih c
theorem TW (r:Nat) (p:List Step) (l:List AV) (i n:Nat):(Kw r p i l)[n]? =(l[n]?).map (view r (p++[(0,i+n,0)])):=by
 induction l generalizing i n with
 |nil=>simp[Kw]
 |cons c cs ih=>
  cases n with
  |zero=>simp[Kw]
  |succ n=>simp only[Kw,List.getElem?_cons_succ,ih,Nat.add_assoc,Nat.add_comm 1 n]
theorem B4 {ds:List DV} (h:∀d∈ds,Ok w S d (λ_=>False)):HF w S ds (λ_=>False):=by
 induction ds with
 |nil=>exactλ_ h=>h
 |cons d ds ih=>exact⟨_,_,h d (by simp),ih (λe he=>h e (by simp[he])),λ_ h=>h.elim,λx=>by simp⟩
theorem Hm {α β:Type} (cs:List α) (Φ:Nat->α->β->Prop) (h:∀i c,cs[i]? =some c->∃D,Φ i c D):∃Ds:List β,Ds.length=cs.length/\∀i c,cs[i]? =some c->∃D,Ds[i]? =some D/\Φ i c D:=by
 induction cs generalizing Φ with
 |nil=>exact⟨[],rfl,by simp⟩
 |cons c cs ih=>
  obtain⟨D,hD⟩:=h 0 c rfl
  obtain⟨Ds,h1,h2⟩:=ih (λi=>Φ (i+1)) (λi c' hc=>h (i+1) c' (by simpa using hc))
  refine⟨D::Ds,by simp[h1],?_⟩
  intro i c' hc
  cases i with
  |zero=>simp only[List.getElem?_cons_zero,Option.some.injEq]at hc;subst hc;exact⟨D,rfl,hD⟩
  |succ i=>simp only[List.getElem?_cons_succ]at hc ⊢;exact h2 i c' hc
theorem mem_mk {α β:Type} {cs:List α} {Ds:List β} {Φ:Nat->α->β->Prop} (hl:Ds.length=cs.length) (h:∀i c,cs[i]? =some c->∃D,Ds[i]? =some D/\Φ i c D) (i:Nat) (D:β) (hD:Ds[i]? =some D):∃c,cs[i]? =some c/\Φ i c D:=by
 have hi:i<cs.length:=by rw[← hl];exact(List.getElem?_eq_some_iff.1 hD).1
 obtain⟨D',h1,h2⟩:=h i cs[i] (List.getElem?_eq_getElem hi)
 rw[hD]at h1
 obtain rfl:=Option.some.inj h1
 exact⟨_,List.getElem?_eq_getElem hi,h2⟩
theorem map_mk {α β γ:Type} {cs:List α} {Ds:List β} {Φ:Nat->α->β->Prop} (hl:Ds.length=cs.length) (h:∀i c,cs[i]? =some c->∃D,Ds[i]? =some D/\Φ i c D) (f:β->γ) (l:List γ) (hll:l.length=cs.length)
 (hf:∀i c D,Φ i c D->cs[i]? =some c->l[i]? =some (f D)):Ds.map f=l:=by
 apply List.ext_getElem?
 intro i
 by_cases hi:i<cs.length
 . obtain⟨D,h1,h2⟩:=h i cs[i] (List.getElem?_eq_getElem hi)
   rw[List.getElem?_map,h1,hf i _ D h2 (List.getElem?_eq_getElem hi)]
   rfl
 . rw[List.getElem?_eq_none (by simp;omega),List.getElem?_eq_none (by omega)]
theorem OH (r:Nat) (p:List Step) (l:List AV) (i:Nat):(Kw r p i l).length=l.length:=by
 induction l generalizing i with
 |nil=>simp[Kw]
 |cons c cs ih=>simp[Kw,ih]
theorem rA {t:DV} {F:Nat->Prop} (r:Nat) (h:Ok w S t F):∀(p:List Step),Ai (δ r) p=some t->Cd δ t->
 ∃D,D.er=view r p t.er/\D.Al=t.Al/\Ok w S D (λ_=>False)/\Cd δ D:=by
 induction h with
 |lf a v F ha hF=>
  intro p hp hal
  have hl:=ha.CB
  refine⟨.lf a v,?_,rfl,.lf a v _ ha (λ_ h=>h),hal⟩
  cases a<;>simp_all [view,CB]
 |nil k F hF=>
  intro p hp hal
  exact⟨.lf (.al r p) (.slice none 0 0),by simp[view],by simp,.lf _ _ _ trivial (λ_ h=>h),.lf _ _ ⟨_,_,_,hp⟩⟩
 |own bx k rows b c arr E Fs F hb hk hcap hSb hv hr hd hval hbF hF ih=>
  intro p hp hal
  exact⟨.lf (.al r p) (Gs bx b rows.length c),by simp[view],by simp,.lf _ _ _ trivial (λ_ h=>h),.lf _ _ ⟨_,_,_,hp⟩⟩
 |agg cs Fs F hr hd hval hF ih=>
  intro p hp hal
  cases hal with
  |agg _ hal=>
   obtain⟨Ds,hl,hDs⟩:=Hm cs (λi d D=>D.er=view r (p++[(0,i,0)]) d.er/\D.Al=d.Al/\Ok w S D (λ_=>False)/\Cd δ D)
    (λi d hd=>ih i d hd _ (by rw[F7,hp];simp[Ai,hd]) (hal i d hd))
   refine⟨.agg Ds,?_,?_,BQ.2 (B4 λD hD=> ?_),.agg _ λi D hD=> ?_⟩
   . simp only[E1,view,AV.agg.injEq]
     refine map_mk hl hDs _ _ (by simp[OH]) λi c D hΦ hc=> ?_
     rw[TW,List.getElem?_map,hc];simp[hΦ.1]
   . simp only[G0];congr 2
     exact map_mk hl hDs _ _ (by simp) λi c D hΦ hc=>by simp[hc,hΦ.2.1]
   . obtain⟨i,hi⟩:=List.getElem?_of_mem hD
     obtain⟨c,_,hΦ⟩:=mem_mk hl hDs i D hi
     exact hΦ.2.2.1
   . obtain⟨c,_,hΦ⟩:=mem_mk hl hDs i D hD
     exact hΦ.2.2.2
 |A9 cs Fs F hr hd hval hF ih=>
  intro p hp hal
  cases hal with
  |A9 _ hal=>
   obtain⟨Ds,hl,hDs⟩:=Hm cs (λi d D=>D.er=view r (p++[(0,i,0)]) d.er/\D.Al=d.Al/\Ok w S D (λ_=>False)/\Cd δ D)
    (λi d hd=>ih i d hd _ (by rw[F7,hp];simp[Ai,hd]) (hal i d hd))
   refine⟨.A9 Ds,?_,?_,A4.2 (B4 λD hD=> ?_),.A9 _ λi D hD=> ?_⟩
   . simp only[Gh,view,AV.A9.injEq]
     refine map_mk hl hDs _ _ (by simp[OH]) λi c D hΦ hc=> ?_
     rw[TW,List.getElem?_map,hc];simp[hΦ.1]
   . simp only[Ht];congr 2
     exact map_mk hl hDs _ _ (by simp) λi c D hΦ hc=>by simp[hc,hΦ.2.1]
   . obtain⟨i,hi⟩:=List.getElem?_of_mem hD
     obtain⟨c,_,hΦ⟩:=mem_mk hl hDs i D hi
     exact hΦ.2.2.1
   . obtain⟨c,_,hΦ⟩:=mem_mk hl hDs i D hD
     exact hΦ.2.2.2
theorem UK (r:Nat) (p:List Step) (i k j:Nat) (l:List AV):(Kv r p i k j l).length=l.length:=by
 induction l generalizing j with
 |nil=>simp[Kv]
 |cons c cs ih=>simp[Kv,ih]
theorem Zl (r:Nat) (p:List Step) (i k j n:Nat) (l:List AV):(Kv r p i k j l)[n]? =(l[n]?).map (vC r p i (j+n) k):=by
 induction l generalizing j n with
 |nil=>simp[Kv]
 |cons c cs ih=>
  cases n with
  |zero=>simp[Kv]
  |succ n=>simp only[Kv,List.getElem?_cons_succ,ih,Nat.add_assoc,Nat.add_comm 1 n]
theorem UL (s j:Nat) (l:List AV):(Io s j l).length=l.length:=by
 induction l generalizing j with
 |nil=>simp[Io]
 |cons c cs ih=>simp[Io,ih]
theorem Zm (s j n:Nat) (l:List AV):(Io s j l)[n]? =(l[n]?).map (vF s (j+n)):=by
 induction l generalizing j n with
 |nil=>simp[Io]
 |cons c cs ih=>
  cases n with
  |zero=>simp[Io]
  |succ n=>simp only[Io,List.getElem?_cons_succ,ih,Nat.add_assoc,Nat.add_comm 1 n]
end Go.Abs
namespace Go.Abs
variable {w w':World} {S S':Nat->Prop} {G:Gi} {δ:Nat->DV} {Fr:Nat->Nat->Prop} {P:Program}
def Lf (w:World) (S:Nat->Prop) (δ:Nat->DV) (a:AV) (v:Value):Prop:=∃D:DV,D.er=a/\D.Al=v/\Ok w S D (λ_=>False)/\Cd δ D
theorem Lf.sc (v:Value) (h:EO v=true):Lf w S δ (.sc v) v:=⟨.lf (.sc v) v,by simp,by simp,.lf _ _ _ ⟨rfl,h⟩ (λ_ h=>h),.lf _ _ trivial⟩
theorem Lf.al {r:Nat} {p:List Step} {v:Value} {bx:Bool} {k:Nat} {rows:List (List DV)} (h:Ai (δ r) p=some (.own v bx k rows)):Lf w S δ (.al r p) v:=
 ⟨.lf (.al r p) v,by simp,by simp,.lf _ _ _ trivial (λ_ h=>h),.lf _ _ ⟨_,_,_,h⟩⟩
theorem Lf.HX {r:Nat} {p:List Step} {i j k b:Nat} {v:Value} {bx:Bool} {rows:List (List DV)} (h:Ai (δ r) p=some (.own v bx k rows)) (hb:NO v=some b):Lf w S δ (.HX r p i j k) (.pointer (some ⟨b,i*k+j,none⟩)):=
 ⟨.lf (.HX r p i j k) _,by simp,by simp,.lf _ _ _ trivial (λ_ h=>h),.lf _ _ ⟨_,_,_,_,h,hb,rfl⟩⟩
theorem Lf.fp {cs:List AV} {b off:Nat} (hS:S b) (h:∀(j:Nat) a,cs[j]? =some a->∃u,w.cell? ⟨b,off+j,none⟩=some u/\Fz w S a u):Lf w S δ (.fp cs) (.pointer (some ⟨b,off,none⟩)):=
 ⟨.lf (.fp cs) _,by simp,by simp,.lf _ _ _ ⟨b,off,rfl,hS,h⟩ (λ_ h=>h),.lf _ _ trivial⟩
theorem St.leaf (h:St G w S δ Fr) {s:Nat} {a:AV} (hs:(δ s).er=a) (hl:CB a=true):δ s= .lf a (δ s).Al/\FG w S a (δ s).Al/\Ip δ a (δ s).Al:=by
 have hok:=h.ok s
 have hal:=h.al s
 cases hd:δ s with
 |lf b v=>
  rw[hd]at hs hok hal
  simp only[Dj]at hs
  subst hs
  cases hok with
  |lf _ _ _ ha _=>cases hal with|lf _ _ hl=>exact⟨by simp,ha,hl⟩
 |own=>rw[hd]at hs;simp at hs;subst hs;simp[CB]at hl
 |agg=>rw[hd]at hs;simp at hs;subst hs;simp[CB]at hl
 |A9=>rw[hd]at hs;simp at hs;subst hs;simp[CB]at hl
theorem St.De (h:St G w S δ Fr) {x:Ar} (hx:P6 x) {v:Value} (ha:ar (λs=>(δ s).er) x= .sc v):CY δ x=v/\EO v=true:=by
 cases x with
 |t s=>
  obtain⟨_,h2,_⟩:=h.leaf (s:=s) ha rfl
  exact⟨h2.1,h2.2⟩
 |c a=>
  obtain⟨D,hD⟩:=hx
  simp only[ar]at ha
  subst ha
  simp only[GR]at hD
  split at hD
  . rename_i hp
    obtain rfl:=Option.some.inj hD
    exact⟨by simp[CY,GR,hp],hp⟩
  . cases hD
theorem JH {a:AV} {n:Int} (h:WG a=some n):∃k,a= .sc (.int k n):=by
 unfold WG at h
 split at h
 . simp only[Option.some.injEq]at h;subst h;exact⟨_,rfl⟩
 . cases h
theorem St.node (h:St G w S δ Fr) {s r:Nat} {p:List Step} (hs:(δ s).er= .al r p) {bx:Bool} {k:Nat} {rows:List (List AV)} (hn:sub (δ r).er p=some (.own bx k rows)):
 ∃rowsD F,Ai (δ r) p=some (.own (δ s).Al bx k rowsD)/\rowsD.map (·.map DV.er)=rows/\Ok w S (.own (δ s).Al bx k rowsD) F:=by
 obtain⟨_,_,hal⟩:=h.leaf hs rfl
 obtain⟨bx',k',rows',hl⟩:=hal
 obtain⟨D,hD,hDe⟩:=Cy (h.ok r).Hw hn
 rw[hl]at hD
 obtain rfl:=Option.some.inj hD
 simp only[DL,AV.own.injEq]at hDe
 obtain⟨rfl,rfl,h3⟩:=hDe
 obtain⟨F,hF,_⟩:=(h.ok r).Ai hl
 exact⟨rows',F,hl,h3,hF⟩
theorem St.Qv (h:St G w S δ Fr) {s:Nat} {bx:Bool} {k:Nat} {rows:List (List AV)} (hs:(δ s).er= .own bx k rows):
 ∃rowsD,δ s= .own (δ s).Al bx k rowsD/\rowsD.map (·.map DV.er)=rows:=by
 have:=(h.ok s).Hw
 cases hd:δ s with
 |own v b k' rows'=>rw[hd]at hs;simp only[DL,AV.own.injEq]at hs;obtain⟨rfl,rfl,h3⟩:=hs;exact⟨rows',by simp,h3⟩
 |lf b v=>rw[hd]at hs this;cases this with|lf _ _ hl=>simp at hs;subst hs;simp[CB]at hl
 |agg=>rw[hd]at hs;simp at hs
 |A9=>rw[hd]at hs;simp at hs
theorem St.C3 (h:St G w S δ Fr) {s r i j k:Nat} {p:List Step} (ha:Abs.C3 (λs=>(δ s).er) (.t s)=some (r,p,i,j,k)):
 ∃v bx rowsD b F,Ai (δ r) p=some (.own v bx k rowsD)/\NO v=some b/\(δ s).Al= .pointer (some ⟨b,i*k+j,none⟩)/\Ok w S (.own v bx k rowsD) F/\(∀x,F x->Fr r x):=by
 simp only[Abs.C3]at ha
 cases hs:(δ s).er with
 |HX r' p' i' j' k'=>
  simp only[hs,Option.some.injEq,Prod.mk.injEq]at ha
  obtain⟨rfl,rfl,rfl,rfl,rfl⟩:=ha
  obtain⟨_,_,hal⟩:=h.leaf hs rfl
  obtain⟨v,bx,rows,b,hl,hb,he⟩:=hal
  obtain⟨F,hF,hsub⟩:=(h.ok _).Ai hl
  exact⟨v,bx,rows,b,F,hl,hb,he,hF,hsub⟩
 |own bx k' rows=>
  cases bx with
  |false=>simp[hs]at ha
  |true=>
   simp only[hs,Option.some.injEq,Prod.mk.injEq]at ha
   obtain⟨rfl,rfl,rfl,rfl,rfl⟩:=ha
   obtain⟨rowsD,hd,_⟩:=h.Qv hs
   have hok:=h.ok s
   rw[hd]at hok
   generalize hv:(δ s).Al=v at*
   cases hok with
   |own _ _ _ b c arr E Fs _ hb hk hcap hSb hv' hr hdd hval hbF hF=>
    exact⟨Gs true b rowsD.length c,true,rowsD,b,Fr s,by simp[Ai,hd],by simp,by simp[Gs],by rw[← hd];exact h.ok s,λx hx=>hx⟩
 |al r' p'=>
  simp only[hs]at ha
  split at ha
  . rename_i k' rows' hn
    simp only[Option.some.injEq,Prod.mk.injEq]at ha
    obtain⟨rfl,rfl,rfl,rfl,rfl⟩:=ha
    obtain⟨rowsD,F,hl,_,hF⟩:=h.node hs hn
    obtain⟨F2,hF2,hsub⟩:=(h.ok _).Ai hl
    generalize hv:(δ s).Al=v at*
    cases hF2 with
    |own _ _ _ b c arr E Fs _ hb hk hcap hSb hv' hr hdd hval hbF hF'=>
     exact⟨Gs true b rowsD.length c,true,rowsD,b,F2,hl,by simp,by simp[Gs],.own true _ _ b c arr E Fs _ hb hk hcap hSb hv' hr hdd hval hbF hF',hsub⟩
  . cases ha
 |_=>simp[hs]at ha
theorem Hi {t:TypeId} {g:Bool} {n b off:Nat} {vs:List Value} (hn:EV P t=some n) (hg:Gk P t=some g) (h1:g=true∨n=1) (hl:vs.length=n) (hc:∀(j:Nat) v,vs[j]? =some v->w.cell? ⟨b,off+j,none⟩=some v):
 (loadVar t ⟨b,off,none⟩).run P w= .ok (if g=true then .agg vs.toArray else vs.headD undef) w:=by
 cases g with
 |true=>
  have:=run_loadCells_list (P:=P) w ⟨b,off,none⟩ vs (λj v hv=>by rw[Addr.add_lit];exact hc j v hv)
  rw[hl]at this
  simp[loadVar,LL hg,run_sizeOf hn,this]
 |false=>
  obtain rfl:=h1.resolve_left (by simp)
  match vs,hl with
  |[v],_=>
   have h0:=hc 0 v rfl
   simp only[Nat.add_zero]at h0
   simp[loadVar,LL hg,h0]
theorem cR {agg:Bool} {n:Nat} {cs:List AV} {v:AV} (hv:GA agg n cs=some v) (Ds:List DV) (he:Ds.map DV.er=cs) (hok:∀D∈Ds,Ok w S D (λ_=>False)) (hal:∀D∈Ds,Cd δ D):
 cs.length=n/\Lf w S δ v (if agg=true then .agg (Ds.map DV.Al).toArray else(Ds.map DV.Al).headD undef):=by
 unfold GA at hv
 split at hv
 . rename_i hn
   refine⟨hn,?_⟩
   cases agg with
   |true=>
    simp only[if_true,Option.some.injEq]at hv
    subst hv
    exact⟨.agg Ds,by simp[he],by simp,BQ.2 (B4 hok),.agg _ λi d hd=>hal d (List.mem_of_getElem? hd)⟩
   |false=>
    simp only[Bool.false_eq_true,if_false]at hv
    split at hv
    . rename_i c
      simp only[Option.some.injEq]at hv
      subst hv
      match Ds,he with
      |[D],he=>
       simp only[List.map_cons,List.map_nil,List.cons.injEq,and_true]at he
       exact⟨D,he,by simp,hok D (by simp),hal D (by simp)⟩
    . cases hv
 . cases hv
theorem Qb {a:AV} {v:Value} (h:Fz w S a v):∃D:DV,D.er=Gl a/\D.Al=v/\Ok w S D (λ_=>False)/\Cd δ D:=by
 cases h with
 |sc v hp=>exact⟨.lf (.sc v) v,by simp[Gl],by simp,.lf _ _ _ ⟨rfl,hp⟩ (λ_ h=>h),.lf _ _ trivial⟩
 |nil x k a c hx=>exact⟨.lf (.sl x k []) _,by simp[Gl],by simp,.lf _ _ _ (Fz.nil x k a c hx) (λ_ h=>h),.lf _ _ trivial⟩
 |sl x k rows b off c vs hx hlc hS hk hc hr=>exact⟨.lf (.sl x k rows) _,by simp[Gl],by simp,.lf _ _ _ (Fz.sl x k rows b off c vs hx hlc hS hk hc hr) (λ_ h=>h),.lf _ _ trivial⟩
 |dead=>exact⟨.lf .dead v,by simp[Gl],by simp,.lf _ _ _ trivial (λ_ h=>h),.lf _ _ trivial⟩
 |agg cs vs=>exact⟨.lf .dead _,by simp[Gl],rfl,.lf _ _ _ trivial (λ_ h=>h),.lf _ _ trivial⟩
 |A9 cs vs=>exact⟨.lf .dead _,by simp[Gl],rfl,.lf _ _ _ trivial (λ_ h=>h),.lf _ _ trivial⟩
end Go.Abs
namespace Go.Abs
variable {w w':World} {S S':Nat->Prop} {G:Gi} {δ:Nat->DV} {Fr:Nat->Nat->Prop} {P:Program}
def Gives (P:Program) (w:World) (S:Nat->Prop) (δ:Nat->DV) (a:Act) (o:Oper) (v:AV):Prop:=
 ∃u,(execOp a.eval o).run P w= .ok (.value u) w/\Lf w S δ v u
theorem NM (h:St G w S δ Fr) {a:Act} (ha:Rd δ a) {o:Oper} {x:Operand} {y:Ar} (ho:o.op= .move x∨o.op= .assign x) (hc:Bf x y=true) {v:AV} (hv:valOf (.cp y) (λs=>(δ s).er)=some v):Gives P w S δ a o v:=by
 obtain⟨hy,he⟩:=Aa hc ha
 refine⟨CY δ y,by rcases ho with ho|ho<;>simp[execOp,ho,he],?_⟩
 cases y with
 |t s=>
  simp only[valOf,Option.some.injEq]at hv
  subst hv
  obtain⟨D,h1,h2,h3,h4⟩:=rA (δ:=δ) s (h.ok s) [] (by simp[Ai]) (h.al s)
  exact⟨D,h1,h2,h3,h4⟩
 |c c=>
  simp only[valOf,Option.some.injEq]at hv
  subst hv
  obtain⟨D,hD⟩:=hy
  obtain⟨h1,h2,h3,_⟩:=GC (w:=w) (S:=S) (δ:=δ) c D hD
  exact⟨D,h1,by simp[CY,hD],h2,h3⟩
theorem Wr (h:St G w S δ Fr) {a:Act} (ha:Rd δ a) {o:Oper} {c x y:Operand} {c' x' y':Ar} (ho:o.op= .pick c x y) (h1:Bf c c'=true) (h2:Bf x x'=true) (h3:Bf y y'=true) {v:AV}
 (hv:valOf (.pick c' x' y') (λs=>(δ s).er)=some v):Gives P w S δ a o v:=by
 obtain⟨hc,ec⟩:=Aa h1 ha
 obtain⟨hx,ex⟩:=Aa h2 ha
 obtain⟨hy,ey⟩:=Aa h3 ha
 simp only[valOf]at hv
 split at hv
 . rename_i b hb
   obtain⟨e1,_⟩:=h.De hc hb
   split at hv
   . rename_i u hu
     simp only[Option.some.injEq]at hv
     subst hv
     refine⟨u,?_,?_⟩
     . cases b with
       |true=>have:=(h.De hx (by simpa using hu)).1;simp[execOp,ho,ec,e1,asBool,ex,this]
       |false=>have:=(h.De hy (by simpa using hu)).1;simp[execOp,ho,ec,e1,asBool,ey,this]
     . cases b with
       |true=>exact Lf.sc u (h.De hx (by simpa using hu)).2
       |false=>exact Lf.sc u (h.De hy (by simpa using hu)).2
   . cases hv
 . cases hv
theorem W4 {v:Value} {bx:Bool} {k:Nat} {rows:List (List DV)} {F:Nat->Prop} (h:Ok w S (.own v bx k rows) F) {r:Nat} {p:List Step} (hs:Ai (δ r) p=some (.own v bx k rows)) {b:Nat} (hb:NO v=some b) {i:Nat} {row:List DV}
 (hi:rows[i]? =some row) (j n:Nat):
 ∃Ds:List DV,Ds.map DV.er=Kv r p i k j (((row.map DV.er).drop j).take n)/\(∀D∈Ds,Ok w S D (λ_=>False))/\(∀D∈Ds,Cd δ D)/\(∀(m:Nat) u,(Ds.map DV.Al)[m]? =some u->w.cell? ⟨b,i*k+j+m,none⟩=some u):=by
 generalize hvv:v=v' at h
 cases h with
 |nil=>simp at hi
 |own _ _ _ b' c arr E Fs _ hbb hk hcap hSb hv hr hd hval hbF hF=>
  subst hvv
  simp only[Qf,Option.some.injEq]at hb
  subst hb
  obtain⟨Ds,hl,hDs⟩:=Hm ((row.drop j).take n) (λm d D=>D.er=vC r p i (j+m) k d.er/\D.Al=d.Al/\Ok w S D (λ_=>False)/\Cd δ D/\w.cell? ⟨b',i*k+j+m,none⟩=some D.Al) (by
   intro m d hd'
   have hd2:row[j+m]? =some d:=by
    rw[List.getElem?_take]at hd'
    split at hd'
    . simpa using hd'
    . cases hd'
   have hok:=hr i (j+m) row d hi hd2
   have hcell:w.cell? ⟨b',i*k+j+m,none⟩=some d.Al:=by
    simp only[World.cell?,hbb]
    have:=hv i (j+m) row d hi hd2
    rw[show i*k+j+m=i*k+(j+m)from by omega]
    simpa using this
   cases hok with
   |lf a v _ ha hFF=>
    have hl:=ha.CB
    cases a with
    |sc u=>exact⟨.lf (.sc u) v,by simp[vC],by simp,.lf _ _ _ ha (λ_ h=>h),.lf _ _ trivial,hcell⟩
    |sl x k' rows'=>exact⟨.lf (.sl x k' rows') v,by simp[vC],by simp,.lf _ _ _ ha (λ_ h=>h),.lf _ _ trivial,hcell⟩
    |own=>simp[CB]at hl
    |agg=>simp[CB]at hl
    |A9=>simp[CB]at hl
    |_=>exact⟨.lf .dead v,by simp[vC],by simp,.lf _ _ _ trivial (λ_ h=>h),.lf _ _ trivial,by simpa using hcell⟩
   |nil k' _ hFF=>exact⟨.lf (.al r (p++[(i,j+m,k)])) (.slice none 0 0),by simp[vC],by simp,.lf _ _ _ trivial (λ_ h=>h),.lf _ _ ⟨false,k',[],by rw[F7,hs];simp[Ai,hi,hd2]⟩,by simpa using hcell⟩
   |own bx' k' rows' b'' c' arr' E' Fs' _ g1 g2 g3 g4 g5 g6 g7 g8 g9 g10=>
    exact⟨.lf (.al r (p++[(i,j+m,k)])) (Gs bx' b'' rows'.length c'),by simp[vC],by simp,.lf _ _ _ trivial (λ_ h=>h),.lf _ _ ⟨bx',k',rows',by rw[F7,hs];simp[Ai,hi,hd2]⟩,by simpa using hcell⟩
   |agg cs=>exact⟨.lf .dead (.agg (cs.map DV.Al).toArray),by simp[vC],by simp,.lf _ _ _ trivial (λ_ h=>h),.lf _ _ trivial,by simpa using hcell⟩
   |A9 cs=>exact⟨.lf .dead (.tuple (cs.map DV.Al).toArray),by simp[vC],by simp,.lf _ _ _ trivial (λ_ h=>h),.lf _ _ trivial,by simpa using hcell⟩)
  refine⟨Ds,?_,?_,?_,?_⟩
  . refine map_mk hl hDs _ _ (by simp[UK]) λm d D hΦ hd'=> ?_
    rw[Zl,← List.map_drop,← List.map_take,List.getElem?_map,hd']
    simp[hΦ.1]
  . intro D hD;obtain⟨m,hm⟩:=List.getElem?_of_mem hD;obtain⟨c,_,hΦ⟩:=mem_mk hl hDs m D hm;exact hΦ.2.2.1
  . intro D hD;obtain⟨m,hm⟩:=List.getElem?_of_mem hD;obtain⟨c,_,hΦ⟩:=mem_mk hl hDs m D hm;exact hΦ.2.2.2.1
  . intro m u hu
    rw[List.getElem?_map,Option.map_eq_some_iff]at hu
    obtain⟨D,hD,rfl⟩:=hu
    obtain⟨c,_,hΦ⟩:=mem_mk hl hDs m D hD
    exact hΦ.2.2.2.2
theorem MZ (h:St G w S δ Fr) {s:Nat} {cs:List AV} (hs:(δ s).er= .agg cs) {agg:Bool} {n off:Nat} {v:AV} (hv:GA agg n (Io s off ((cs.drop off).take n))=some v):
 ∃vals:List Value,(δ s).Al= .agg vals.toArray/\((vals.drop off).take n).length=n/\Lf w S δ v (if agg=true then .agg ((vals.drop off).take n).toArray else((vals.drop off).take n).headD undef):=by
 obtain⟨ds,hds,hm⟩:∃ds,δ s= .agg ds/\ds.map DV.er=cs:=by
  have:=(h.ok s).Hw
  cases hd:δ s with
  |agg ds=>rw[hd]at hs;simp at hs;exact⟨ds,rfl,hs⟩
  |lf c v=>rw[hd]at hs this;cases this with|lf _ _ hl=>simp at hs;subst hs;simp[CB]at hl
  |own=>rw[hd]at hs;simp at hs
  |A9=>rw[hd]at hs;simp at hs
 have hok:=h.ok s
 have hal:=h.al s
 rw[hds]at hok hal
 cases hok with
 |agg _ Fs _ hr hdd hval hF=>
  cases hal with
  |agg _ hal=>
   obtain⟨Ds,hl,hDs⟩:=Hm ((ds.drop off).take n) (λm d D=>D.er=vF s (off+m) d.er/\D.Al=d.Al/\Ok w S D (λ_=>False)/\Cd δ D) (by
    intro m d hm'
    have hd:ds[off+m]? =some d:=by
     rw[List.getElem?_take]at hm'
     split at hm'
     . rw[List.getElem?_drop]at hm';exact hm'
     . cases hm'
    have hokd:=hr _ d hd
    have hald:=hal _ d hd
    cases d with
    |lf a u=>
     have hlf:=hokd.Hw
     cases hlf with
     |lf _ _ hleaf=>
      cases hokd with
      |lf _ _ _ ha hF'=>
       refine⟨.lf a u,?_,rfl,.lf _ _ _ ha (λ_ h=>h),hald⟩
       simp only[Dj]
       cases a<;>simp_all [vF,CB]
    |own u bx k rows=>
     refine⟨.lf (.al s [(0,off+m,0)]) u,by simp[vF],by simp,.lf _ _ _ trivial (λ_ h=>h),.lf _ _ ⟨bx,k,rows,by simp[Ai,hds,hd]⟩⟩
    |agg l=>exact⟨.lf .dead (DV.agg l).Al,by simp[vF],by simp,.lf _ _ _ trivial (λ_ h=>h),.lf _ _ trivial⟩
    |A9 l=>exact⟨.lf .dead (DV.A9 l).Al,by simp[vF],by simp,.lf _ _ _ trivial (λ_ h=>h),.lf _ _ trivial⟩)
   have her:Ds.map DV.er=Io s off ((cs.drop off).take n):=map_mk hl hDs _ _ (by rw[UL,← hm];simp) λi d D hΦ hd=>by
    rw[Zm,← hm,← List.map_drop,← List.map_take,List.getElem?_map,hd,hΦ.1];rfl
   have hann:Ds.map DV.Al=((ds.map DV.Al).drop off).take n:=map_mk hl hDs _ _ (by simp) λi d D hΦ hd=>by
    rw[← List.map_drop,← List.map_take,List.getElem?_map,hd,hΦ.2.1];rfl
   obtain⟨hlen,hlf⟩:=cR (w:=w) (S:=S) (δ:=δ) hv Ds her (λD hD=>by obtain⟨m,hm'⟩:=List.getElem?_of_mem hD;obtain⟨c,_,hΦ⟩:=mem_mk hl hDs m D hm';exact hΦ.2.2.1)
    (λD hD=>by obtain⟨m,hm'⟩:=List.getElem?_of_mem hD;obtain⟨c,_,hΦ⟩:=mem_mk hl hDs m D hm';exact hΦ.2.2.2)
   refine⟨ds.map DV.Al,by rw[hds];simp,?_,?_⟩
   . rw[← hann,List.length_map]
     have:=congrArg List.length her
     rw[List.length_map]at this
     rw[this,hlen]
   . rw[hann]at hlf;exact hlf
theorem NN (h:St G w S δ Fr) {a:Act} (ha:Rd δ a) {o:Oper} {t:TypeId} {x:Operand} {g:Bool} {n:Nat} {y:Ar} (ho:o.op= .load t x) (hn:EV P t=some n) (hg:Gk P t=some g) (hg1:g=true∨n=1) (hc:Bf x y=true) {v:AV}
 (hv:valOf (.ld g n y) (λs=>(δ s).er)=some v):Gives P w S δ a o v:=by
 obtain⟨hy,he⟩:=Aa hc ha
 cases y with
 |c c=>simp[valOf]at hv
 |t s=>
  have key:∀(b off:Nat) (Ds:List DV),(δ s).Al= .pointer (some ⟨b,off,none⟩)->GA g n (Ds.map DV.er)=some v->(∀D∈Ds,Ok w S D (λ_=>False))->(∀D∈Ds,Cd δ D)->
   (∀(m:Nat) u,(Ds.map DV.Al)[m]? =some u->w.cell? ⟨b,off+m,none⟩=some u)->Gives P w S δ a o v:=by
   intro b off Ds hp hcs hok hal hcell
   obtain⟨hlen,hlf⟩:=cR hcs Ds rfl hok hal
   refine⟨_,?_,hlf⟩
   have:=Hi (P:=P) (w:=w) (b:=b) (off:=off) (vs:=Ds.map DV.Al) hn hg hg1 (by simpa using hlen) hcell
   simp only[execOp,ho,he,CY,hp,Instr.loadAt,Instr.sureAddr,Sem.run_bind,Sem.run_pure,Result.andThen_ok,this]
  simp only[valOf]at hv
  cases hs:(δ s).er with
  |fp cs=>
   simp only[hs]at hv
   obtain⟨_,h2,_⟩:=h.leaf hs rfl
   obtain⟨b,off,hp,hS,hcell⟩:=h2
   obtain⟨Ds,hl,hDs⟩:=Hm (cs.take n) (λm c D=>D.er=Gl c/\w.cell? ⟨b,off+m,none⟩=some D.Al/\Ok w S D (λ_=>False)/\Cd δ D) (by
    intro m c hm
    rw[List.getElem?_take]at hm
    split at hm
    . obtain⟨u,hu,hf⟩:=hcell m c hm
      obtain⟨D,h1,h2,h3,h4⟩:=Qb (δ:=δ) hf
      exact⟨D,h1,by rw[h2];exact hu,h3,h4⟩
    . cases hm)
   refine key b off Ds hp ?_ ?_ ?_ ?_
   . rw[← hv];congr 1
     exact map_mk hl hDs _ _ (by simp) λi c D hΦ hc=>by simp only[List.getElem?_map,hc,Option.map_some,hΦ.1]
   . intro D hD;obtain⟨m,hm⟩:=List.getElem?_of_mem hD;obtain⟨c,_,hΦ⟩:=mem_mk hl hDs m D hm;exact hΦ.2.2.1
   . intro D hD;obtain⟨m,hm⟩:=List.getElem?_of_mem hD;obtain⟨c,_,hΦ⟩:=mem_mk hl hDs m D hm;exact hΦ.2.2.2
   . intro m u hu
     rw[List.getElem?_map,Option.map_eq_some_iff]at hu
     obtain⟨D,hD,rfl⟩:=hu
     obtain⟨c,_,hΦ⟩:=mem_mk hl hDs m D hD
     exact hΦ.2.1
  |vb q off us=>
   simp only[hs]at hv
   obtain⟨_,⟨b,hp,hS,hcell⟩,hann⟩:=h.leaf hs rfl
   split at hv
   . rename_i cs hq
     obtain⟨vals,hva,hlen,hlf⟩:=MZ h hq hv
     have hus:vals=us:=by
      have h1:(δ q).Al= .agg us.toArray:=hann
      rw[hva,Value.agg.injEq]at h1
      have:=congrArg Array.toList h1
      simpa using this
     subst hus
     refine⟨_,?_,hlf⟩
     have:=Hi (P:=P) (w:=w) (b:=b) (off:=off) (vs:=(vals.drop off).take n) hn hg hg1 hlen (λj v hj=>by
      rw[List.getElem?_take]at hj
      split at hj
      . rw[List.getElem?_drop]at hj;exact hcell _ v hj
      . cases hj)
     simp only[execOp,ho,he,CY,hp,Instr.loadAt,Instr.sureAddr,Sem.run_bind,Sem.run_pure,Result.andThen_ok,this]
   . cases hv
  |_=>
   simp only[hs]at hv
   split at hv
   . rename_i r p i j k hadr
     obtain⟨vh,bx,rowsD,b,F,hsub,hb,hp,hok,_⟩:=h.C3 hadr
     split at hv
     . rename_i bx' k' rows hn'
       obtain⟨D,hD,hDe⟩:=Cy (h.ok r).Hw hn'
       rw[hsub]at hD
       obtain rfl:=Option.some.inj hD
       simp only[DL,AV.own.injEq]at hDe
       obtain⟨rfl,rfl,rfl⟩:=hDe
       split at hv
       . rename_i row hrow
         rw[List.getElem?_map,Option.map_eq_some_iff]at hrow
         obtain⟨rowD,hrD,rfl⟩:=hrow
         obtain⟨Ds,h1,h2,h3,h4⟩:=W4 hok hsub hb hrD j n
         exact key b (i*k+j) Ds hp (by rw[h1];exact hv) h2 h3 h4
       . cases hv
     . cases hv
   . cases hv
end Go.Abs
namespace Go.Abs
variable {w w':World} {S S':Nat->Prop} {G:Gi} {δ:Nat->DV} {Fr:Nat->Nat->Prop} {P:Program}
theorem Ii {t:TypeId} {fs:Array Field} {f:Nat} {fd:Field} {n:Nat} (hu:P.underlying t=some (.struct fs)) (hf:fs[f]? =some fd) (hn:EV P fd.type=some n) (h0:n≠0) (b off:Nat) (w:World):
 (Instr.fieldAt t (.pointer (some ⟨b,off,none⟩)) f).run P w= .ok (.pointer (some ⟨b,off+fd.offset,none⟩)) w:=by
 simp[Instr.fieldAt,underlying,hu,hf,Instr.sureAddr,fieldPlace,run_sizeOf hn,h0,Addr.add_lit]
theorem Sv (h:St G w S δ Fr) {a:Act} (ha:Rd δ a) {o:Oper} {t:TypeId} {x:Operand} {f off:Nat} {y:Ar} (ho:o.op= .fieldAddr t x f) {fs:Array Field} {fd:Field} {n:Nat} (hu:P.underlying t=some (.struct fs)) (hf:fs[f]? =some fd) (hoff:fd.offset=off)
 (hn:EV P fd.type=some n) (h0:n≠0) (hc:Bf x y=true) {v:AV} (hv:valOf (.PL off y) (λs=>(δ s).er)=some v):Gives P w S δ a o v:=by
 obtain⟨hy,he⟩:=Aa hc ha
 subst hoff
 cases y with
 |c c=>simp[valOf]at hv
 |t s=>
  simp only[valOf]at hv
  cases hs:(δ s).er with
  |fp cs=>
   simp only[hs,Option.some.injEq]at hv
   subst hv
   obtain⟨_,h2,_⟩:=h.leaf hs rfl
   obtain⟨b,off,hp,hS,hcell⟩:=h2
   refine⟨.pointer (some ⟨b,off+fd.offset,none⟩),?_,Lf.fp hS λj a hj=> ?_⟩
   . simp only[execOp,ho,he,CY,hp,Sem.run_bind,Ii hu hf hn h0,Result.andThen_ok,Sem.run_pure]
   . rw[List.getElem?_drop]at hj
     rw[show off+fd.offset+j=off+(fd.offset+j)from by omega]
     exact hcell _ a hj
  |vb q o us=>
   simp only[hs,Option.some.injEq]at hv
   subst hv
   obtain⟨_,⟨b,hp,hS,hcell⟩,hann⟩:=h.leaf hs rfl
   refine⟨.pointer (some ⟨b,o+fd.offset,none⟩),?_,⟨.lf (.vb q (o+fd.offset) us) _,by simp,by simp,.lf _ _ _ ⟨b,rfl,hS,hcell⟩ (λ_ h=>h),.lf _ _ hann⟩⟩
   simp only[execOp,ho,he,CY,hp,Sem.run_bind,Ii hu hf hn h0,Result.andThen_ok,Sem.run_pure]
  |_=>
   simp only[hs]at hv
   split at hv
   . rename_i r p i j k hadr
     simp only[Option.some.injEq]at hv
     subst hv
     obtain⟨vh,bx,rowsD,b,F,hsub,hb,hp,hok,_⟩:=h.C3 hadr
     refine⟨.pointer (some ⟨b,i*k+(j+fd.offset),none⟩),?_,Lf.HX hsub hb⟩
     simp only[execOp,ho,he,CY,hp,Sem.run_bind,Ii hu hf hn h0,Result.andThen_ok,Sem.run_pure,Nat.add_assoc]
   . cases hv
theorem run_indexAt_slice {t e:TypeId} {k:Nat} (hu:P.underlying t=some (.slice e)) (hk:EV P e=some k) {b off len c:Nat} {kk:IntKind} {n:Int} (h0:0≤n) (h1:n<len) (w:World):
 (Instr.indexAt t (.slice (some ⟨b,off,none⟩) len c) (.int kk n)).run P w= .ok (.pointer (some ⟨b,off+n.toNat*k,none⟩)) w:=by
 simp[Instr.indexAt,asIntOf,underlying,hu,h0,h1,run_sizeOf hk,Addr.add_lit]
theorem St.Xp (h:St G w S δ Fr) {x:Ar} (hx:P6 x) {n:AV} {pl:Option (Nat×List Step)} (hh:hd (λs=>(δ s).er) x=some (n,pl)):
 (∀b k rows,n= .own b k rows->∃rowsD F,rowsD.map (·.map DV.er)=rows/\Ok w S (.own (CY δ x) b k rowsD) F/\∀r p,pl=some (r,p)->Ai (δ r) p=some (.own (CY δ x) b k rowsD))/\
 (∀e k rows,n= .sl e k rows->(∃s,x= .t s/\(δ s).er= .sl e k rows)->Fz w S (.sl e k rows) (CY δ x)):=by
 cases x with
 |c c=>
  obtain⟨D,hD⟩:=hx
  obtain⟨h1,h2,h3,_⟩:=GC (w:=w) (S:=S) (δ:=δ) c D hD
  constructor
  . rintro b k rows rfl
    simp only[hd]at hh
    split at hh
    . simp only[Option.some.injEq,Prod.mk.injEq,AV.own.injEq]at hh
      obtain⟨⟨rfl,rfl,rfl⟩,rfl⟩:=hh
      cases D with
      |own v b' k'' rowsD=>
       simp only[DL,AV.own.injEq]at h1
       obtain⟨rfl,rfl,h3'⟩:=h1
       exact⟨rowsD,_,h3',by simpa[CY,hD]using h2,by simp⟩
      |lf a v=>simp only[Dj]at h1;subst h1;cases h2 with|lf _ _ _ ha _=>exact ha.elim
      |agg=>simp at h1
      |A9=>simp at h1
    . cases hh
  . rintro e k rows rfl ⟨s,hs,_⟩;cases hs
 |t s=>
  simp only[hd]at hh
  constructor
  . rintro b k rows rfl
    cases hs:(δ s).er with
    |al r p=>
     simp only[hs]at hh
     split at hh
     . rename_i n' hn
       simp only[Option.some.injEq,Prod.mk.injEq]at hh
       obtain⟨rfl,rfl⟩:=hh
       obtain⟨rowsD,F,h1,h2,h3⟩:=h.node hs hn
       exact⟨rowsD,F,h2,h3,by rintro r' p' ⟨⟩;exact h1⟩
     . cases hh
    |own b' k' rows'=>
     simp only[hs,Option.some.injEq,Prod.mk.injEq]at hh
     obtain⟨h1,rfl⟩:=hh
     obtain⟨rowsD,hd',hm⟩:=h.Qv (hs.trans h1)
     refine⟨rowsD,Fr s,hm,?_,?_⟩
     . have:=h.ok s;rw[hd']at this;simpa[CY]using this
     . rintro r p ⟨⟩;simpa[Ai,CY]using hd'
    |sl e' k' rows'=>simp only[hs,Option.some.injEq,Prod.mk.injEq]at hh;exact absurd hh.1 (by simp)
    |_=>simp[hs]at hh
  . rintro e k rows rfl ⟨s',hs',he⟩
    cases hs'
    exact(h.leaf he rfl).2.1
theorem Sw (h:St G w S δ Fr) {a:Act} (ha:Rd δ a) {o:Oper} {t e:TypeId} {x i:Operand} {k:Nat} {y j:Ar} (ho:o.op= .indexAddr t x i) (hu:P.underlying t=some (.slice e)) (hk:EV P e=some k) (hc:Bf x y=true) (hc2:Bf i j=true) {v:AV}
 (hv:valOf (.Lr k y j) (λs=>(δ s).er)=some v):Gives P w S δ a o v:=by
 obtain⟨hy,he⟩:=Aa hc ha
 obtain⟨hj,hei⟩:=Aa hc2 ha
 simp only[valOf]at hv
 split at hv
 . rename_i k' rows r p n hh hn
   split at hv
   . rename_i hcond
     obtain⟨rfl,h0,h1⟩:=hcond
     simp only[Option.some.injEq]at hv
     subst hv
     obtain⟨kk,hn⟩:=JH hn
     obtain⟨ei,_⟩:=h.De hj hn
     obtain⟨rowsD,F,hm,hok,hpl⟩:=(h.Xp hy hh).1 _ _ _ rfl
     have hsub:=hpl r p rfl
     generalize CY δ y=vh at*
     have hlen:rowsD.length=rows.length:=by rw[← hm];simp
     cases hok with
     |nil=>simp at hlen;rw[← hlen]at h1;simp at h1;omega
     |own _ _ _ b c arr E Fs _ hb hk' hcap hSb hv' hr hdd hval hbF hF=>
      refine⟨.pointer (some ⟨b,n.toNat*k'+0,none⟩),?_,Lf.HX hsub (by simp)⟩
      simp only[execOp,ho,he,hei,ei,Gs,Sem.run_bind,Bool.false_eq_true,if_false,run_indexAt_slice hu hk h0 (show n<(rowsD.length:Nat)by rw[hlen];exact h1),Result.andThen_ok,Sem.run_pure]
      simp
   . cases hv
 . rename_i ee k' rows pl n hh hn
   split at hv
   . rename_i hcond
     obtain⟨rfl,h0⟩:=hcond
     obtain⟨kk,hn⟩:=JH hn
     obtain⟨ei,_⟩:=h.De hj hn
     rw[Option.map_eq_some_iff]at hv
     obtain⟨row,hrow,rfl⟩:=hv
     have hsl:∃s,y= .t s/\(δ s).er= .sl ee k' rows:=by
      cases y with
      |c c=>
       obtain⟨D,hD⟩:=hy
       simp only[hd]at hh
       split at hh
       . simp at hh
       . cases hh
      |t s=>
       refine⟨s,rfl,?_⟩
       simp only[hd]at hh
       cases hs:(δ s).er with
       |sl e2 k2 rows2=>simp only[hs,Option.some.injEq,Prod.mk.injEq]at hh;exact hh.1
       |al r p=>
        simp only[hs]at hh
        split at hh
        . rename_i n' hn'
          simp only[Option.some.injEq,Prod.mk.injEq]at hh
          obtain⟨rfl,_⟩:=hh
          -- an alias names a node
          obtain⟨_,_,hal⟩:=h.leaf hs rfl
          obtain⟨bx',k2,rows',hl⟩:=hal
          obtain⟨D,hD,hDe⟩:=Cy (h.ok r).Hw hn'
          rw[hl]at hD
          obtain rfl:=Option.some.inj hD
          simp at hDe
        . cases hh
       |own=>simp[hs]at hh
       |_=>simp[hs]at hh
     have hfz:=(h.Xp hy hh).2 _ _ _ rfl hsl
     have hlt:n.toNat<rows.length:=(List.getElem?_eq_some_iff.1 hrow).1
     generalize CY δ y=vh at*
     cases hfz with
     |nil=>simp at hrow
     |sl _ _ _ b off c vs hx hlc hS hk' hcell hr=>
      refine⟨.pointer (some ⟨b,off+n.toNat*k',none⟩),?_,Lf.fp hS λm a hm=> ?_⟩
      . simp only[execOp,ho,he,hei,ei,Sem.run_bind,run_indexAt_slice hu hk h0 (show n<(rows.length:Nat)by omega),Result.andThen_ok,Sem.run_pure]
      . refine⟨vs n.toNat m,?_,hr _ _ _ _ hrow hm⟩
        have:=hcell _ _ _ _ hrow hm
        rw[show off+n.toNat*k'+m=off+(n.toNat*k'+m)from by omega]
        exact this
   . cases hv
 . cases hv
theorem Yv (h:St G w S δ Fr) {a:Act} (ha:Rd δ a) {o:Oper} {op:BinOp} {t u:TypeId} {x y:Operand} {x' y':Ar} (ho:o.op= .binOp op t x y u) (hc:Bf x x'=true) (hc2:Bf y y'=true) {v:AV}
 (hv:valOf (.bin op x' y') (λs=>(δ s).er)=some v):Gives P w S δ a o v:=by
 obtain⟨hx,ex⟩:=Aa hc ha
 obtain⟨hy,ey⟩:=Aa hc2 ha
 simp only[valOf]at hv
 unfold rL at hv
 split at hv
 . rename_i k n k' m h1 h2
   obtain⟨e1,_⟩:=h.De hx h1
   obtain⟨e2,_⟩:=h.De hy h2
   split at hv
   . rename_i hk
     subst hk
     rw[Option.map_eq_some_iff]at hv
     obtain⟨u',hu',rfl⟩:=hv
     have hg:(eqGuard op t x y (.int k n) (.int k m)).run P w= .ok () w:=by cases op<;>simp[eqGuard]
     have hr:(binOp op t (.int k n) (.int k m)).run P w= .ok u' w:=by
      cases op<;>simp[iN]at hu'<;>first
       | (subst hu';simp[binOp,Op.intArith,Op.intCmp];done)
       | (obtain⟨h0,rfl⟩:=hu';simp[binOp,Op.intDiv,h0];done)
     refine⟨u',?_,Lf.sc u' ?_⟩
     . simp only[execOp,ho,ex,ey,e1,e2,Sem.run_bind,hg,hr,Result.andThen_ok,Sem.run_pure]
     . cases op<;>simp[iN]at hu'<;>first
        | (subst hu';rfl)
        | (obtain⟨h0,rfl⟩:=hu';rfl)
   . cases hv
 . rename_i n m h1 h2
   obtain⟨e1,_⟩:=h.De hx h1
   obtain⟨e2,_⟩:=h.De hy h2
   have hg:∀op,(eqGuard op t x y (.string n) (.string m)).run P w= .ok () w:=by intro op;cases op<;>simp[eqGuard]
   split at hv
   . simp only[Option.some.injEq]at hv
     subst hv
     refine⟨_,?_,Lf.sc _ rfl⟩
     simp only[execOp,ho,ex,ey,e1,e2,Sem.run_bind,hg,Result.andThen_ok]
     simp[binOp,Op.stringOp]
   . simp only[Option.some.injEq]at hv
     subst hv
     refine⟨_,?_,Lf.sc _ rfl⟩
     simp only[execOp,ho,ex,ey,e1,e2,Sem.run_bind,hg,Result.andThen_ok]
     simp[binOp,Op.stringOp]
   . cases hv
 . cases hv
theorem Yu (h:St G w S δ Fr) {a:Act} (ha:Rd δ a) {o:Oper} {op:BinOp} {t u:TypeId} {x y:Operand} {x' y':Ar} {neg:Bool} (ho:o.op= .binOp op t x y u) (hop:op=if neg=true then .neq else .eql) (ht:P.underlying t=some .bool) (hc:Bf x x'=true) (hc2:Bf y y'=true) {v:AV}
 (hv:valOf (.beq neg x' y') (λs=>(δ s).er)=some v):Gives P w S δ a o v:=by
 obtain⟨hx,ex⟩:=Aa hc ha
 obtain⟨hy,ey⟩:=Aa hc2 ha
 simp only[valOf]at hv
 split at hv
 . rename_i n m h1 h2
   obtain⟨e1,_⟩:=h.De hx h1
   obtain⟨e2,_⟩:=h.De hy h2
   simp only[Option.some.injEq]at hv
   subst hv
   refine⟨_,?_,Lf.sc _ rfl⟩
   have hg:∀op,(eqGuard op t x y (.bool n) (.bool m)).run P w= .ok () w:=by intro op;cases op<;>simp[eqGuard]
   cases neg with
   |true=>
    simp only[if_true]at hop
    subst hop
    simp only[execOp,ho,ex,ey,e1,e2,Sem.run_bind,hg,Result.andThen_ok,run_neq_bool w t n m ht,Sem.run_pure,if_true]
   |false=>
    simp only[Bool.false_eq_true,if_false]at hop
    subst hop
    simp only[execOp,ho,ex,ey,e1,e2,Sem.run_bind,hg,Result.andThen_ok,run_eql_bool w t n m ht,Sem.run_pure,Bool.false_eq_true,if_false]
 . cases hv
theorem cU (h:St G w S δ Fr) {a:Act} (ha:Rd δ a) {o:Oper} {op:UnOp} {t:TypeId} {x:Operand} {x':Ar} (ho:o.op= .unOp op t x) (hc:Bf x x'=true) {v:AV} (hv:valOf (.un op x') (λs=>(δ s).er)=some v):Gives P w S δ a o v:=by
 obtain⟨hx,ex⟩:=Aa hc ha
 simp only[valOf]at hv
 unfold unF at hv
 split at hv
 . rename_i n h1
   obtain⟨e1,_⟩:=h.De hx h1
   split at hv
   . simp only[Option.some.injEq]at hv
     subst hv
     exact⟨_,by simp[execOp,ho,ex,e1,Op.unary],Lf.sc _ rfl⟩
   . cases hv
 . rename_i k n h1
   obtain⟨e1,_⟩:=h.De hx h1
   split at hv
   . simp only[Option.some.injEq]at hv
     subst hv
     exact⟨.int k (k.wrap (0-n)),by simp[execOp,ho,ex,e1,Op.unary,Op.intArith],Lf.sc _ rfl⟩
   . cases hv
 . cases hv
theorem Yw (h:St G w S δ Fr) {a:Act} (ha:Rd δ a) {o:Oper} {s d:TypeId} {k k0:IntKind} {x:Operand} {x':Ar} (ho:o.op= .convert s d x) (hs:P.underlying s=some (.int k0)) (hd:P.underlying d=some (.int k)) (hc:Bf x x'=true) {v:AV} (hv:valOf (.Xk k x') (λs=>(δ s).er)=some v):Gives P w S δ a o v:=by
 obtain⟨hx,ex⟩:=Aa hc ha
 simp only[valOf]at hv
 split at hv
 . rename_i k1 n h1
   obtain⟨e1,_⟩:=h.De hx h1
   simp only[Option.some.injEq]at hv
   subst hv
   exact⟨.int k (k.wrap n),by simp[execOp,ho,ex,e1,convert,underlying,hs,hd,Conv.intToInt],Lf.sc _ rfl⟩
 . cases hv
end Go.Abs
namespace Go.Abs
variable {w w':World} {S S':Nat->Prop} {G:Gi} {δ:Nat->DV} {Fr:Nat->Nat->Prop} {P:Program}
theorem TL {v:Value} {k:Nat} {rows:List (List DV)} {F:Nat->Prop} (h:Ok w S (.own v false k rows) F):∃a c,v= .slice a rows.length c:=by
 cases h with
 |nil=>exact⟨none,0,rfl⟩
 |own _ _ _ b c=>exact⟨some ⟨b,0,none⟩,c,by simp[Gs]⟩
theorem KN {v:Value} {e:Bool} {k:Nat} {rows:List (List AV)} (h:Fz w S (.sl e k rows) v):∃a c,v= .slice a rows.length c:=by
 cases h with
 |nil _ _ a c=>exact⟨a,c,rfl⟩
 |sl _ _ _ b off c=>exact⟨_,c,rfl⟩
theorem St.rU (h:St G w S δ Fr) {x:Ar} (hx:P6 x) {e:Bool} {k:Nat} {rows:List (List AV)} {pl:Option (Nat×List Step)} (hh:hd (λs=>(δ s).er) x=some (.sl e k rows,pl)):
 ∃s,x= .t s/\(δ s).er= .sl e k rows:=by
 cases x with
 |c c=>
  obtain⟨D,hD⟩:=hx
  simp only[hd]at hh
  split at hh
  . simp at hh
  . cases hh
 |t s=>
  refine⟨s,rfl,?_⟩
  simp only[hd]at hh
  cases hs:(δ s).er with
  |sl e2 k2 rows2=>simp only[hs,Option.some.injEq,Prod.mk.injEq]at hh;exact hh.1
  |al r p=>
   simp only[hs]at hh
   split at hh
   . rename_i n' hn'
     simp only[Option.some.injEq,Prod.mk.injEq]at hh
     obtain⟨rfl,_⟩:=hh
     obtain⟨_,_,hal⟩:=h.leaf hs rfl
     obtain⟨bx',k2,rows',hl⟩:=hal
     obtain⟨D,hD,hDe⟩:=Cy (h.ok r).Hw hn'
     rw[hl]at hD
     obtain rfl:=Option.some.inj hD
     simp at hDe
   . cases hh
  |own=>simp[hs]at hh
  |_=>simp[hs]at hh
theorem run_len_slice {t:TypeId} (a:Option Addr) (n c:Nat) (hs:∃e,P.underlying t=some (.slice e)) (ty:TypeId) (w:World):
 (Builtin.len_ #[t] ty #[.slice a n c]).run P w= .ok (.int .i64 n) w:=by
 obtain⟨e,he⟩:=hs
 simp[Builtin.len_,underlying,he,goInt]
theorem Y0 (h:St G w S δ Fr) {a:Act} (ha:Rd δ a) {o:Oper} {c:Call} {x:Operand} {t:TypeId} {x':Ar} (ho:o.op= .call c) (hcal:c.callee= .builtin .len) (hargs:c.args.toList=[x]) (hty:c.argTypes.toList=[t])
 (ht:(∃e,P.underlying t=some (.slice e))) (hc:Bf x x'=true) {v:AV} (hv:valOf (.len x') (λs=>(δ s).er)=some v):Gives P w S δ a o v:=by
 obtain⟨hx,ex⟩:=Aa hc ha
 have e1:c.args= #[x]:=by apply Array.ext';simpa using hargs
 have e2:c.argTypes= #[t]:=by apply Array.ext';simpa using hty
 have key:∀(ad:Option Addr) (n cc:Nat),CY δ x'= .slice ad n cc->v= .sc (.int .i64 n)->Gives P w S δ a o v:=by
  rintro ad n cc hav rfl
  refine⟨.int .i64 n,?_,Lf.sc _ rfl⟩
  have:=run_len_slice (P:=P) ad n cc ht o.type w
  simp only[execOp,ho,resolve,hcal,e1,e2,invoke,builtin,Sem.run_bind,Sem.run_pure,Result.andThen_ok,List.map_toArray,List.map_cons,List.map_nil,ex,hav,this]
 simp only[valOf]at hv
 split at hv
 . rename_i k rows pl hh
   simp only[Option.some.injEq]at hv
   obtain⟨rowsD,F,hm,hok,_⟩:=(h.Xp hx hh).1 _ _ _ rfl
   obtain⟨ad,cc,hs⟩:=TL hok
   refine key ad rowsD.length cc hs ?_
   rw[← hv,← hm];simp
 . rename_i e k rows pl hh
   simp only[Option.some.injEq]at hv
   have hfz:=(h.Xp hx hh).2 _ _ _ rfl (h.rU hx hh)
   obtain⟨ad,cc,hs⟩:=KN hfz
   exact key ad rows.length cc hs hv.symm
 . cases hv
theorem Wv (h:St G w S δ Fr) {a:Act} (ha:Rd δ a) {o:Oper} {c:Call} {x:Operand} {t:TypeId} {x':Ar} (ho:o.op= .call c) (hcal:c.callee= .builtin .len) (hargs:c.args.toList=[x]) (hty:c.argTypes.toList=[t])
 (ht:P.underlying t=some .string) (hc:Bf x x'=true) {v:AV} (hv:valOf (.Pk x') (λs=>(δ s).er)=some v):Gives P w S δ a o v:=by
 obtain⟨hx,ex⟩:=Aa hc ha
 have e1:c.args= #[x]:=by apply Array.ext';simpa using hargs
 have e2:c.argTypes= #[t]:=by apply Array.ext';simpa using hty
 simp only[valOf]at hv
 split at hv
 . rename_i s hs
   simp only[Option.some.injEq]at hv
   subst hv
   obtain⟨e3,_⟩:=h.De hx hs
   refine⟨.int .i64 s.size,?_,Lf.sc _ rfl⟩
   simp only[execOp,ho,resolve,hcal,e1,e2,invoke,builtin,Sem.run_bind,Sem.run_pure,Result.andThen_ok,List.map_toArray,List.map_cons,List.map_nil,ex,e3]
   simp[Builtin.len_,underlying,ht,goInt]
 . cases hv
theorem Yx (h:St G w S δ Fr) {a:Act} (ha:Rd δ a) {o:Oper} {x:Operand} {i:Nat} {x':Ar} (ho:o.op= .extract x i) (hc:Bf x x'=true) {v:AV} (hv:valOf (.ext x' i) (λs=>(δ s).er)=some v):Gives P w S δ a o v:=by
 obtain⟨hx,ex⟩:=Aa hc ha
 cases x' with
 |c c=>simp[valOf]at hv
 |t s=>
  simp only[valOf]at hv
  split at hv
  . rename_i cs hs
    split at hv
    . rename_i c hcs
      simp only[Option.some.injEq]at hv
      subst hv
      obtain⟨ds,hds,hm⟩:∃ds,δ s= .A9 ds/\ds.map DV.er=cs:=by
       have:=(h.ok s).Hw
       cases hd:δ s with
       |A9 ds=>rw[hd]at hs;simp at hs;exact⟨ds,rfl,hs⟩
       |lf c v=>rw[hd]at hs this;cases this with|lf _ _ hl=>simp at hs;subst hs;simp[CB]at hl
       |own=>rw[hd]at hs;simp at hs
       |agg=>rw[hd]at hs;simp at hs
      rw[← hm,List.getElem?_map,Option.map_eq_some_iff]at hcs
      obtain⟨d,hd,rfl⟩:=hcs
      have hok:=h.ok s
      have hal:=h.al s
      rw[hds]at hok hal
      cases hok with
      |A9 _ Fs _ hr hdd hval hF=>
       cases hal with
       |A9 _ hal=>
        obtain⟨D,h1,h2,h3,h4⟩:=rA (δ:=δ) s (hr i d hd) [(0,i,0)] (by simp[Ai,hds,hd]) (hal i d hd)
        refine⟨d.Al,?_,D,h1,h2,h3,h4⟩
        have:(ds.map DV.Al).toArray[i]? =some d.Al:=by simp[hd]
        simp only[execOp,ho,ex,CY,hds,Ht,Instr.extract,Sem.run_bind,this,Sem.run_pure,Result.andThen_ok]
    . cases hv
  . cases hv
theorem run_indexAt_array {t e:TypeId} {len k:Nat} (hu:P.underlying t=some (.array len e)) (hk:EV P e=some k) {b off:Nat} {kk:IntKind} {n:Int} (h0:0≤n) (h1:n<len) (w:World):
 (Instr.indexAt t (.pointer (some ⟨b,off,none⟩)) (.int kk n)).run P w= .ok (.pointer (some ⟨b,off+n.toNat*k,none⟩)) w:=by
 simp[Instr.indexAt,asIntOf,underlying,hu,h0,h1,run_sizeOf hk,Addr.add_lit,Instr.sureAddr]
theorem Yt (h:St G w S δ Fr) {a:Act} (ha:Rd δ a) {o:Oper} {t e:TypeId} {x i:Operand} {len k:Nat} {y j:Ar} (ho:o.op= .indexAddr t x i) (hu:P.underlying t=some (.array len e)) (hk:EV P e=some k) (hc:Bf x y=true) (hc2:Bf i j=true) {v:AV}
 (hv:valOf (.kP len k y j) (λs=>(δ s).er)=some v):Gives P w S δ a o v:=by
 obtain⟨hy,he⟩:=Aa hc ha
 obtain⟨hj,hei⟩:=Aa hc2 ha
 cases y with
 |c c=>simp[valOf]at hv
 |t s=>
  simp only[valOf]at hv
  split at hv
  . rename_i s' n heq hn
    simp only[Ar.t.injEq]at heq
    subst heq
    split at hv
    . rename_i hcond
      obtain⟨h0,h1⟩:=hcond
      obtain⟨kk,hn⟩:=JH hn
      obtain⟨ei,_⟩:=h.De hj hn
      rw[ei]at hei
      cases hs:(δ s).er with
      |fp cs=>
       simp only[hs,Option.some.injEq]at hv
       subst hv
       obtain⟨_,h2,_⟩:=h.leaf hs rfl
       obtain⟨b,off,hp,hS,hcell⟩:=h2
       refine⟨.pointer (some ⟨b,off+n.toNat*k,none⟩),?_,Lf.fp hS λm a hm=> ?_⟩
       . simp only[execOp,ho,he,hei,CY,hp,Sem.run_bind,run_indexAt_array hu hk h0 h1,Result.andThen_ok,Sem.run_pure]
       . rw[List.getElem?_drop]at hm
         rw[show off+n.toNat*k+m=off+(n.toNat*k+m)from by omega]
         exact hcell _ a hm
      |_=>
       simp only[hs]at hv
       split at hv
       . rename_i r p i j k' hadr
         simp only[Option.some.injEq]at hv
         subst hv
         obtain⟨vh,bx,rowsD,b,F,hsub,hb,hp,hok,_⟩:=h.C3 hadr
         refine⟨.pointer (some ⟨b,i*k'+(j+n.toNat*k),none⟩),?_,Lf.HX hsub hb⟩
         simp only[execOp,ho,he,hei,CY,hp,Sem.run_bind,run_indexAt_array hu hk h0 h1,Result.andThen_ok,Sem.run_pure,Nat.add_assoc]
       . cases hv
    . cases hv
  . cases hv
theorem RQ {t:TypeId} {g:Bool} {n off:Nat} {vals:List Value} (hn:EV P t=some n) (hg:Gk P t=some g) (h1:g=true∨n=1) (hlen:((vals.drop off).take n).length=n):
 (part t vals.toArray off).run P w= .ok (if g=true then .agg ((vals.drop off).take n).toArray else((vals.drop off).take n).headD undef) w:=by
 cases g with
 |true=>
  have e:vals.toArray.extract off (off+n)=((vals.drop off).take n).toArray:=by
   apply Array.ext'
   simp[List.extract_eq_take_drop]
  simp[part,LL hg,run_sizeOf hn,e]
 |false=>
  obtain rfl:=h1.resolve_left (by simp)
  match hd:(vals.drop off).take 1,hlen with
  |[v],_=>
   have hv:vals[off]? =some v:=by
    have:((vals.drop off).take 1)[0]? =some v:=by rw[hd];rfl
    simpa using this
   simp[part,LL hg,hv]
theorem Yy (h:St G w S δ Fr) {a:Act} (ha:Rd δ a) {o:Oper} {t:TypeId} {x:Operand} {f:Nat} {agg:Bool} {off n:Nat} {y:Ar} {fs:Array Field} {fd:Field} (ho:o.op= .field t x f) (hu:P.underlying t=some (.struct fs)) (hf:fs[f]? =some fd) (hoff:fd.offset=off)
 (hn:EV P fd.type=some n) (hg:Gk P fd.type=some agg) (h1:agg=true∨n=1) (hc:Bf x y=true) {v:AV} (hv:valOf (.fld agg off n y) (λs=>(δ s).er)=some v):Gives P w S δ a o v:=by
 obtain⟨hy,he⟩:=Aa hc ha
 cases y with
 |c c=>simp[valOf]at hv
 |t s=>
  simp only[valOf]at hv
  split at hv
  . rename_i cs hs
    obtain⟨vals,hva,hlen,hlf⟩:=MZ h hs hv
    refine⟨_,?_,hlf⟩
    have:=RQ (w:=w) hn hg h1 hlen
    simp only[execOp,ho,he,CY,hva,Instr.field,run_underlying hu,hf,asAgg,hoff,Sem.run_bind,Sem.run_pure,Result.andThen_ok,this]
  . cases hv
theorem Yz (h:St G w S δ Fr) {a:Act} (ha:Rd δ a) {o:Oper} {t e:TypeId} {x i:Operand} {agg:Bool} {len k:Nat} {y j:Ar} (ho:o.op= .index t x i) (hu:P.underlying t=some (.array len e)) (hk:EV P e=some k) (hg:Gk P e=some agg) (h1:agg=true∨k=1)
 (hc:Bf x y=true) (hc2:Bf i j=true) {v:AV} (hv:valOf (.idx agg len k y j) (λs=>(δ s).er)=some v):Gives P w S δ a o v:=by
 obtain⟨hy,he⟩:=Aa hc ha
 obtain⟨hj,hei⟩:=Aa hc2 ha
 cases y with
 |c c=>simp[valOf]at hv
 |t s=>
  simp only[valOf]at hv
  split at hv
  . rename_i s' n heq hn
    simp only[Ar.t.injEq]at heq
    subst heq
    split at hv
    . rename_i hcond
      obtain⟨kk,hn⟩:=JH hn
      obtain⟨ei,_⟩:=h.De hj hn
      rw[ei]at hei
      split at hv
      . rename_i cs hs
        obtain⟨vals,hva,hlen,hlf⟩:=MZ h hs hv
        refine⟨_,?_,hlf⟩
        have:=RQ (w:=w) hk hg h1 hlen
        simp only[execOp,ho,he,hei,CY,hva,Instr.index,asIntOf,run_underlying hu,hcond,and_self,if_true,run_sizeOf hk,Sem.run_bind,Sem.run_pure,Result.andThen_ok,this]
      . cases hv
    . cases hv
  . cases hv
theorem Wu (h:St G w S δ Fr) {a:Act} (ha:Rd δ a) {o:Oper} {t:TypeId} {x i:Operand} {y j:Ar} (ho:o.op= .index t x i) (hu:P.underlying t=some .string) (hc:Bf x y=true) (hc2:Bf i j=true) {v:AV}
 (hv:valOf (.UE y j) (λs=>(δ s).er)=some v):Gives P w S δ a o v:=by
 obtain⟨hy,he⟩:=Aa hc ha
 obtain⟨hj,hei⟩:=Aa hc2 ha
 simp only[valOf]at hv
 split at hv
 . rename_i s n hs hn
   obtain⟨kk,hn⟩:=JH hn
   obtain⟨ei,_⟩:=h.De hj hn
   obtain⟨es,_⟩:=h.De hy hs
   split at hv
   . rename_i h0
     rw[Option.map_eq_some_iff]at hv
     obtain⟨b,hb,rfl⟩:=hv
     refine⟨.int .u8 b.toNat,?_,Lf.sc _ rfl⟩
     simp only[execOp,ho,he,hei,ei,es,Instr.index,asIntOf,run_underlying hu,h0,if_true,hb,Sem.run_bind,Sem.run_pure,Result.andThen_ok]
   . cases hv
 . cases hv
theorem St.aM (h:St G w S δ Fr) {x:Ar} (hx:P6 x) {cs:List AV} (ha:ar (λs=>(δ s).er) x= .agg cs):∃vals:List Value,CY δ x= .agg vals.toArray/\∀(j:Nat) u,cs[j]? =some (.sc u)->vals[j]? =some u:=by
 obtain⟨D,F,e1,e2,hok⟩:∃(D:DV) (F:Nat->Prop),D.er= .agg cs/\D.Al=CY δ x/\Ok w S D F:=by
  cases x with
  |t s=>exact⟨δ s,Fr s,ha,rfl,h.ok s⟩
  |c c=>
   obtain⟨D0,hD0⟩:=hx
   obtain⟨g1,g2,g3,_⟩:=GC (w:=w) (S:=S) (δ:=δ) c D0 hD0
   simp only[ar]at ha
   exact⟨D0,_,g1.trans ha,by simp[CY,hD0],g2⟩
 obtain⟨ds,rfl⟩:∃ds,D= .agg ds:=by
  have:=hok.Hw
  cases D with
  |agg ds=>exact⟨ds,rfl⟩
  |lf c v=>cases this with|lf _ _ hl=>simp at e1;subst e1;simp[CB]at hl
  |own=>simp at e1
  |A9=>simp at e1
 refine⟨ds.map DV.Al,by rw[← e2];simp,λj u hj=> ?_⟩
 simp only[E1,AV.agg.injEq]at e1
 subst e1
 simp only[List.getElem?_map]at hj ⊢
 cases hd:ds[j]? with
 |none=>simp[hd]at hj
 |some d=>
  simp only[hd,Option.map_some,Option.some.injEq]at hj ⊢
  cases hok with
  |agg _ Fs _ hr _ _ _=>
   have:=hr j d hd
   cases this with
   |lf a v _ hl _=>simp only[Dj]at hj;subst hj;simpa using hl.1
   |nil=>simp at hj
   |own=>simp at hj
   |agg=>simp at hj
   |A9=>simp at hj
def rW:TypeDesc->Option Nat
 | .bool=>some 0
 | .int _=>some 1
 | .string=>some 2
 |_=>none
def K7 (P:Program):Nat->List Field->List Nat->Bool
 |_,[],[]=>true
 |i,f::fs,k::ks=>f.name != "_" &&f.offset==i&&EV P f.type==some 1&&Gk P f.type==some false&&((P.underlying f.type).bind rW==some k)&&K7 P (i+1) fs ks
 |_,_,_=>false
def Wd (P:Program) (t:TypeId) (kd:List Nat):Bool:=match P.underlying t with
 |some (.struct fs)=> !P.stoodInHeld t&& !P.eqGuardType P.depth t&&K7 P 0 fs.toList kd
 |_=>false
theorem cG (d:Nat) {t:TypeId} {k:Nat} {u v:Value} {b:Bool} (hk:(P.underlying t).bind rW=some k) (h:Yp k u v=some b):(Op.equalIn (d+1) t u v).run P w= .ok b w:=by
 cases hu:P.underlying t with
 |none=>simp[hu]at hk
 |some T=>
  simp only[hu,Option.bind_some]at hk
  cases T<;>simp only[rW,Option.some.injEq,reduceCtorEq]at hk<;>subst hk
  . cases u<;>cases v<;>simp only[Yp,Option.some.injEq,reduceCtorEq]at h
    subst h
    exact run_equalIn_bool' w d t _ _ hu
  . cases u<;>cases v<;>simp only[Yp,reduceCtorEq]at h
    split at h
    . rename_i e
      subst e
      simp only[Option.some.injEq]at h
      subst h
      exact run_equalIn_int w d t _ _ _ _ hu
    . cases h
  . cases u<;>cases v<;>simp only[Yp,Option.some.injEq,reduceCtorEq]at h
    subst h
    exact run_equalIn_string w d t _ _ hu
theorem Tq (d:Nat) (xs ys:List Value) (fs:List Field):∀(kd:List Nat) (i:Nat) (aZ9 bs:List AV) (b:Bool),K7 P i fs kd=true->K9 kd aZ9 bs=some b->
 (∀(j:Nat) u,aZ9[j]? =some (.sc u)->xs[i+j]? =some u)->(∀(j:Nat) u,bs[j]? =some (.sc u)->ys[i+j]? =some u)->(Op.eqFields (d+1) xs.toArray ys.toArray fs).run P w= .ok b w:=by
 induction fs with
 |nil=>
  intro kd i aZ9 bs b hc he _ _
  cases kd with
  |cons=>simp[K7]at hc
  |nil=>
   cases aZ9<;>cases bs<;>simp only[K9,Option.some.injEq,reduceCtorEq]at he
   subst he
   simp[Op.eqFields]
 |cons f fs ih=>
  intro kd i aZ9 bs b hc he hxs hys
  cases kd with
  |nil=>simp[K7]at hc
  |cons k ks=>
   simp only[K7,Bool.and_eq_true,beq_iff_eq,bne_iff_ne]at hc
   obtain⟨⟨⟨⟨⟨h1,h2⟩,h3⟩,h4⟩,h5⟩,h6⟩:=hc
   match aZ9,bs,he with
   | .sc u::aZ9,.sc v::bs,he=>
    simp only[K9]at he
    split at he
    . rename_i a b' g1 g2
      simp only[Option.some.injEq]at he
      have hx0:xs[i]? =some u:=by have:=hxs 0 u rfl;simpa using this
      have hy0:ys[i]? =some v:=by have:=hys 0 v rfl;simpa using this
      have one:∀(l:List Value) (u:Value),l[i]? =some u->(part f.type l.toArray i).run P w= .ok u w:=by
       intro l u hl
       have hdt:(l.drop i).take 1=[u]:=by
        obtain⟨hlt,rfl⟩:=List.getElem?_eq_some_iff.1 hl
        rw[List.drop_eq_getElem_cons hlt];rfl
       have:=RQ (w:=w) (off:=i) (vals:=l) h3 h4 (.inr rfl) (by rw[hdt];rfl)
       rw[this,hdt];rfl
      have hrec:=ih ks (i+1) aZ9 bs b' h6 g2 (λj u hj=>by have:=hxs (j+1) u hj;rw[show i+1+j=i+(j+1)from by omega];exact this) (λj u hj=>by have:=hys (j+1) u hj;rw[show i+1+j=i+(j+1)from by omega];exact this)
      simp only[Op.eqFields,h1,ne_eq,not_false_eq_true,if_true,h2,Sem.run_bind,one xs u hx0,one ys v hy0,Result.andThen_ok,cG d h5 g1]
      cases a with
      |true=>simp only[Bool.not_true,Bool.false_eq_true,if_false,hrec];rw[← he];simp
      |false=>simp only[Bool.not_false,if_true,Sem.run_pure];rw[← he];simp
    . cases he
theorem Wt (h:St G w S δ Fr) {a:Act} (ha:Rd δ a) {o:Oper} {op:BinOp} {t u:TypeId} {x y:Operand} {x' y':Ar} {neg:Bool} {kd:List Nat} (ho:o.op= .binOp op t x y u) (hop:op=if neg=true then .neq else .eql) (ht:Wd P t kd=true) (hc:Bf x x'=true) (hc2:Bf y y'=true) {v:AV}
 (hv:valOf (.Vm neg kd x' y') (λs=>(δ s).er)=some v):Gives P w S δ a o v:=by
 obtain⟨hx,ex⟩:=Aa hc ha
 obtain⟨hy,ey⟩:=Aa hc2 ha
 simp only[valOf]at hv
 split at hv
 . rename_i aZ9 bs h1 h2
   obtain⟨xs,e1,f1⟩:=h.aM hx h1
   obtain⟨ys,e2,f2⟩:=h.aM hy h2
   rw[Option.map_eq_some_iff]at hv
   obtain⟨b,hb,rfl⟩:=hv
   refine⟨_,?_,Lf.sc _ rfl⟩
   unfold Wd at ht
   split at ht
   . rename_i fs hu
     simp only[Bool.and_eq_true,Bool.not_eq_true']at ht
     obtain⟨⟨g1,g2⟩,g3⟩:=ht
     have hfo:P.fieldsOf t=fs:=by simp[Program.fieldsOf,hu]
     have hrun:(Op.equalIn 10000 t (.agg xs.toArray) (.agg ys.toArray)).run P w= .ok b w:=by
      rw[run_equalIn_struct w 9999 t _ _ (by rw[hfo];exact hu) g1,hfo]
      exact Tq 9998 xs ys fs.toList kd 0 aZ9 bs b g3 hb (λj u hj=>by simpa using f1 j u hj) (λj u hj=>by simpa using f2 j u hj)
     have hg:∀op,(eqGuard op t x y (.agg xs.toArray) (.agg ys.toArray)).run P w= .ok () w:=λop=>run_eqGuard_agg w op t x y _ _ g2
     cases neg with
     |true=>
      simp only[if_true]at hop
      subst hop
      simp only[execOp,ho,ex,ey,e1,e2,Sem.run_bind,hg,Result.andThen_ok,run_neq_struct,hrun,Sem.run_pure,if_true]
     |false=>
      simp only[Bool.false_eq_true,if_false]at hop
      subst hop
      simp only[execOp,ho,ex,ey,e1,e2,Sem.run_bind,hg,Result.andThen_ok,run_eql_struct,hrun,Sem.run_pure,Bool.false_eq_true,if_false]
   . cases ht
 . cases hv
theorem cT (h:St G w S δ Fr) {a:Act} (ha:Rd δ a) {o:Oper} {c:Call} {x y:Operand} {x' y':Ar} {mx:Bool} (ho:o.op= .call c) (hcal:c.callee= .builtin (if mx=true then .max else .min)) (hargs:c.args.toList=[x,y])
 (hc:Bf x x'=true) (hc2:Bf y y'=true) {v:AV} (hv:valOf (.mm mx x' y') (λs=>(δ s).er)=some v):Gives P w S δ a o v:=by
 obtain⟨hx,ex⟩:=Aa hc ha
 obtain⟨hy,ey⟩:=Aa hc2 ha
 have e1:c.args= #[x,y]:=by apply Array.ext';simpa using hargs
 simp only[valOf]at hv
 split at hv
 . rename_i k n k' m g1 g2
   obtain⟨f1,_⟩:=h.De hx g1
   obtain⟨f2,_⟩:=h.De hy g2
   split at hv
   . rename_i hk
     subst hk
     simp only[Option.some.injEq]at hv
     subst hv
     refine⟨_,?_,Lf.sc _ rfl⟩
     cases mx with
     |true=>
      simp only[if_true]at hcal
      simp only[execOp,ho,resolve,hcal,e1,invoke,builtin,Sem.run_bind,Sem.run_pure,Result.andThen_ok,List.map_toArray,List.map_cons,List.map_nil,ex,ey,f1,f2,run_max_int2,if_true]
     |false=>
      simp only[Bool.false_eq_true,if_false]at hcal
      simp only[execOp,ho,resolve,hcal,e1,invoke,builtin,Sem.run_bind,Sem.run_pure,Result.andThen_ok,List.map_toArray,List.map_cons,List.map_nil,ex,ey,f1,f2,run_min_int2,Bool.false_eq_true,if_false]
   . cases hv
 . cases hv
theorem Xw {v:Value} {k:Nat} {rows:List (List DV)} {F:Nat->Prop} (h:Ok w S (.own v true k rows) F):∃b,v= .pointer (some ⟨b,0,none⟩):=by
 cases h with
 |own _ _ _ b c arr E Fs _=>exact⟨b,by simp[Gs]⟩
theorem Wq (h:St G w S δ Fr) {a:Act} (ha:Rd δ a) {o:Oper} {x:Operand} {x':Ar} (ho:o.op= .nilCheck x) (hc:Bf x x'=true) {v:AV} (hv:valOf (.FF x') (λs=>(δ s).er)=some v):Gives P w S δ a o v:=by
 obtain⟨hx,ex⟩:=Aa hc ha
 cases x' with
 |c c=>
  obtain⟨D0,hD0⟩:=hx
  simp only[valOf,ar]at hv
  cases c<;>first
   | (simp[GR]at hD0;done)
   | (simp at hv;done)
   | (rename_i b _ _;cases b<;>simp at hv)
 |t s=>
  simp only[valOf,ar]at hv
  cases hs:(δ s).er with
  |HX r p i j k=>
   rw[hs]at hv
   simp only[Option.some.injEq]at hv
   subst hv
   obtain⟨e1,_,hb,bx,rows,b,g1,g2,g3⟩:=h.leaf hs rfl
   exact⟨_,by simp only[execOp,ho,ex,CY,g3,Sem.run_pure],Lf.HX g1 g2⟩
  |fp cs=>
   rw[hs]at hv
   simp only[Option.some.injEq]at hv
   subst hv
   obtain⟨e1,⟨b,off,g1,g2,g3⟩,_⟩:=h.leaf hs rfl
   exact⟨_,by simp only[execOp,ho,ex,CY,g1,Sem.run_pure],Lf.fp g2 g3⟩
  |own b k rows=>
   rw[hs]at hv
   cases b with
   |false=>simp at hv
   |true=>
    simp only[Option.some.injEq]at hv
    subst hv
    obtain⟨rowsD,hd,hrow⟩:=h.Qv hs
    have hok:=h.ok s
    rw[hd]at hok
    obtain⟨b,hb⟩:=Xw hok
    refine⟨(δ s).Al,?_,Lf.al (r:=s) (p:=[]) (bx:=true) (k:=k) (rows:=rowsD) (by simp[Ai];exact hd)⟩
    simp only[execOp,ho,ex,CY]
    rw[hb]
    simp only[Sem.run_pure]
  |al r p=>
   rw[hs]at hv
   simp only at hv
   split at hv
   . rename_i k rows hn
     simp only[Option.some.injEq]at hv
     subst hv
     obtain⟨e1,_,bx,k',rows',hl⟩:=h.leaf hs rfl
     obtain⟨D,hD,hDe⟩:=Cy (h.ok r).Hw hn
     rw[hl]at hD
     obtain rfl:=Option.some.inj hD
     simp only[DL,AV.own.injEq]at hDe
     obtain⟨rfl,rfl,_⟩:=hDe
     obtain⟨F',hok,_⟩:=(h.ok r).Ai hl
     obtain⟨b,hb⟩:=Xw hok
     refine⟨(δ s).Al,?_,Lf.al hl⟩
     simp only[execOp,ho,ex,CY]
     rw[hb]
     simp only[Sem.run_pure]
   . cases hv
  |_=>rw[hs]at hv;simp at hv
theorem WS (h:St G w S δ Fr) {a:Act} (ha:Rd δ a) (ys:List Ar):∀{xs:List Operand} {rs:List (Nat×List Step)},FU xs ys=true->M8 (λs=>(δ s).er) ys=some rs->
 xs.length=rs.length/\∀(i:Nat) r p u,rs[i]? =some (r,p)->(xs.map a.eval)[i]? =some u->∃bx k rows,Ai (δ r) p=some (.own u bx k rows):=by
 induction ys with
 |nil=>
  intro xs rs hc hr
  cases xs with
  |cons=>simp[FU]at hc
  |nil=>simp only[M8,Option.some.injEq]at hr;subst hr;exact⟨rfl,by simp⟩
 |cons y ys ih=>
  intro xs rs hc hr
  cases xs with
  |nil=>simp[FU]at hc
  |cons x xs=>
   simp only[FU,Bool.and_eq_true]at hc
   obtain⟨hy,hev⟩:=Aa hc.1 ha
   cases y with
   |c=>simp[M8]at hr
   |t s=>
    simp only[M8]at hr
    have step:∀r0 p0 l,M8 (λs=>(δ s).er) ys=some l->rs=(r0,p0)::l->(∃bx k rows,Ai (δ r0) p0=some (.own (a.eval x) bx k rows))->(x::xs).length=rs.length/\∀(i:Nat) r p u,rs[i]? =some (r,p)->((x::xs).map a.eval)[i]? =some u->∃bx k rows,Ai (δ r) p=some (.own u bx k rows):=by
     rintro r0 p0 l hl rfl h0
     obtain⟨g1,g2⟩:=ih hc.2 hl
     refine⟨by simp[g1],λi r p u hi hu=> ?_⟩
     cases i with
     |zero=>simp only[List.getElem?_cons_zero,Option.some.injEq,Prod.mk.injEq,List.map_cons]at hi hu;obtain⟨rfl,rfl⟩:=hi;subst hu;exact h0
     |succ i=>exact g2 i r p u (by simpa using hi) (by simpa using hu)
    split at hr
    . rename_i k rows l hs hl
      simp only[Option.some.injEq]at hr
      obtain⟨rowsD,hd,_⟩:=h.Qv hs
      exact step s [] l hl hr.symm ⟨true,k,rowsD,by rw[hev];simp[Ai,CY];exact hd⟩
    . rename_i q p l hs hl
      split at hr
      . rename_i k rows hn
        simp only[Option.some.injEq]at hr
        obtain⟨_,_,bx,k',rows',hsub⟩:=h.leaf hs rfl
        exact step q p l hl hr.symm ⟨bx,k',rows',by rw[hev];exact hsub⟩
      . cases hr
    . cases hr
theorem Lf.cl {f:Nat} {rs:List (Nat×List Step)} {vs:List Value} (h1:vs.length=rs.length) (h2:∀(i:Nat) r p u,rs[i]? =some (r,p)->vs[i]? =some u->∃bx k rows,Ai (δ r) p=some (.own u bx k rows)):Lf w S δ (.cl f rs) (.func (.func f) #[] vs.toArray):=
 ⟨.lf (.cl f rs) _,by simp,by simp,.lf _ _ _ trivial (λ_ h=>h),.lf _ _ ⟨vs,rfl,h1,h2⟩⟩
theorem Sx (h:St G w S δ Fr) {a:Act} (ha:Rd δ a) {o:Oper} {f:Nat} {first caps:Array Operand} {ys:List Ar} (ho:o.op= .makeFunc (.func f) first caps) (hf:first= #[]) (hc:FU caps.toList ys=true) {v:AV} (hv:valOf (.fM f ys) (λs=>(δ s).er)=some v):Gives P w S δ a o v:=by
 simp only[valOf,Option.map_eq_some_iff]at hv
 obtain⟨rs,hrs,rfl⟩:=hv
 obtain⟨g1,g2⟩:=WS h ha ys hc hrs
 refine⟨.func (.func f) #[] (caps.toList.map a.eval).toArray,?_,Lf.cl (by simpa using g1) g2⟩
 subst hf
 have e:caps.map a.eval=(caps.toList.map a.eval).toArray:=by apply Array.ext';simp
 simp[execOp,ho,Instr.makeFunc,e]
end Go.Abs
namespace Go.Abs
variable {w w':World} {S S':Nat->Prop} {G:Gi} {δ:Nat->DV} {Fr:Nat->Nat->Prop} {P:Program}
theorem Ha {α:Type} {rows:List (List α)} {k i j:Nat} {row:List α} {x:α} (hk:∀row∈rows,row.length=k) (h1:rows[i]? =some row) (h2:row[j]? =some x):rows.flatten[i*k+j]? =some x:=by
 induction rows generalizing i with
 |nil=>simp at h1
 |cons r rs ih=>
  have hr:=hk r (by simp)
  have hjk:=Mj hk h1 h2
  cases i with
  |zero=>
   simp only[List.getElem?_cons_zero,Option.some.injEq]at h1
   subst h1
   simp only[List.flatten_cons,Nat.zero_mul,Nat.zero_add]
   rw[List.getElem?_append_left (by omega)]
   exact h2
  |succ i=>
   simp only[List.getElem?_cons_succ]at h1
   simp only[List.flatten_cons]
   rw[List.getElem?_append_right (by rw[hr,Nat.succ_mul];omega),hr,show(i+1)*k+j-k=i*k+j from by rw[Nat.succ_mul];omega]
   exact ih (λrow hrow=>hk row (by simp[hrow])) h1
theorem Cf {α:Type} {rows:List (List α)} {k:Nat} (hk:∀row∈rows,row.length=k):rows.flatten.length=rows.length*k:=by
 induction rows with
 |nil=>simp
 |cons r rs ih=>simp only[List.flatten_cons,List.length_append,List.length_cons,hk r (by simp),ih (λrow hrow=>hk row (by simp[hrow])),Nat.succ_mul];omega
theorem JD {l1 l2:List DV} {F1 F2:Nat->Prop} (h1:HF w S l1 F1) (h2:HF w S l2 F2) (hd:∀x,F1 x->¬F2 x):HF w S (l1++l2) (λx=>F1 x∨F2 x):=by
 induction l1 generalizing F1 with
 |nil=>
  have:(λx=>F1 x∨F2 x)=F2:=funext λx=>propext ⟨λh=>h.elim (λh=>absurd h (h1 x)) id,.inr⟩
  rw[this];exact h2
 |cons d l ih=>
  obtain⟨Fa,Fb,ha,hb,hab,hF⟩:=h1
  refine⟨Fa,λx=>Fb x∨F2 x,ha,ih hb (λx hx=>hd x ((hF x).2 (.inr hx))),?_,λx=> ?_⟩
  . rintro x hx (h|h)
    . exact hab x hx h
    . exact hd x ((hF x).2 (.inl hx)) h
  . show F1 x∨F2 x↔Fa x∨Fb x∨F2 x
    rw[hF x];exact or_assoc
theorem HF.congr {l:List DV} {F F':Nat->Prop} (h:HF w S l F) (hF:∀x,F' x↔F x):HF w S l F':=by
 have:F'=F:=funext λx=>propext (hF x)
 exact this▸h
theorem W6 {bx:Bool} {k:Nat} {rows:List (List DV)} {b c:Nat} {arr:Array Value} {E:TypeId} {F:Nat->Prop} (hb:w.heap[b]? =some (.cells arr E (0,0))) (hk:∀row∈rows,row.length=k)
 (hcap:if bx then rows.length=1/\arr.size=k else c*k=arr.size/\rows.length≤c) (hS:¬S b) (hok:HF w S rows.flatten F) (hbF:¬F b) (ha:∀(n:Nat) d,rows.flatten[n]? =some d->arr[n]? =some d.Al):
 Ok w S (.own (Gs bx b rows.length c) bx k rows) (λx=>x=b∨F x):=by
 obtain⟨Fs,h1,h2,h3,h4⟩:=Gy.1 hok
 refine .own bx k rows b c arr E (λi j x=>(∃row d,rows[i]? =some row/\row[j]? =some d)/\Fs (i*k+j) x) _ hb hk hcap hS ?_ ?_ ?_ ?_ ?_ ?_
 . intro i j row d hi hj;exact ha _ d (Ha hk hi hj)
 . intro i j row d hi hj
   refine(h1 _ d (Ha hk hi hj)).congr λx=>⟨λh=>h.2,λh=>⟨⟨row,d,hi,hj⟩,h⟩⟩
 . rintro i j i' j' x ⟨⟨row,d,hi,hj⟩,hx⟩ ⟨⟨row',d',hi',hj'⟩,hx'⟩
   exact Xq (Mj hk hi hj) (Mj hk hi' hj') (h2 _ _ x hx hx')
 . rintro i j x ⟨h,_⟩;exact h
 . rintro i j ⟨_,h⟩;exact hbF ((h4 b).2 ⟨_,h⟩)
 . intro x
   constructor
   . rintro(h|h)
     . exact .inl h
     . obtain⟨n,hn⟩:=(h4 x).1 h
       obtain⟨d,hd⟩:=h3 n x hn
       have hlt:n<rows.length*k:=by rw[← Cf hk];exact(List.getElem?_eq_some_iff.1 hd).1
       have hk0:0<k:=(Nat.eq_zero_or_pos k).elim (λh=>by subst h;simp at hlt) id
       have hi:n/k<rows.length:=Nat.div_lt_of_lt_mul (by rw[Nat.mul_comm];exact hlt)
       have hj:n%k<(rows[n/k]).length:=by rw[hk _ (List.getElem_mem hi)];exact Nat.mod_lt _ hk0
       refine .inr ⟨n/k,n%k,⟨_,_,List.getElem?_eq_getElem hi,List.getElem?_eq_getElem hj⟩,?_⟩
       rw[Nat.mul_comm,Nat.div_add_mod];exact hn
   . rintro(h|⟨i,j,_,h⟩)
     . exact .inl h
     . exact .inr ((h4 x).2 ⟨_,h⟩)
theorem TJ {v:Value} {bx:Bool} {k:Nat} {rows:List (List DV)} {F:Nat->Prop} (h:Ok w S (.own v bx k rows) F):
 (v= .slice none 0 0/\bx=false/\rows=[]/\∀x,¬F x)∨
 ∃b c arr E Fc,v=Gs bx b rows.length c/\w.heap[b]? =some (.cells arr E (0,0))/\(∀row∈rows,row.length=k)/\(if bx then rows.length=1/\arr.size=k else c*k=arr.size/\rows.length≤c)/\¬S b/\HF w S rows.flatten Fc/\¬Fc b/\
  (∀x,F x↔x=b∨Fc x)/\(∀(n:Nat) d,rows.flatten[n]? =some d->arr[n]? =some d.Al):=by
 cases h with
 |nil k _ hF=>exact .inl ⟨rfl,rfl,rfl,hF⟩
 |own _ _ _ b c arr E Fs _ hb hk hcap hSb hv hr hd hval hbF hF=>
  refine .inr ⟨b,c,arr,E,λx=>∃i j,Fs i j x,rfl,hb,hk,hcap,hSb,?_,λ⟨i,j,h⟩=>hbF i j h,hF,?_⟩
  . refine Gy.2 ⟨λn x=>n<rows.length*k/\Fs (n/k) (n%k) x,?_,?_,?_,?_⟩
    . intro n d hd'
      have hlt:n<rows.length*k:=by rw[← Cf hk];exact(List.getElem?_eq_some_iff.1 hd').1
      have hk0:0<k:=(Nat.eq_zero_or_pos k).elim (λh=>by subst h;simp at hlt) id
      have hi:n/k<rows.length:=Nat.div_lt_of_lt_mul (by rw[Nat.mul_comm];exact hlt)
      have hj:n%k<(rows[n/k]).length:=by rw[hk _ (List.getElem_mem hi)];exact Nat.mod_lt _ hk0
      have h1:=Ha hk (List.getElem?_eq_getElem hi) (List.getElem?_eq_getElem hj)
      rw[Nat.mul_comm,Nat.div_add_mod,hd']at h1
      obtain rfl:=Option.some.inj h1
      exact(hr _ _ _ _ (List.getElem?_eq_getElem hi) (List.getElem?_eq_getElem hj)).congr λx=>⟨λh=>h.2,λh=>⟨hlt,h⟩⟩
    . rintro n n' x ⟨h1,h2⟩ ⟨h3,h4⟩
      have:=hd _ _ _ _ x h2 h4
      rw[← Nat.div_add_mod n k,← Nat.div_add_mod n' k,this.1,this.2]
    . rintro n x ⟨h1,_⟩
      exact⟨_,List.getElem?_eq_getElem (by rw[Cf hk];exact h1)⟩
    . intro x
      constructor
      . rintro⟨i,j,h⟩
        obtain⟨row,d,h1,h2⟩:=hval i j x h
        have hjk:=Mj hk h1 h2
        have hi:=(List.getElem?_eq_some_iff.1 h1).1
        have hk0:0<k:=by omega
        refine⟨i*k+j,?_,?_⟩
        . calc i*k+j<i*k+k:=by omega
           _=(i+1)*k:=by rw[Nat.succ_mul]
           _≤rows.length*k:=Nat.mul_le_mul_right _ hi
        . have e1:(i*k+j)/k=i:=by rw[Nat.mul_comm,Nat.mul_add_div hk0,Nat.div_eq_of_lt hjk];rfl
          have e2:(i*k+j)%k=j:=by rw[Nat.mul_comm,Nat.mul_add_mod];exact Nat.mod_eq_of_lt hjk
          rw[e1,e2];exact h
      . rintro⟨n,_,h⟩;exact⟨_,_,h⟩
  . intro n d hd'
    have hlt:n<rows.length*k:=by rw[← Cf hk];exact(List.getElem?_eq_some_iff.1 hd').1
    have hk0:0<k:=(Nat.eq_zero_or_pos k).elim (λh=>by subst h;simp at hlt) id
    have hi:n/k<rows.length:=Nat.div_lt_of_lt_mul (by rw[Nat.mul_comm];exact hlt)
    have hj:n%k<(rows[n/k]).length:=by rw[hk _ (List.getElem_mem hi)];exact Nat.mod_lt _ hk0
    have h1:=Ha hk (List.getElem?_eq_getElem hi) (List.getElem?_eq_getElem hj)
    rw[Nat.mul_comm,Nat.div_add_mod,hd']at h1
    obtain rfl:=Option.some.inj h1
    have:=hv _ _ _ _ (List.getElem?_eq_getElem hi) (List.getElem?_eq_getElem hj)
    rw[Nat.mul_comm,Nat.div_add_mod]at this
    exact this
theorem HW {d:DV} {F:Nat->Prop} (h:Ok w S d F) (hc:D3 d.er=true):EO d.Al=true:=by
 cases h with
 |lf a v _ ha _=>
  cases a with
  |sc u=>rw[Hk,ha.1];exact ha.2
  |sl e k rows=>obtain⟨ad,c,hv⟩:=KN (w:=w) (S:=S) ha;rw[Hk,hv];rfl
  |own=>exact ha.elim
  |_=>simp[D3]at hc
 |nil=>rfl
 |own bx k rows b c=>cases bx<;>simp[Gs,EO]
 |agg=>simp[D3]at hc
 |A9=>simp[D3]at hc
def Df:DV->List DV
 | .agg cs=>cs
 |d=>[d]
theorem Hz (d:DV) (hl:Sc d):(Df d).map DV.er=cellsOf d.er:=by
 cases d with
 |agg cs=>simp[Df,cellsOf]
 |lf a v=>cases hl with|lf _ _ h=>cases a<;>simp_all [Df,cellsOf,CB]
 |own=>simp[Df,cellsOf]
 |A9=>simp[Df,cellsOf]
theorem Oo {v:Value} (h:EO v=true):v.cells= #[v]:=by cases v<;>simp_all [EO,Value.cells]
theorem IE {d:DV} {F:Nat->Prop} (h:Ok w S d F) (hc:(cellsOf d.er).all D3=true):d.Al.cells=((Df d).map DV.Al).toArray:=by
 cases hd:d with
 |agg cs=>simp[Df,Value.cells]
 |lf a v=>
  subst hd
  have hl:=h.Hw
  rw[← Hz _ hl]at hc
  simp only[Df,List.map_cons,List.map_nil,List.all_cons,List.all_nil,Bool.and_true]at hc
  have:=HW h hc
  simp only[Df,List.map_cons,List.map_nil]
  exact Oo this
 |own hh b k rows=>
  subst hd
  have:=HW h (by simp[D3])
  simp only[Df,List.map_cons,List.map_nil]
  exact Oo this
 |A9 cs=>subst hd;simp[cellsOf,D3]at hc
theorem I1 {d:DV} {F:Nat->Prop} (h:Ok w S d F):HF w S (Df d) F:=by
 have single:HF w S [d] F:=⟨F,λ_=>False,h,λ_ h=>h,λ_ _ h=>h,λx=>by simp⟩
 cases d with
 |agg cs=>exact BQ.1 h
 |lf a v=>exact single
 |own=>exact single
 |A9=>exact single
theorem GJ (a:Act) (d:Nat) (v:Value) (h:d<a.tmps.size) (s:Nat):(a.put (some d) v).tmps.getD s undef=if s=d then v else a.tmps.getD s undef:=by
 simp only[Act.put,Array.getD_eq_getD_getElem?,Array.getElem?_setIfInBounds]
 by_cases hs:d=s
 . subst hs;simp[h]
 . have:¬s=d:=λe=>hs e.symm
   simp[hs,this]
def LN (P:Program) (G:Gi) (w:World) (S:Nat->Prop) (Fr:Nat->Nat->Prop) (a:Act) (o:Oper) (σ':Sg):Prop:=
 ∃(n:Next) (v:Value) (w':World) (S':Nat->Prop) (δ':Nat->DV) (F':Nat->Nat->Prop),(execOp a.eval o).run P w= .ok n w'/\(n= .value v∨n= .skip/\v=undef)/\Rd δ' (a.put o.dst v)/\(λs=>(δ' s).er)=σ'/\
  St G w' S' δ' F'/\Nx w S (A3 Fr) w' S' (A3 F')
def GX (G:Gi) (a:Act) (o:Oper) (d:Option DU):Prop:=
 match d with
 |none=>o.dst=none
 |some d=>o.dst=some d.d/\d.kl=G.JG d.d/\d.rs=G.Ee d.d/\d.d<a.tmps.size
theorem HC {S1:Nat->Prop} {D:DV} {Ff:Nat->Prop} {δ1:Nat->DV} {F1:Nat->Nat->Prop} {a:Act} {o:Oper} {d:DU} {σ':Sg} (h:St G w S1 δ1 F1) (ha:Rd δ1 a) (hd:GX G a o (some d)) (hr:(execOp a.eval o).run P w= .ok (.value D.Al) w')
 (hw:∀b,S1 b->w'.heap[b]? =w.heap[b]?) (hf:∀s x,F1 s x->w'.heap[x]? =w.heap[x]?) (hSS:∀b,S1 b->S' b) (hfS:∀s x,F1 s x->¬S' x)
 (hD:Ok w' S' D Ff) (hdis:∀s x,F1 s x->¬Ff x) (hal:Cd δ1 D) (hwr:wr d D.er (λs=>(δ1 s).er)=some σ') (hnx:Nx w S (A3 Fr) w' S' (λx=>A3 F1 x∨Ff x)):LN P G w S Fr a o σ':=by
 obtain⟨h1,h2,h3,h4⟩:=hd
 obtain⟨δ',F',hst,her,hann,hown⟩:=h.wr h2 h3 hw hf hSS hfS hD hdis hal hwr
 refine⟨_,D.Al,w',S',δ',F',hr,.inl rfl,?_,her,hst,hnx.trans (Nx.less hown)⟩
 intro s
 rw[h1,GJ a d.d D.Al h4 s,hann s]
 split
 . rfl
 . exact ha s
theorem SU {a:Act} {o:Oper} {d:DU} {σ':Sg} {v:AV} (h:St G w S δ Fr) (ha:Rd δ a) (hd:GX G a o (some d)) (hg:Gives P w S δ a o v) (hwr:wr d v (λs=>(δ s).er)=some σ'):LN P G w S Fr a o σ':=by
 obtain⟨u,hr,D,rfl,rfl,hok,hal⟩:=hg
 exact HC h ha hd hr (λ_ _=>rfl) (λ_ _ _=>rfl) (λ_ h=>h) (λs x hx=>(h.ok s).D6 x hx) hok (λ_ _ _ h=>h) hal hwr (Nx.less λx hx=>hx.elim id False.elim)
end Go.Abs
namespace Go.Abs
variable {w w':World} {S S':Nat->Prop} {G:Gi} {δ:Nat->DV} {Fr:Nat->Nat->Prop} {P:Program}
theorem alloc_old (w:World) (o:Obj) (b:Nat) (h:b<w.heap.size):(w.alloc o).heap[b]? =w.heap[b]? :=by
 show(w.heap.push o)[b]? =_
 rw[Array.getElem?_push,if_neg (by omega)]
theorem Sd (w:World) (o:Obj):(w.alloc o).heap[w.heap.size]? =some o:=by
 show(w.heap.push o)[w.heap.size]? =_
 simp
theorem Nx.alloc (w:World) (S U U':Nat->Prop) (o:Obj) (h:∀x,U' x->U x∨x=w.heap.size):Nx w S U (w.alloc o) S U':=
 ⟨rfl,rfl,rfl,by simp,λb hb _=>alloc_old w o b hb,λ_ h=>h,λ_ h=>.inl h,λhl b hb=>by have:=hl b hb;simp;omega,λx hx=>(h x hx).imp id (λe=>by omega)⟩
theorem Nx.Gj {w:World} {S U U' Fo:Nat->Prop} (h:∀x,U' x∨Fo x->U x) (hlt:∀x,Fo x->x<w.heap.size):Nx w S U w (λx=>S x∨Fo x) U':=
 ⟨rfl,rfl,rfl,Nat.le_refl _,λ_ _ _=>rfl,λ_ h=>.inl h,λx hx=>hx.imp id λhf=>.inl (h x (.inr hf)),λhl b hb=>hb.elim (hl b) (hlt b),λx hx=>.inl (h x (.inl hx))⟩
theorem kD (h:St G w S δ Fr) {a:Act} (ha:Rd δ a) {o:Oper} {x:Operand} {y:Ar} {d:DU} (hd:GX G a o (some d)) (ho:o.op= .assign x) (hc:Bf x y=true) {σ':Sg} (he:ES G (.mv y) (some d) (λs=>(δ s).er)=some σ'):LN P G w S Fr a o σ':=by
 obtain⟨hy,hev⟩:=Aa hc ha
 simp only[ES]at he
 split at he
 . rename_i v τ ht
   obtain⟨δ1,F1,D,Ff,hfl,her,hDe,hDa⟩:=h.tk hy ht
   subst her
   subst hDe
   exact HC hfl.st (λs=>(ha s).trans (hfl.Al s).symm) hd (by simp[execOp,ho,hev,hDa]) (λ_ _=>rfl) (λ_ _ _=>rfl) (λ_ h=>h) (λs x hx=>(hfl.st.ok s).D6 x hx) hfl.ok hfl.I0 hfl.al he (Nx.less hfl.own)
 . cases he
theorem RS {δ1:Nat->DV} {F1:Nat->Nat->Prop} {a:Act} {o:Oper} {d:DU} {σ':Sg} {bx:Bool} {k c:Nat} {rows:List (List DV)} {Fd:Nat->Prop} {arr:Array Value} {E:TypeId} (h:St G w S δ1 F1) (hSlt:∀b,S b->b<w.heap.size) (ha:Rd δ1 a)
 (hd:GX G a o (some d)) (hr:(execOp a.eval o).run P w= .ok (.value (Gs bx w.heap.size rows.length c)) (w.alloc (.cells arr E))) (hok:HF w S rows.flatten Fd) (hdis:∀s x,F1 s x->¬Fd x) (hk:∀row∈rows,row.length=k)
 (hcap:if bx then rows.length=1/\arr.size=k else c*k=arr.size/\rows.length≤c) (hv:∀(n:Nat) d,rows.flatten[n]? =some d->arr[n]? =some d.Al)
 (hwr:wr d (.own bx k (rows.map (·.map DV.er))) (λs=>(δ1 s).er)=some σ') (hown:∀x,A3 F1 x∨Fd x->A3 Fr x):LN P G w S Fr a o σ':=by
 have hlt:=(BQ.2 hok).lt
 have hnS:=(BQ.2 hok).D6
 have hold:∀b,b<w.heap.size->(w.alloc (.cells arr E)).heap[b]? =w.heap[b]? :=λb hb=>alloc_old _ _ _ hb
 have hnode:Ok (w.alloc (.cells arr E)) S (.own (Gs bx w.heap.size rows.length c) bx k rows) (λx=>x=w.heap.size∨Fd x):=by
  refine W6 (Sd w _) hk hcap (λhs=>by have:=hSlt _ hs;omega) ?_ (λhs=>by have:=hlt _ hs;omega) hv
  exact hok.mono (λb hb=>hold b (hSlt b hb)) (λb hb=>hold b (hlt b hb)) (λ_ h=>h) hnS
 refine HC (D:=.own (Gs bx w.heap.size rows.length c) bx k rows) h ha hd (by simpa using hr) (λb hb=>hold b (hSlt b hb)) (λs x hx=>hold x ((h.ok s).lt x hx)) (λ_ h=>h) (λs x hx=>(h.ok s).D6 x hx) hnode ?_ (.own _ _ _ _) (by simpa using hwr) ?_
 . rintro s x hx (rfl|hf)
   . have:=(h.ok s).lt _ hx;omega
   . exact hdis s x hx hf
 . refine Nx.alloc _ _ _ _ _ ?_
   rintro x (hx|rfl|hx)
   . exact .inl (hown x (.inl hx))
   . exact .inr rfl
   . exact .inl (hown x (.inr hx))
theorem Xy (h:St G w S δ Fr) (hSlt:∀b,S b->b<w.heap.size) {a:Act} (ha:Rd δ a) {o:Oper} {y:Ar} {n:Nat} {d:DU} (hd:GX G a o (some d)) (hy:P6 y) {t:TypeId}
 (hr:(execOp a.eval o).run P w= .ok (.value (.pointer (some ⟨w.heap.size,0,none⟩))) (w.alloc (.cells (CY δ y).cells t))) {σ':Sg} (he:ES G (.bx n y) (some d) (λs=>(δ s).er)=some σ'):LN P G w S Fr a o σ':=by
 simp only[ES]at he
 split at he
 . rename_i v τ ht
   split at he
   . rename_i hcond
     obtain⟨hn,hcell⟩:=hcond
     obtain⟨δ1,F1,D,Ff,hfl,her,hDe,hDa⟩:=h.tk hy ht
     subst her
     subst hDe
     have hm:=Hz D hfl.ok.Hw
     have hl:(Df D).length=n:=by rw[← hn,← hm];simp
     have hcs:=IE hfl.ok hcell
     rw[hDa]at hcs
     refine RS (bx:=true) (k:=n) (c:=0) (rows:=[Df D]) (Fd:=Ff) (arr:=(CY δ y).cells) (E:=t) hfl.st hSlt (λs=>(ha s).trans (hfl.Al s).symm) hd (by rw[hr];simp[Gs]) (by simpa using I1 hfl.ok) hfl.I0 (by simpa using hl) ?_ ?_ ?_ hfl.own
     . simp[hcs,hl]
     . intro m e hme
       simp only[List.flatten_cons,List.flatten_nil,List.append_nil]at hme
       simp[hcs,hme]
     . simp only[List.map_cons,List.map_nil,hm];exact he
   . cases he
 . cases he
theorem Xx {P:Program} (t:TypeId) (v:Value) (w:World):(Instr.box t v).run P w= .ok (.pointer (some ⟨w.heap.size,0,none⟩)) (w.alloc (.cells v.cells t)):=by
 simp[Instr.box,newVar,newRow]
theorem Zb {P:Program} (t:TypeId) (i:TypeInfo) (z:Value) (hi:P.info? t=some i) (hz:i.zero=some z) (w:World):(Instr.alloc t true (.tuple #[])).run P w= .ok (.pointer (some ⟨w.heap.size,0,none⟩)) (w.alloc (.cells z.cells t)):=by
 simp[Instr.alloc,zeroValue,typeInfo,hi,hz,newVar,newRow]
theorem QB {l r:List DV} {F1 F2:Nat->Prop} (off:Nat) (h1:HF w S l F1) (h2:HF w S r F2) (hd:∀x,F1 x->¬F2 x) (hoff:off+r.length≤l.length):
 ∃F,HF w S (l.take off++r++l.drop (off+r.length)) F/\∀x,F x->F1 x∨F2 x:=by
 obtain⟨Fs,g1,g2,g3,g4⟩:=Gy.1 h1
 obtain⟨Fr,k1,k2,k3,k4⟩:=Gy.1 h2
 have hget:∀i,(l.take off++r++l.drop (off+r.length))[i]? =if i<off then l[i]? else if i<off+r.length then r[i-off]? else l[i]? :=by
  intro i
  have hlen:(l.take off).length=off:=by simp;omega
  by_cases c1:i<off
  . rw[List.append_assoc,List.getElem?_append_left (by omega),List.getElem?_take,if_pos c1,if_pos c1]
  . by_cases c2:i<off+r.length
    . rw[List.getElem?_append_left (by simp;omega),List.getElem?_append_right (by omega),hlen,if_neg c1,if_pos c2]
    . rw[List.getElem?_append_right (by simp;omega),List.getElem?_drop,if_neg c1,if_neg c2]
      congr 1
      simp
      omega
 refine⟨λx=>∃i,(if i<off then Fs i x else if i<off+r.length then Fr (i-off) x else Fs i x),Gy.2 ⟨λi x=>if i<off then Fs i x else if i<off+r.length then Fr (i-off) x else Fs i x,?_,?_,?_,λx=>Iff.rfl⟩,?_⟩
 . intro i e he
   rw[hget]at he
   by_cases c1:i<off
   . simp only[c1,if_true]at he ⊢;exact g1 i e he
   . by_cases c2:i<off+r.length
     . simp only[c1,c2,if_true,if_false]at he ⊢;exact k1 _ e he
     . simp only[c1,c2,if_false]at he ⊢;exact g1 i e he
 . intro i i' x hx hy
   have out:∀i,Fs i x->F1 x:=λi h=>(g4 x).2 ⟨i,h⟩
   have inn:∀i,Fr i x->F2 x:=λi h=>(k4 x).2 ⟨i,h⟩
   by_cases c1:i<off<;>by_cases c2:i'<off<;>by_cases c3:i<off+r.length<;>by_cases c4:i'<off+r.length<;>simp only[c1,c2,c3,c4,if_true,if_false]at hx hy<;>
    first
     |exact g2 _ _ x hx hy
     |exact absurd (inn _ hy) (hd x (out _ hx))
     |exact absurd (inn _ hx) (hd x (out _ hy))
     | (have:=k2 _ _ x hx hy;omega)
     |omega
 . intro i x hx
   rw[hget]
   by_cases c1:i<off
   . simp only[c1,if_true]at hx ⊢;exact g3 i x hx
   . by_cases c2:i<off+r.length
     . simp only[c1,c2,if_true,if_false]at hx ⊢;exact k3 _ x hx
     . simp only[c1,c2,if_false]at hx ⊢;exact g3 i x hx
 . rintro x ⟨i,hx⟩
   by_cases c1:i<off
   . simp only[c1,if_true]at hx;exact .inl ((g4 x).2 ⟨i,hx⟩)
   . by_cases c2:i<off+r.length
     . simp only[c1,c2,if_true,if_false]at hx;exact .inr ((k4 x).2 ⟨_,hx⟩)
     . simp only[c1,c2,if_false]at hx;exact .inl ((g4 x).2 ⟨i,hx⟩)
theorem XK (ds r:List DV) (off:Nat):(ds.take off++r++ds.drop (off+r.length)).map DV.er=UH (ds.map DV.er) off (r.map DV.er):=by
 simp[UH,List.map_take,List.map_drop]
theorem cM (vs:List Value) (off:Nat) (cells:Array Value) (h:off+vs.length≤cells.size) (m:Nat):
 ((vs.zipIdx m).foldl (λcs (x:Value×Nat)=>cs.setIfInBounds (off+x.2) x.1) cells).toList=cells.toList.take (off+m)++vs++cells.toList.drop (off+m+vs.length)∨off+m+vs.length>cells.size:=by
 induction vs generalizing cells m with
 |nil=>left;simp
 |cons v vs ih=>
  by_cases hb:off+m+(v::vs).length>cells.size
  . exact .inr hb
  . left
    simp only[List.zipIdx_cons,List.foldl_cons]
    have h1:=ih (cells.setIfInBounds (off+m) v) (by simp at h ⊢;omega) (m+1)
    simp only[Array.size_setIfInBounds]at h1
    rcases h1 with h1|h1
    . rw[h1]
      have hlt:off+m<cells.toList.length:=by simp at hb ⊢;omega
      simp only[Array.toList_setIfInBounds]
      rw[List.take_set,List.drop_set_of_lt (by omega)]
      rw[show off+(m+1)=off+m+1 from by omega,List.take_succ_eq_append_getElem hlt,List.set_append_right _ _ (by simp;omega)]
      simp only[List.length_take,Nat.min_eq_left (Nat.le_of_lt hlt),Nat.sub_self,List.set_cons_zero,List.append_assoc,List.cons_append,List.length_cons,List.nil_append]
      rw[show off+m+1+vs.length=off+m+(vs.length+1)from by omega]
    . simp at h1 hb;omega
end Go.Abs
