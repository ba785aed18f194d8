/- A calculus of abstract states of Go memory, and that it is sound. -/
import Derived.Test.YtkpdblcoclbgbaaGreatDoorCoreA
import Derived.Laws.MakeOwn
set_option linter.unusedSimpArgs false
set_option linter.unusedVariables false
namespace Go.Abs
variable {w w':World} {S S':Nat->Prop} {G:Gi} {δ:Nat->DV} {Fr:Nat->Nat->Prop} {P:Program}
theorem Sp (place:Nat->Option (Nat×Nat)) (cells:List Value) (i off n:Nat) (v:Value) (rest:List (Nat×Value)) (vs:List Value) (hp:place i=some (off,n)) (hv:v.cells=vs.toArray) (hn:vs.length=n) (hb:off+n≤cells.length):
 Instr.fill place cells.toArray ((i,v)::rest)=Instr.fill place (cells.take off++vs++cells.drop (off+vs.length)).toArray rest:=by
 have hc:(decide (v.cells.size≠n)||decide (off+v.cells.size>cells.toArray.size))=false:=by
  simp[hv,hn];omega
 have hf:=cM vs off cells.toArray (by simp;omega) 0
 simp only[Nat.add_zero]at hf
 rcases hf with hf|hf
 . have:(v.cells.zipIdx.foldl (λcs (x:Value×Nat)=>cs.setIfInBounds (off+x.2) x.1) cells.toArray)=(cells.take off++vs++cells.drop (off+vs.length)).toArray:=by
    apply Array.ext'
    rw[hv,← hf]
    have e:vs.toArray.zipIdx=vs.zipIdx.toArray:=by simp
    rw[e]
    simp
   simp only[Instr.fill,hp,hc]
   simp only[Bool.false_eq_true,if_false]
   exact congrArg (λz=>Instr.fill place z rest) this
 . simp at hf;omega
def IH (place:Nat->Option (Nat×Nat)):List (Nat×Operand)->List (Nat×Nat×Ar)->Bool
 |[],[]=>true
 | (i,x)::qs,(off,n,y)::ps=>(match place i with|some (o',n')=>o'==off&&n'==n|none=>false)&&Bf x y&&IH place qs ps
 |_,_=>false
theorem St.PJ {a:Act} {place:Nat->Option (Nat×Nat)} (ps:List (Nat×Nat×Ar)):∀(qs:List (Nat×Operand)) {δ:Nat->DV} {Fr:Nat->Nat->Prop} {ds:List DV} {Fd:Nat->Prop} {cs':List AV} {τ:Sg},St G w S δ Fr->Rd δ a->
 IH place qs ps=true->HF w S ds Fd->(∀s x,Fr s x->¬Fd x)->(ds.map DV.er).all D3=true->Abs.PJ G ps (ds.map DV.er) (λs=>(δ s).er)=some (cs',τ)->
 ∃δ' F' ds' Fd',St G w S δ' F'/\(λs=>(δ' s).er)=τ/\(∀s,(δ' s).Al=(δ s).Al)/\HF w S ds' Fd'/\ds'.map DV.er=cs'/\Instr.fill place (ds.map DV.Al).toArray (qs.map λ(i,x)=>(i,a.eval x))=some (ds'.map DV.Al).toArray/\
  (∀s x,F' s x->¬Fd' x)/\(∀x,A3 F' x∨Fd' x->A3 Fr x∨Fd x)/\cs'.all D3=true:=by
 induction ps with
 |nil=>
  intro qs δ Fr ds Fd cs' τ h ha hc hok hdis hcell hb
  cases qs with
  |cons q qs=>simp[IH]at hc
  |nil=>
   simp only[Abs.PJ,Option.some.injEq,Prod.mk.injEq]at hb
   obtain⟨rfl,rfl⟩:=hb
   exact⟨δ,Fr,ds,Fd,h,rfl,λ_=>rfl,hok,rfl,by simp[Instr.fill],hdis,λx hx=>hx,hcell⟩
 |cons p ps ih=>
  obtain⟨off,n,y⟩:=p
  intro qs δ Fr ds Fd cs' τ h ha hc hok hdis hcell hb
  cases qs with
  |nil=>simp[IH]at hc
  |cons q qs=>
   obtain⟨i,x⟩:=q
   simp only[IH,Bool.and_eq_true]at hc
   obtain⟨⟨hp,hcx⟩,hcr⟩:=hc
   have hp':place i=some (off,n):=by
    split at hp
    . rename_i o' n' hpl;simp only[Bool.and_eq_true,beq_iff_eq]at hp;rw[hpl,hp.1,hp.2]
    . cases hp
   obtain⟨hy,hev⟩:=Aa hcx ha
   simp only[Abs.PJ]at hb
   split at hb
   . rename_i v τ1 ht
     split at hb
     . rename_i hcond
       obtain⟨hn,hoff,hall⟩:=hcond
       obtain⟨δ1,F1,D,Ff,hfl,her,hDe,hDa⟩:=h.tk hy ht
       subst her
       subst hDe
       have hm:=Hz D hfl.ok.Hw
       have hl:(Df D).length=n:=by rw[← hn,← hm];simp
       have hcs:=IE hfl.ok hall
       have hdF:∀x,Fd x->¬Ff x:=by
        intro x hx hf
        obtain⟨t,ht⟩:=hfl.own x (.inr hf)
        exact hdis t x ht hx
       have hoff':off+(Df D).length≤ds.length:=by rw[hl];simpa using hoff
       obtain⟨F2,hok2,hsub2⟩:=QB off hok (I1 hfl.ok) hdF hoff'
       have hdis2:∀s x,F1 s x->¬F2 x:=by
        intro s x hx h2
        rcases hsub2 x h2 with h3|h3
        . obtain⟨t,ht⟩:=hfl.own x (.inl ⟨s,hx⟩)
          exact hdis t x ht h3
        . exact hfl.I0 s x hx h3
       have hsp:=XK ds (Df D) off
       have hcell2:((ds.take off++Df D++ds.drop (off+(Df D).length)).map DV.er).all D3=true:=by
        rw[List.all_eq_true]at hcell hall ⊢
        intro c hc
        simp only[List.map_append,List.mem_append]at hc
        rcases hc with(hc|hc)|hc
        . exact hcell c (by rw[List.map_take]at hc;exact List.mem_of_mem_take hc)
        . rw[hm]at hc;exact hall c hc
        . exact hcell c (by rw[List.map_drop]at hc;exact List.mem_of_mem_drop hc)
       rw[← hm]at hb
       rw[← hsp]at hb
       obtain⟨δ2,F2',ds',Fd',hst2,her2,hann2,hokk,hmap,hfill,hdis3,hown3,hcell3⟩:=ih qs hfl.st (λs=>(ha s).trans (hfl.Al s).symm) hcr hok2 hdis2 hcell2 hb
       refine⟨δ2,F2',ds',Fd',hst2,her2,λs=>(hann2 s).trans (hfl.Al s),hokk,hmap,?_,hdis3,?_,hcell3⟩
       . simp only[List.map_cons]
         rw[Sp place (ds.map DV.Al) i off n (a.eval x) _ ((Df D).map DV.Al) hp' (by rw[hev,← hDa];exact hcs) (by simpa using hl) (by simpa using hoff)]
         rw[← hfill]
         congr 2
         simp[List.map_take,List.map_drop]
       . intro x hx
         rcases hown3 x hx with h3|h3
         . exact .inl (hfl.own x (.inl h3))
         . rcases hsub2 x h3 with h4|h4
           . exact .inr h4
           . exact .inl (hfl.own x (.inr h4))
     . cases hb
   . cases hb
theorem eH (h:St G w S δ Fr) {a:Act} (ha:Rd δ a) {o:Oper} {t:TypeId} {parts:Array (Nat×Operand)} {place:Nat->Option (Nat×Nat)} {z:List AV} {zd:List DV} {ps:List (Nat×Nat×Ar)} {d:DU} (hd:GX G a o (some d)) (ho:o.op= .build t parts)
 (hz:QW z=some zd) (hzc:z.all D3=true) (hch:IH place parts.toList ps=true)
 (hr:∀cells:Array Value,Instr.fill place (zd.map DV.Al).toArray (parts.toList.map λ(i,x)=>(i,a.eval x))=some cells->(Instr.build t (parts.map λ(i,x)=>(i,a.eval x))).run P w= .ok (.agg cells) w) {σ':Sg}
 (he:ES G (.Dc z ps) (some d) (λs=>(δ s).er)=some σ'):LN P G w S Fr a o σ':=by
 have hcst:zd.map DV.er=z/\HF w S zd (λ_=>False):=by
  have:=GC (w:=w) (S:=S) (δ:=δ) (.agg z) (.agg zd) (by simp[GR,hz])
  exact⟨by simpa using this.1,BQ.1 this.2.1⟩
 simp only[ES]at he
 split at he
 . rename_i cs τ hb
   rw[← hcst.1]at hb hzc
   obtain⟨δ',F',ds',Fd',hst,her,hann,hok,hmap,hfill,hdis,hown,hcell⟩:=h.PJ (a:=a) ps parts.toList ha hch hcst.2 (λ_ _ _ h=>h) hzc hb
   subst her
   subst hmap
   refine HC (D:=.agg ds') (Ff:=Fd') hst (λs=>(ha s).trans (hann s).symm) hd ?_ (λ_ _=>rfl) (λ_ _ _=>rfl) (λ_ h=>h) (λs x hx=>(hst.ok s).D6 x hx) (BQ.2 hok) hdis (.agg _ λi e hi=> ?_) (by simpa using he) (Nx.less ?_)
   . have:=hr _ hfill
     simp only[execOp,ho,Sem.run_bind,this,Result.andThen_ok,Sem.run_pure,G0]
   . exact ME (λa ha=>by rw[List.all_eq_true]at hcell;exact hcell a ha) e (List.mem_of_getElem? hi)
   . intro x hx
     rcases hown x hx with h1|h1
     . exact h1
     . exact h1.elim
 . cases he
theorem Ou {α:Type} {rows:List (List α)} {k i:Nat} {r:List α} (hk:∀row∈rows,row.length=k) (hi:i<rows.length) (hr:r.length=k):(rows.set i r).flatten=rows.flatten.take (i*k)++r++rows.flatten.drop (i*k+r.length):=by
 induction rows generalizing i with
 |nil=>simp at hi
 |cons x xs ih=>
  have hx:=hk x (by simp)
  cases i with
  |zero=>simp[hr,← hx]
  |succ i=>
   simp only[List.set_cons_succ,List.flatten_cons]
   rw[ih (λrow hrow=>hk row (by simp[hrow])) (by simpa using hi)]
   have e1:(x++xs.flatten).take ((i+1)*k)=x++xs.flatten.take (i*k):=by
    rw[show(i+1)*k=x.length+i*k from by rw[Nat.succ_mul,hx];omega,List.take_length_add_append]
   have e2:(x++xs.flatten).drop ((i+1)*k+r.length)=xs.flatten.drop (i*k+r.length):=by
    rw[show(i+1)*k+r.length=x.length+(i*k+r.length)from by rw[Nat.succ_mul,hx];omega,List.drop_length_add_append]
   rw[e1,e2]
   simp[List.append_assoc]
def JJ (k:Nat):List (Nat×Operand)->List (Nat×Ar)->Bool
 |[],[]=>true
 | (i,x)::qs,(j,y)::ps=>i==j&&Bf x y&&JJ k qs ps
 |_,_=>false
theorem St.PK {a:Act} {k:Nat} (ps:List (Nat×Ar)):∀(qs:List (Nat×Operand)) {δ:Nat->DV} {Fr:Nat->Nat->Prop} {ds:List (List DV)} {Fd:Nat->Prop} {rs:List (List AV)} {τ:Sg},St G w S δ Fr->Rd δ a->
 JJ k qs ps=true->HF w S ds.flatten Fd->(∀r∈ds,r.length=k)->(∀s x,Fr s x->¬Fd x)->Abs.PK G k ps (ds.map (·.map DV.er)) (λs=>(δ s).er)=some (rs,τ)->
 ∃(δ':Nat->DV) (F':Nat->Nat->Prop) (ds':List (List DV)) (Fd':Nat->Prop),St G w S δ' F'/\(λs=>(δ' s).er)=τ/\(∀s,(δ' s).Al=(δ s).Al)/\HF w S ds'.flatten Fd'/\(∀r∈ds',r.length=k)/\ds'.length=ds.length/\ds'.map (·.map DV.er)=rs/\
  Instr.fill (λi=>some (i*k,k)) (ds.flatten.map DV.Al).toArray (qs.map λ(i,x)=>(i,a.eval x))=some (ds'.flatten.map DV.Al).toArray/\(∀s x,F' s x->¬Fd' x)/\(∀x,A3 F' x∨Fd' x->A3 Fr x∨Fd x):=by
 induction ps with
 |nil=>
  intro qs δ Fr ds Fd rs τ h ha hc hok hk hdis hb
  cases qs with
  |cons q qs=>simp[JJ]at hc
  |nil=>
   simp only[Abs.PK,Option.some.injEq,Prod.mk.injEq]at hb
   obtain⟨rfl,rfl⟩:=hb
   exact⟨δ,Fr,ds,Fd,h,rfl,λ_=>rfl,hok,hk,rfl,rfl,by simp[Instr.fill],hdis,λx hx=>hx⟩
 |cons p ps ih=>
  obtain⟨j,y⟩:=p
  intro qs δ Fr ds Fd rs τ h ha hc hok hk hdis hb
  cases qs with
  |nil=>simp[JJ]at hc
  |cons q qs=>
   obtain⟨i,x⟩:=q
   simp only[JJ,Bool.and_eq_true,beq_iff_eq]at hc
   obtain⟨⟨rfl,hcx⟩,hcr⟩:=hc
   obtain⟨hy,hev⟩:=Aa hcx ha
   simp only[Abs.PK]at hb
   split at hb
   . rename_i v τ1 ht
     split at hb
     . rename_i hcond
       obtain⟨hn,hi,hall⟩:=hcond
       obtain⟨δ1,F1,D,Ff,hfl,her,hDe,hDa⟩:=h.tk hy ht
       subst her
       subst hDe
       have hm:=Hz D hfl.ok.Hw
       have hl:(Df D).length=k:=by rw[← hn,← hm];simp
       have hcs:=IE hfl.ok hall
       have hi':i<ds.length:=by simpa using hi
       have hdF:∀x,Fd x->¬Ff x:=by
        intro x hx hf
        obtain⟨t,ht⟩:=hfl.own x (.inr hf)
        exact hdis t x ht hx
       have hb2:i*k+(Df D).length≤ds.flatten.length:=by
        rw[Cf hk,hl,← Nat.succ_mul];exact Nat.mul_le_mul_right _ hi'
       obtain⟨F2,hok2,hsub2⟩:=QB (i*k) hok (I1 hfl.ok) hdF hb2
       rw[← Ou hk hi' hl]at hok2
       have hdis2:∀s x,F1 s x->¬F2 x:=by
        intro s x hx h2
        rcases hsub2 x h2 with h3|h3
        . obtain⟨t,ht⟩:=hfl.own x (.inl ⟨s,hx⟩)
          exact hdis t x ht h3
        . exact hfl.I0 s x hx h3
       have hk2:∀r∈ds.set i (Df D),r.length=k:=by
        intro r hr
        rcases List.mem_or_eq_of_mem_set hr with h|rfl
        . exact hk r h
        . exact hl
       rw[← hm]at hb
       rw[← List.map_set (f:=λx:List DV=>x.map DV.er)]at hb
       obtain⟨δ2,F2',ds',Fd',hst2,her2,hann2,hokk,hk3,hlen,hmap,hfill,hdis3,hown3⟩:=ih qs hfl.st (λs=>(ha s).trans (hfl.Al s).symm) hcr hok2 hk2 hdis2 hb
       refine⟨δ2,F2',ds',Fd',hst2,her2,λs=>(hann2 s).trans (hfl.Al s),hokk,hk3,by simpa using hlen,hmap,?_,hdis3,?_⟩
       . simp only[List.map_cons]
         rw[Sp _ (ds.flatten.map DV.Al) i (i*k) k (a.eval x) _ ((Df D).map DV.Al) rfl (by rw[hev,← hDa];exact hcs) (by simpa using hl) (by rw[List.length_map];rw[hl]at hb2;exact hb2)]
         rw[← hfill,Ou hk hi' hl]
         congr 2
         simp[List.map_take,List.map_drop]
       . intro x hx
         rcases hown3 x hx with h3|h3
         . exact .inl (hfl.own x (.inl h3))
         . rcases hsub2 x h3 with h4|h4
           . exact .inr h4
           . exact .inl (hfl.own x (.inr h4))
     . cases hb
   . cases hb
def Yl:List (List AV)->Option (List (List DV))
 |[]=>some []
 |r::rs=>match QW r,Yl rs with
  |some d,some ds=>some (d::ds)
  |_,_=>none
theorem Wh (rs:List (List AV)) (ds:List (List DV)) (h:Yl rs=some ds):ds.map (·.map DV.er)=rs/\HF w S ds.flatten (λ_=>False):=by
 induction rs generalizing ds with
 |nil=>simp only[Yl,Option.some.injEq]at h;subst h;exact⟨rfl,λ_ h=>h⟩
 |cons r rs ih=>
  simp only[Yl]at h
  split at h
  . rename_i d ds' h1 h2
    obtain rfl:=Option.some.inj h
    obtain⟨g1,g2⟩:=ih ds' h2
    have:=GC (w:=w) (S:=S) (δ:=λ_=>default) (.agg r) (.agg d) (by simp[GR,h1])
    refine⟨by simp[g1];simpa using this.1,?_⟩
    simp only[List.flatten_cons]
    exact(JD (BQ.1 this.2.1) g2 (λ_ h=>h.elim)).congr λx=>by simp
  . cases h
theorem eJ (h:St G w S δ Fr) (hSlt:∀b,S b->b<w.heap.size) {a:Act} (ha:Rd δ a) {o:Oper} {t e:TypeId} {len k:Nat} {parts:Array (Nat×Operand)} {z:List (List AV)} {zd:List (List DV)} {ps:List (Nat×Ar)} {d:DU} (hd:GX G a o (some d)) (ho:o.op= .buildSlice t len parts)
 (hz:Yl z=some zd) (hzk:∀r∈z,r.length=k) (hzl:z.length=len) (hch:JJ k parts.toList ps=true)
 (hr:∀cells:Array Value,Instr.fill (λi=>some (i*k,k)) (zd.flatten.map DV.Al).toArray (parts.toList.map λ(i,x)=>(i,a.eval x))=some cells->
  (Instr.buildSlice t len (parts.map λ(i,x)=>(i,a.eval x))).run P w= .ok (.slice (some ⟨w.heap.size,0,none⟩) len len) (w.alloc (.cells cells e))) {σ':Sg}
 (he:ES G (.Eg k z ps) (some d) (λs=>(δ s).er)=some σ'):LN P G w S Fr a o σ':=by
 obtain⟨hzm,hzok⟩:=Wh (w:=w) (S:=S) z zd hz
 have hzdk:∀r∈zd,r.length=k:=by
  intro r hr
  have:=hzk (r.map DV.er) (by rw[← hzm];exact List.mem_map_of_mem hr)
  simpa using this
 have hzdl:zd.length=len:=by rw[← hzl,← hzm];simp
 simp only[ES]at he
 split at he
 . rename_i rs τ hb
   rw[← hzm]at hb
   obtain⟨δ',F',ds',Fd',hst,her,hann,hok,hk,hlen,hmap,hfill,hdis,hown⟩:=h.PK (a:=a) ps parts.toList ha hch hzok hzdk (λ_ _ _ h=>h) hb
   subst her
   subst hmap
   refine RS (bx:=false) (k:=k) (c:=len) (rows:=ds') (Fd:=Fd') (arr:=(ds'.flatten.map DV.Al).toArray) (E:=e) hst hSlt (λs=>(ha s).trans (hann s).symm) hd ?_ hok hdis hk ?_ ?_ he ?_
   . have:=hr _ hfill
     simp only[execOp,ho,Sem.run_bind,this,Result.andThen_ok,Sem.run_pure,Gs,Bool.false_eq_true,if_false,hlen,hzdl]
   . simp only[Bool.false_eq_true,if_false,List.size_toArray,List.length_map,Cf hk,hlen,hzdl]
     exact⟨trivial,Nat.le_refl _⟩
   . intro n d hn;rw[List.getElem?_toArray,List.getElem?_map,hn];rfl
   . intro x hx
     rcases hown x hx with h1|h1
     . exact h1
     . exact h1.elim
 . cases he
theorem MM (z:List AV) (zd:List DV) (h:QW z=some zd):zd.map DV.er=z/\∀D∈zd,Ok w S D (λ_=>False):=by
 obtain⟨h1,h2,_⟩:=GC (w:=w) (S:=S) (δ:=λ_=>.lf .un undef) (.agg z) (.agg zd) (by simp[GR,h])
 refine⟨by simpa using h1,λD hD=> ?_⟩
 obtain⟨Fs,g1,_,_,g4⟩:=Gy.1 (BQ.1 h2)
 obtain⟨i,hi⟩:=List.getElem?_of_mem hD
 have:=g1 i D hi
 have e:Fs i=λ_=>False:=funext λx=>propext ⟨λhx=>(g4 x).2 ⟨i,hx⟩,False.elim⟩
 rwa [e]at this
theorem cL {α:Type} (zd:List α) (l:Nat):∀n,n<l*zd.length->(List.replicate l zd).flatten[n]? =zd[n%zd.length]? :=by
 induction l with
 |zero=>intro n h;omega
 |succ l ih=>
  intro n h
  rw[List.replicate_succ,List.flatten_cons]
  by_cases hn:n<zd.length
  . rw[List.getElem?_append_left hn,Nat.mod_eq_of_lt hn]
  . rw[List.getElem?_append_right (by omega),ih (n-zd.length) (by rw[Nat.add_mul,Nat.one_mul]at h;omega),← Nat.mod_eq_sub_mod (by omega)]
theorem kC (h:St G w S δ Fr) (hSlt:∀b,S b->b<w.heap.size) {a:Act} (ha:Rd δ a) {o:Oper} {t e:TypeId} {k bytes:Nat} {x y:Operand} {z:List AV} {zd:List DV} {x' y':Ar} {d:DU} {i:TypeInfo} {zv:Value} (hd:GX G a o (some d)) (ho:o.op= .makeSlice t x y)
 (hu:P.underlying t=some (.slice e)) (hi:P.info? e=some i) (hzv:i.zero=some zv) (hsz:i.size=k) (hby:i.bytes=bytes) (hb0:0<bytes) (hk0:0<k) (hz:QW z=some zd) (hzc:zv.cells.toList=zd.map DV.Al) (hzk:z.length=k)
 (hcx:Bf x x'=true) (hcy:Bf y y'=true) {σ':Sg} (he:ES G (.mk k bytes z x' y') (some d) (λs=>(δ s).er)=some σ'):LN P G w S Fr a o σ':=by
 obtain⟨hx,ex⟩:=Aa hcx ha
 obtain⟨hy,ey⟩:=Aa hcy ha
 simp only[ES]at he
 split at he
 . rename_i l c hl hc
   split at he
   . rename_i hcond
     obtain⟨h0,hlc,hroom⟩:=hcond
     obtain⟨kl,hl⟩:=JH hl
     obtain⟨kc,hc⟩:=JH hc
     obtain⟨el,_⟩:=h.De hx hl
     obtain⟨ec,_⟩:=h.De hy hc
     have hr:c.toNat*bytes≤70368744177664:=by simpa[Aq]using hroom
     have hcn:(c.toNat:Int)=c:=Int.toNat_of_nonneg (by omega)
     have hcle:c.toNat≤c.toNat*bytes:=Nat.le_mul_of_pos_right _ hb0
     have hzlen:zd.length=k:=by
      have:=congrArg List.length (MM (w:=w) (S:=S) z zd hz).1
      rw[List.length_map]at this
      rw[this,hzk]
     have hrun:=run_make (P:=P) w t e i zv hu hi hzv kl kc l c h0 hlc (by
      rw[hby,← hcn]
      have:(bytes:Int)*(c.toNat:Int)=((c.toNat*bytes:Nat):Int):=by rw[Nat.mul_comm];simp
      rw[this];omega) (by omega)
     have hzcs:zv.cells.size=k:=by
      have:=congrArg List.length hzc
      simp only[List.length_map,hzlen]at this
      simpa using this
     have hrows:(List.replicate l.toNat zd).length=l.toNat:=by simp
     refine RS (bx:=false) (k:=k) (c:=c.toNat) (rows:=List.replicate l.toNat zd) (Fd:=λ_=>False) (arr:=madeCells zv.cells (c.toNat*i.size)) (E:=e) h hSlt ha hd ?_ ?_ (λ_ _ _ h=>h) ?_ ?_ ?_ ?_ (λx hx=>hx.elim id False.elim)
     . simp only[execOp,ho,ex,ey,el,ec,Sem.run_bind,hrun,Result.andThen_ok,Sem.run_pure,Gs,Bool.false_eq_true,if_false,hrows]
     . refine B4 λD hD=> ?_
       obtain⟨row,hrow,hD'⟩:=List.mem_flatten.1 hD
       rw[List.eq_of_mem_replicate hrow]at hD'
       exact(MM z zd hz).2 D hD'
     . intro row hrow
       rw[List.eq_of_mem_replicate hrow,hzlen]
     . simp only[Bool.false_eq_true,if_false,size_madeCells,hsz,hrows]
       exact⟨trivial,by omega⟩
     . intro n D hn
       have hnl:n<l.toNat*zd.length:=by
        have:=(List.getElem?_eq_some_iff.1 hn).1
        simpa using this
       rw[cL zd l.toNat n hnl]at hn
       have hlck:l.toNat*k≤c.toNat*k:=Nat.mul_le_mul_right _ (by omega)
       have hnc:n<c.toNat*i.size:=by rw[hsz];rw[hzlen]at hnl;omega
       have hmod:n%k<k:=Nat.mod_lt _ hk0
       rw[hzlen]at hn
       have hcell:zv.cells[n%k]? =some D.Al:=by
        rw[← Array.getElem?_toList,hzc,List.getElem?_map,hn];rfl
       simp only[madeCells,Array.getElem?_map,Array.getElem?_range,if_pos hnc,Option.map_some,hzcs]
       rw[getElem!_def,hcell]
     . have:(List.replicate l.toNat zd).map (·.map DV.er)=List.replicate l.toNat z:=by
        rw[List.map_replicate,(MM (w:=w) (S:=S) z zd hz).1]
       rw[this];exact he
   . cases he
 . cases he
end Go.Abs
namespace Go.Abs
variable {w w':World} {S S':Nat->Prop} {G:Gi} {δ:Nat->DV} {Fr:Nat->Nat->Prop} {P:Program}
def Bd (v:Option Value) (dflt n:Nat):Prop:=(v=none/\n=dflt)∨∃kk i,v=some (.int kk i)/\0≤i/\i.toNat=n
theorem St.bd (h:St G w S δ Fr) {a:Act} (ha:Rd δ a) {x:Option Operand} {y:Option Ar} (hc:MJ x y=true) {dflt n:Nat} (ho:I7 (λs=>(δ s).er) y dflt=some n):Bd (x.map a.eval) dflt n/\(x=none↔y=none):=by
 unfold MJ at hc
 split at hc
 . simp only[I7,Option.some.injEq]at ho;exact⟨.inl ⟨rfl,ho.symm⟩,by simp⟩
 . rename_i x y
   obtain⟨hy,he⟩:=Aa hc ha
   simp only[I7]at ho
   split at ho
   . rename_i i hi
     split at ho
     . rename_i h0
       simp only[Option.some.injEq]at ho
       obtain⟨kk,hi⟩:=JH hi
       obtain⟨e1,_⟩:=h.De hy hi
       exact⟨.inr ⟨kk,i,by simp[he,e1],h0,ho⟩,by simp⟩
     . cases ho
   . cases ho
 . cases hc
theorem GM {kk:IntKind} {i:Int} {y n:Nat} {code:BoundsCode} (h0:0≤i) (hn:i.toNat=n) (hy:n≤y) (w:World):(Instr.sliceBound (.int kk i) y code).run P w= .ok n w:=by
 have:i≤y:=by omega
 simp[Instr.sliceBound,asIntOf,h0,this,hn]
theorem UB {t e:TypeId} {k len cap l h m:Nat} (hu:P.underlying t=some (.slice e)) (hk:EV P e=some k) {lo hi mx:Option Value} (hl:Bd lo 0 l) (hh:Bd hi len h) (hm:Bd mx cap m) (hmh:mx≠none->hi≠none) (h1:l≤h) (h2:h≤m) (h3:m≤cap) (ad:Option Addr) (w:World):
 (Instr.sliceAt t (.slice ad len cap) lo hi mx).run P w= .ok (.slice (if m=l then ad else ad.map (·.add (l*k))) (h-l) (m-l)) w:=by
 have hb:(Instr.sliceBounds true len cap lo hi mx).run P w= .ok (l,h,m) w:=by
  rcases hm with⟨rfl,rfl⟩|⟨km,im,rfl,hm0,hmn⟩<;>rcases hh with⟨rfl,rfl⟩|⟨kh,ih,rfl,hh0,hhn⟩<;>rcases hl with⟨rfl,rfl⟩|⟨kl,il,rfl,hl0,hln⟩<;>
   first
    | (simp[Instr.sliceBounds,GM hm0 hmn h3,GM hh0 hhn h2,GM hl0 hln h1];done)
    | (simp[Instr.sliceBounds,GM hm0 hmn h3,GM hh0 hhn h2];done)
    | (simp[Instr.sliceBounds,GM hh0 hhn h2,GM hl0 hln h1];done)
    | (simp[Instr.sliceBounds,GM hh0 hhn h2];done)
    | (simp[Instr.sliceBounds,GM hl0 hln h1];done)
    | (simp[Instr.sliceBounds];done)
    |exact absurd rfl (hmh (by simp))
 have:(Instr.sliceAt t (.slice ad len cap) lo hi mx)=(do match ← underlying t with
  | .array n elem=>
   let a ← Instr.sureAddr (.slice ad len cap)
   let(l,h,m) ← Instr.sliceBounds false n n lo hi mx
   let size ← sizeOf elem
   pure (.slice (some (if m=l then a else a.add (l*size))) (h-l) (m-l))
  |_=>Instr.slice t (.slice ad len cap) lo hi mx):=rfl
 rw[this]
 simp only[Sem.run_bind,run_underlying hu,Result.andThen_ok]
 have h4:(Instr.slice t (.slice ad len cap) lo hi mx)=(do
  match ← underlying t,(Value.slice ad len cap)with
  | .string,.string s=>
   if mx.isSome then stuck "Slice: full slice of a string"
   let(l,h,_) ← Instr.sliceBounds false s.size s.size lo hi none
   pure (.string (s.extract l h))
  | .slice elem,.slice a len cap=>
   let(l,h,m) ← Instr.sliceBounds true len cap lo hi mx
   let size ← sizeOf elem
   pure (.slice (if m=l then a else a.map (·.add (l*size))) (h-l) (m-l))
  | .pointer arr,x=>
   let a ← asAddr x
   let .array n elem ← underlying arr|stuck "Slice: array type expected"
   let(l,h,m) ← Instr.sliceBounds false n n lo hi mx
   let size ← sizeOf elem
   pure (.slice (some (if m=l then a else a.add (l*size))) (h-l) (m-l))
  |_,_=>stuck "Slice: string, slice or pointer to array expected"):=rfl
 rw[h4]
 simp only[Sem.run_bind,run_underlying hu,Result.andThen_ok,hb,run_sizeOf hk,Sem.run_pure]
theorem Fz.cut {e:Bool} {k:Nat} {rows:List (List AV)} {ad:Option Addr} {n cap l h m:Nat} {x:Bool} (hf:Fz w S (.sl e k rows) (.slice ad n cap)) (h1:l≤h) (h2:h≤rows.length) (h3:h≤m) (hx:x=true->m=h):
 Fz w S (.sl x k ((rows.drop l).take (h-l))) (.slice (if m=l then ad else ad.map (·.add (l*k))) (h-l) (m-l)):=by
 have hlen:((rows.drop l).take (h-l)).length=h-l:=by simp;omega
 by_cases heq:h=l
 . subst heq
   simp only[Nat.sub_self,List.take_zero]
   exact .nil x k _ _ (λhh=>by have:=hx hh;omega)
 . have hm:m≠l:=by omega
   cases hf with
   |nil=>simp at h2;omega
   |sl _ _ _ b off c vs hxe hlc hS hk hc hr=>
    simp only[hm,if_false,Option.map_some,Addr.add_lit]
    have hget:∀i row,((rows.drop l).take (h-l))[i]? =some row->rows[l+i]? =some row:=by
     intro i row hi
     rw[List.getElem?_take]at hi
     split at hi
     . simpa using hi
     . cases hi
    have key:Fz w S (.sl x k ((rows.drop l).take (h-l))) (.slice (some ⟨b,off+l*k,none⟩) ((rows.drop l).take (h-l)).length (m-l)):=by
     refine .sl x k _ b (off+l*k) (m-l) (λi j=>vs (l+i) j) (λhh=>by have:=hx hh;rw[hlen];omega) (by rw[hlen];omega) hS (λrow hrow=>hk row (List.mem_of_mem_drop (List.mem_of_mem_take hrow))) ?_ ?_
     . intro i j row a hi hj
       have:=hc (l+i) j row a (hget i row hi) hj
       rw[show off+l*k+(i*k+j)=off+((l+i)*k+j)from by rw[Nat.add_mul];omega]
       exact this
     . intro i j row a hi hj
       exact hr (l+i) j row a (hget i row hi) hj
    rw[hlen]at key
    exact key
theorem JK {rows rs:List (List AV)} {l h:Nat} (hc:NF rows l h=some rs):l≤h/\h≤rows.length/\rs=(rows.drop l).take (h-l):=by
 unfold NF at hc
 split at hc
 . rename_i hh;exact⟨hh.1,hh.2,(Option.some.inj hc).symm⟩
 . cases hc
theorem St.bdM (h:St G w S δ Fr) {a:Act} (ha:Rd δ a) {x:Option Operand} {y:Option Ar} (hc:MJ x y=true) {hh m cap:Nat} (hm:Zz (λs=>(δ s).er) y hh=some m) (hmh:m=hh) (hcap:hh≤cap):
 ∃m',Bd (x.map a.eval) cap m'/\hh≤m'/\m'≤cap/\(y.isSome=true->m'=hh):=by
 cases y with
 |none=>
  cases x with
  |none=>exact⟨cap,.inl ⟨rfl,rfl⟩,hcap,Nat.le_refl _,by simp⟩
  |some x=>simp[MJ]at hc
 |some y=>
  obtain⟨h1,_⟩:=h.bd ha hc (dflt:=0) (by simpa only[Zz]using hm)
  subst hmh
  cases x with
  |none=>simp[MJ]at hc
  |some x=>
   rcases h1 with⟨h1,_⟩|⟨kk,i,h1,h2,h3⟩
   . simp at h1
   . exact⟨m,.inr ⟨kk,i,h1,h2,h3⟩,Nat.le_refl _,hcap,λ_=>rfl⟩
theorem Vf (h:St G w S δ Fr) {a:Act} (ha:Rd δ a) {o:Oper} {t e:TypeId} {x:Operand} {lo hi mx:Option Operand} {k:Nat} {y:Ar} {lo' hi' mx':Option Ar} {d:DU} (hd:GX G a o (some d)) (ho:o.op= .slice t x lo hi mx)
 (hu:P.underlying t=some (.slice e)) (hk:EV P e=some k) (hc:Bf x y=true) (hc1:MJ lo lo'=true) (hc2:MJ hi hi'=true) (hc3:MJ mx mx'=true) (hmh:mx=none∨hi≠none) {σ':Sg}
 (he:ES G (.UM k true y lo' hi' mx') (some d) (λs=>(δ s).er)=some σ'):LN P G w S Fr a o σ':=by
 obtain⟨hy,hev⟩:=Aa hc ha
 have hmh':mx.map a.eval≠none->hi.map a.eval≠none:=by
  intro h1 h2
  rcases hmh with h3|h3
  . simp[h3]at h1
  . simp at h2;exact h3 h2
 simp only[ES]at he
 split at he
 . -- frozen already
   rename_i ee k' rows pl hh
   split at he
   . rename_i l hi0 hlo hhi
     split at he
     . rename_i rs m hcut hm
       split at he
       . rename_i hcond
         obtain⟨rfl,hmeq⟩:=hcond
         obtain⟨h1,h2,rfl⟩:=JK hcut
         have hfz:=(h.Xp hy hh).2 _ _ _ rfl (h.rU hy hh)
         obtain⟨ad,cap,hav⟩:=KN hfz
         rw[hav]at hfz hev
         have hlc:rows.length≤cap:=by
          cases hfz with
          |nil=>simp
          |sl _ _ _ b off c vs hxe hlc=>exact hlc
         obtain⟨b1,_⟩:=h.bd ha hc1 hlo
         obtain⟨b2,_⟩:=h.bd ha hc2 hhi
         obtain⟨m',b3,g1,g2,g3⟩:=h.bdM ha hc3 hm hmeq (cap:=cap) (by omega)
         have hrun:=UB (P:=P) hu hk b1 b2 b3 hmh' h1 g1 g2 ad w
         have hres:=hfz.cut (m:=m') (x:=mx'.isSome) h1 h2 g1 g3
         have hdd:(DV.lf (.sl mx'.isSome k' ((rows.drop l).take (hi0-l))) (.slice (if m'=l then ad else ad.map (·.add (l*k'))) (hi0-l) (m'-l))).er= .sl mx'.isSome k' ((rows.drop l).take (hi0-l)):=by simp
         refine HC (D:=.lf (.sl mx'.isSome k' ((rows.drop l).take (hi0-l))) (.slice (if m'=l then ad else ad.map (·.add (l*k'))) (hi0-l) (m'-l))) (Ff:=λ_=>False) h ha hd ?_ (λ_ _=>rfl) (λ_ _ _=>rfl) (λ_ h=>h) (λs x hx=>(h.ok s).D6 x hx)
          (.lf _ _ _ hres (λ_ h=>h)) (λ_ _ _ h=>h) (.lf _ _ trivial) (by rw[hdd];exact he) (Nx.less λx hx=>hx.elim id False.elim)
         simp only[execOp,ho,hev,Sem.run_bind,hrun,Result.andThen_ok,Sem.run_pure,Hk]
       . cases he
     . cases he
   . cases he
 . -- frozen now
   rename_i k' rows r p hh
   split at he
   . rename_i l hi0 hlo hhi
     split at he
     . rename_i rs m hcut hm
       split at he
       . rename_i hcond
         obtain⟨rfl,hmeq⟩:=hcond
         obtain⟨h1,h2,rfl⟩:=JK hcut
         simp only[if_true]at he
         split at he
         . rename_i fr τ hfz
           obtain⟨δ1,F1,Fo,v,bx,kk,rowsD,hst,her,hann,hsub,hf,hfe,hdis,hown,_⟩:=h.LP hfz
           subst her
           obtain⟨rowsD',F,hm',hok,hpl⟩:=(h.Xp hy hh).1 _ _ _ rfl
           have hsub':=hpl r p rfl
           rw[hsub]at hsub'
           simp only[Option.some.injEq,DV.own.injEq]at hsub'
           obtain⟨rfl,rfl,rfl,rfl⟩:=hsub'
           have hfe':fr= .sl false kk (rows.map (·.map Gj)):=by rw[hfe];simp only[DL,JL,hm']
           rw[hfe']at hf
           obtain⟨ad,cap,hav⟩:=KN hf
           rw[hav]at hf hev
           have hrl:(rows.map (·.map Gj)).length=rows.length:=by simp
           have hlc:rows.length≤cap:=by
            rw[← hrl]
            generalize rows.map (·.map Gj)=rr at*
            cases hf with
            |nil=>simp
            |sl _ _ _ b off c vs hxe hlc=>exact hlc
           obtain⟨b1,_⟩:=h.bd ha hc1 hlo
           obtain⟨b2,_⟩:=h.bd ha hc2 hhi
           rw[hrl]at hev
           obtain⟨m',b3,g1,g2,g3⟩:=h.bdM ha hc3 hm hmeq (cap:=cap) (by omega)
           have hrun:=UB (P:=P) hu hk b1 b2 b3 hmh' h1 g1 g2 ad w
           have hres:=hf.cut (m:=m') (x:=mx'.isSome) h1 (by rw[hrl];exact h2) g1 g3
           rw[← List.map_drop,← List.map_take]at hres
           have hdd:(DV.lf (.sl mx'.isSome kk (((rows.drop l).take (hi0-l)).map (·.map Gj))) (.slice (if m'=l then ad else ad.map (·.add (l*kk))) (hi0-l) (m'-l))).er= .sl mx'.isSome kk (((rows.drop l).take (hi0-l)).map (·.map Gj)):=by simp
           refine HC (S:=S) (S':=λx=>S x∨Fo x) (D:=.lf (.sl mx'.isSome kk (((rows.drop l).take (hi0-l)).map (·.map Gj))) (.slice (if m'=l then ad else ad.map (·.add (l*kk))) (hi0-l) (m'-l))) (Ff:=λ_=>False) hst (λs=>(ha s).trans (hann s).symm) hd ?_ (λ_ _=>rfl) (λ_ _ _=>rfl) (λ_ h=>h) (λs x hx=>(hst.ok s).D6 x hx)
            (.lf _ _ _ hres (λ_ h=>h)) (λ_ _ _ h=>h) (.lf _ _ trivial) (by rw[hdd];exact he) ?_
           . simp only[execOp,ho,hev,Sem.run_bind,hrun,Result.andThen_ok,Sem.run_pure,Hk]
           . refine Nx.Gj (λx hx=>hown x (hx.imp (λh=>h.elim id False.elim) id)) λx hx=> ?_
             obtain⟨t,ht⟩:=hown x (.inr hx)
             exact(h.ok t).lt x ht
         . cases he
       . cases he
     . cases he
   . cases he
 . cases he
theorem Ok.front {v:Value} {k:Nat} {rows:List (List DV)} {F:Nat->Prop} (h:Ok w S (.own v false k rows) F) {n:Nat} (hn:n≤rows.length):
 ∃ad c,v= .slice ad rows.length c/\rows.length≤c/\(∀q:Nat,ad.map (·.add (0*q))=ad)/\∃F',Ok w S (.own (.slice ad n c) false k (rows.take n)) F'/\∀x,F' x->F x:=by
 cases h with
 |nil _ _ hF=>
  simp only[List.length_nil,Nat.le_zero]at hn
  subst hn
  exact⟨none,0,rfl,Nat.le_refl _,λ_=>rfl,F,.nil k F hF,λ_ h=>h⟩
 |own _ _ _ b c arr E Fs _ hb hk hcap hSb hv hr hd hval hbF hF=>
  simp only[Bool.false_eq_true,if_false]at hcap
  have hlen:(rows.take n).length=n:=by simp;omega
  have get:∀i (row:List DV),(rows.take n)[i]? =some row->rows[i]? =some row/\i<n:=by
   intro i row hi
   rw[List.getElem?_take]at hi
   split at hi
   . exact⟨hi,by assumption⟩
   . cases hi
  have key:Ok w S (.own (Gs false b (rows.take n).length c) false k (rows.take n)) (λx=>x=b∨∃i j,(i<n/\Fs i j x)):=by
   refine .own false k _ b c arr E (λi j x=>i<n/\Fs i j x) _ hb (λrow hrow=>hk row (List.mem_of_mem_take hrow)) (by simp only[Bool.false_eq_true,if_false];omega) hSb ?_ ?_ (λi j i' j' x h1 h2=>hd i j i' j' x h1.2 h2.2) ?_ (λi j h=>hbF i j h.2) (λx=>Iff.rfl)
   . exactλi j row d hi hj=>hv i j row d (get i row hi).1 hj
   . intro i j row d hi hj
     obtain⟨g1,g2⟩:=get i row hi
     have:(λx=>i<n/\Fs i j x)=Fs i j:=funext λx=>propext ⟨λh=>h.2,λh=>⟨g2,h⟩⟩
     rw[this];exact hr i j row d g1 hj
   . rintro i j x ⟨h1,h2⟩
     obtain⟨row,d,g1,g2⟩:=hval i j x h2
     exact⟨row,d,by rw[List.getElem?_take,if_pos h1];exact g1,g2⟩
  refine⟨some ⟨b,0,none⟩,c,by simp[Gs],hcap.2,λq=>by simp[Addr.add],λx=>x=b∨∃i j,(i<n/\Fs i j x),?_,λx hx=>(hF x).2 (hx.elim .inl λ⟨i,j,h⟩=>.inr ⟨i,j,h.2⟩)⟩
  rw[hlen]at key
  simpa[Gs]using key
theorem Zc (h:St G w S δ Fr) {a:Act} (ha:Rd δ a) {o:Oper} {t e:TypeId} {x:Operand} {lo hi mx:Option Operand} {k:Nat} {y:Ar} {lo' hi' mx':Option Ar} {d:DU} (hd:GX G a o (some d)) (ho:o.op= .slice t x lo hi mx)
 (hu:P.underlying t=some (.slice e)) (hk:EV P e=some k) (hc:Bf x y=true) (hc1:MJ lo lo'=true) (hc2:MJ hi hi'=true) (hc3:MJ mx mx'=true) (hmh:mx=none∨hi≠none) {σ':Sg}
 (he:ES G (.UM k false y lo' hi' mx') (some d) (λs=>(δ s).er)=some σ'):LN P G w S Fr a o σ':=by
 obtain⟨hy,hev⟩:=Aa hc ha
 have hmh':mx.map a.eval≠none->hi.map a.eval≠none:=by
  intro h1 h2
  rcases hmh with h3|h3
  . simp[h3]at h1
  . simp at h2;exact h3 h2
 by_cases hsl:∃ee k' rows pl,Abs.hd (λs=>(δ s).er) y=some (.sl ee k' rows,pl)
 . refine Vf h ha hd ho hu hk hc hc1 hc2 hc3 hmh ?_
   obtain⟨ee,k',rows,pl,hh⟩:=hsl
   simp only[ES,hh]at he ⊢
   exact he
 simp only[ES]at he
 split at he
 . rename_i hh;exact absurd ⟨_,_,_,_,hh⟩ hsl
 . rename_i k' rows r p hh
   split at he
   . rename_i l hi0 hlo hhi
     split at he
     . rename_i rs m hcut hm
       split at he
       . rename_i hcond
         obtain⟨rfl,hmeq⟩:=hcond
         obtain⟨h1,h2,rfl⟩:=JK hcut
         rw[if_neg (by simp)]at he
         split at he
         . rename_i hl0
           obtain⟨rfl,hmx⟩:=hl0
           split at he
           . rename_i nn τ ht
             obtain⟨δ1,F1,D,Ff,hst,her,hann,hokD,hDe,⟨v,bx,kk,rowsD,rfl⟩,hsub,hdis,hown,_⟩:=h.XL ht
             subst her
             obtain⟨rowsD',F,hm',_,hpl⟩:=(h.Xp hy hh).1 _ _ _ rfl
             have hsub':=hpl r p rfl
             rw[hsub]at hsub'
             simp only[Option.some.injEq,DV.own.injEq]at hsub'
             obtain⟨rfl,rfl,rfl,rfl⟩:=hsub'
             have hrl:rowsD.length=rows.length:=by rw[← hm'];simp
             obtain⟨ad,c,hv,hlc,hadd,F',hokT,hFF⟩:=hokD.front (n:=hi0) (by omega)
             rw[hv]at hev
             have hmn:mx'=none:=by simpa using hmx
             subst hmn
             have hmxn:mx=none:=by cases mx<;>simp_all [MJ]
             subst hmxn
             obtain⟨b1,_⟩:=h.bd ha hc1 hlo
             obtain⟨b2,_⟩:=h.bd ha hc2 hhi
             rw[hrl]at hev
             have hrun:=UB (P:=P) hu hk b1 b2 (mx:=none) (cap:=c) (m:=c) (.inl ⟨rfl,rfl⟩) (by simp) h1 (by omega) (Nat.le_refl _) ad w
             have had:(if c=0 then ad else ad.map (·.add (0*kk)))=ad:=by
              split
              . rfl
              . exact hadd kk
             rw[had,Nat.sub_zero,Nat.sub_zero]at hrun
             have hdd:(DV.own (.slice ad hi0 c) false kk (rowsD.take hi0)).er= .own false kk ((rows.drop 0).take (hi0-0)):=by simp[← hm',List.map_take]
             refine HC (D:=.own (.slice ad hi0 c) false kk (rowsD.take hi0)) (Ff:=F') hst (λs=>(ha s).trans (hann s).symm) hd ?_ (λ_ _=>rfl) (λ_ _ _=>rfl) (λ_ h=>h) (λs x hx=>(hst.ok s).D6 x hx)
              hokT (λs x hx hx'=>hdis s x hx (hFF x hx')) (.own _ _ _ _) (by rw[hdd];exact he) (Nx.less λx hx=>hown x (hx.imp id (hFF x)))
             simp only[execOp,ho,hev,Option.map_none,Sem.run_bind,Option.map_none]at hrun ⊢
             simp only[hrun,Result.andThen_ok,Sem.run_pure,Hs]
           . cases he
         . cases he
       . cases he
     . cases he
   . cases he
 . cases he
end Go.Abs
namespace Go.Abs
variable {w w':World} {S S':Nat->Prop} {G:Gi} {δ:Nat->DV} {Fr:Nat->Nat->Prop} {P:Program}
theorem dY {t t' new:DV} (p:List Step) {v:Value} {bx:Bool} {k i j:Nat} {rows:List (List DV)} {row:List DV} {old:DV} (hs:Ai t p=some (.own v bx k rows)) (h1:rows[i]? =some row) (h2:row[j]? =some old) (hp:DA t (p++[(i,j,k)]) new=some t'):
 Ai t' p=some (.own v bx k (rows.set i (row.set j new))):=by
 induction p generalizing t t' with
 |nil=>
  simp only[Ai,Option.some.injEq]at hs
  subst hs
  simp only[List.nil_append,DA,h1,h2,Option.some.injEq]at hp
  subst hp
  rfl
 |cons s p ih=>
  obtain⟨i0,j0,k0⟩:=s
  cases t with
  |lf a v=>simp[Ai]at hs
  |own hh b k1 rows1=>
   simp only[Ai]at hs
   simp only[List.cons_append,DA]at hp
   cases hi:rows1[i0]? with
   |none=>simp[hi]at hs
   |some row1=>
    simp only[hi]at hs hp
    cases hj:row1[j0]? with
    |none=>simp[hj]at hs
    |some c=>
     simp only[hj]at hs hp
     cases hc:DA c (p++[(i,j,k)]) new with
     |none=>simp[hc]at hp
     |some c'=>
      simp only[hc,Option.some.injEq]at hp
      subst hp
      simp only[Ai,List.getElem?_set_self (List.getElem?_eq_some_iff.1 hi).1,List.getElem?_set_self (List.getElem?_eq_some_iff.1 hj).1]
      exact ih hs hc
  |agg cs=>
   simp only[Ai]at hs
   simp only[List.cons_append,DA]at hp
   cases hj:cs[j0]? with
   |none=>simp[hj]at hs
   |some c=>
    simp only[hj]at hs hp
    cases hc:DA c (p++[(i,j,k)]) new with
    |none=>simp[hc]at hp
    |some c'=>
     simp only[hc,Option.some.injEq]at hp
     subst hp
     simp only[Ai,List.getElem?_set_self (List.getElem?_eq_some_iff.1 hj).1]
     exact ih hs hc
  |A9 cs=>
   simp only[Ai]at hs
   simp only[List.cons_append,DA]at hp
   cases hj:cs[j0]? with
   |none=>simp[hj]at hs
   |some c=>
    simp only[hj]at hs hp
    cases hc:DA c (p++[(i,j,k)]) new with
    |none=>simp[hc]at hp
    |some c'=>
     simp only[hc,Option.some.injEq]at hp
     subst hp
     simp only[Ai,List.getElem?_set_self (List.getElem?_eq_some_iff.1 hj).1]
     exact ih hs hc
theorem Kq {b off:Nat} {v u:Value} {arr:Array Value} {E:TypeId} (hb:w.heap[b]? =some (.cells arr E (0,0))) (hu:arr[off]? =some u) (hp:EO v=true):(store ⟨b,off,none⟩ v).run P w= .ok () (w.setCell ⟨b,off,none⟩ v):=by
 have hc:w.cell? ⟨b,off,none⟩=some u:=by simp[World.cell?,hb,hu]
 have hf:w.frozen? ⟨b,off,none⟩=false:=by simp[World.frozen?,hb]
 cases v<;>first
  |simp[EO]at hp;done
  |simp[store,Sem.run,hc,hf]
theorem KZ {v:Value} {bx:Bool} {k:Nat} {rows:List (List DV)} {F:Nat->Prop} {b:Nat} (h:Ok w S (.own v bx k rows) F) (hb:NO v=some b):F b/\∃arr E,w.heap[b]? =some (.cells arr E (0,0))/\∀(i j:Nat) row d,rows[i]? =some row->row[j]? =some d->arr[i*k+j]? =some d.Al:=by
 cases h with
 |nil=>simp[NO]at hb
 |own _ _ _ b' c arr E Fs _ hbb hk hcap hSb hv hr hd hval hbF hF=>
  simp only[Qf,Option.some.injEq]at hb
  subst hb
  exact⟨(hF b').2 (.inl rfl),arr,E,hbb,hv⟩
theorem Ut {L:List Nat} {a:AV} (h:D3 a=true):D9 L a=true:=by
 cases a<;>first| (simp;done)| (simp[D3]at h;done)
theorem TR (ds:List DV):∀{w:World} {t:DV} {F Fd:Nat->Prop} {p:List Step} {v:Value} {bx:Bool} {k i j b:Nat} {rows:List (List DV)} {row:List DV} {t':AV},Ok w S t F->Ai t p=some (.own v bx k rows)->NO v=some b->rows[i]? =some row->j+ds.length≤row.length->
 HF w S ds Fd->(∀x,Fd x->¬F x)->(ds.map DV.er).all D3=true->eR p i k j (ds.map DV.er) t.er=some t'->∀(m off:Nat),off+m=i*k+j->
 ∃(w':World) (td:DV) (F':Nat->Prop),(storeCells ⟨b,off,none⟩ (ds.map DV.Al) m).run P w= .ok () w'/\Ok w' S td F'/\td.er=t'/\td.Al=t.Al/\(∀x,F' x->F x∨Fd x)/\(∀x,x≠b->w'.heap[x]? =w.heap[x]?)/\F b/\
  w'.os=w.os/\w'.tape=w.tape/\w'.output=w.output/\w'.heap.size=w.heap.size/\(∀δ,Cd δ t->Cd δ td)/\(∀L,D9 L t.er=true->D9 L td.er=true)/\
  ((((row.map DV.er).drop j).take ds.length).all CB=true->∀q v bx k rows,Ai t q=some (.own v bx k rows)->∃rows',Ai td q=some (.own v bx k rows')):=by
 induction ds with
 |nil=>
  intro w t F Fd p v bx k i j b rows row t' h hs hb hi hj hok hdis hcell hst m off hm
  simp only[List.map_nil,eR,Option.some.injEq]at hst
  obtain⟨F1,h1,h2⟩:=h.Ai hs
  exact⟨w,t,F,by simp[storeCells],h,hst,rfl,λx hx=>.inl hx,λ_ _=>rfl,h2 b (KZ h1 hb).1,rfl,rfl,rfl,rfl,λ_ h=>h,λ_ h=>h,λ_ q v bx k rows hq=>⟨rows,hq⟩⟩
 |cons d ds ih=>
  intro w t F Fd p v bx k i j b rows row t' h hs hb hi hj hok hdis hcell hst m off hm
  obtain⟨Fa,Fb,hd,hds,hab,hF⟩:=hok
  simp only[List.length_cons]at hj
  have hjr:j<row.length:=by omega
  have hold:row[j]? =some row[j]:=List.getElem?_eq_getElem hjr
  obtain⟨Fn,hn1,hn2⟩:=h.Ai hs
  obtain⟨hFb,arr,E,hbb,harr⟩:=KZ hn1 hb
  have hFb':=hn2 b hFb
  have hSb:¬S b:=h.D6 b hFb'
  have hne:∀x,Fd x->x≠b:=by rintro x hx rfl;exact hdis x hx hFb'
  have hdmono:Ok (w.setCell ⟨b,i*k+j,none⟩ d.Al) S d Fa:=by
   refine hd.mono (λx hx=>CM _ _ _ _ _ ?_) (λx hx=>CM _ _ _ _ _ (hne x ((hF x).2 (.inl hx)))) (λ_ h=>h) hd.D6
   rintro rfl;exact hSb hx
  obtain⟨t1,F1,hput,hok1,hsub1,hann1,_⟩:=h.store p hs hi hold hb hdmono (λx hx=>hdis x ((hF x).2 (.inl hx)))
  simp only[List.map_cons,eR]at hst
  split at hst
  . rename_i t'' hpt
    have hte:t1.er=t'':=by
     obtain⟨t2,g1,g2⟩:=Gu d h.Hw hpt
     rw[hput]at g1
     obtain rfl:=Option.some.inj g1
     exact g2
    subst hte
    have hs1:=dY p hs hi hold hput
    have hi1:(rows.set i (row.set j d))[i]? =some (row.set j d):=List.getElem?_set_self (List.getElem?_eq_some_iff.1 hi).1
    simp only[List.map_cons,List.all_cons,Bool.and_eq_true]at hcell
    have hdsmono:HF (w.setCell ⟨b,i*k+j,none⟩ d.Al) S ds Fb:=by
     refine hds.mono (λx hx=>CM _ _ _ _ _ ?_) (λx hx=>CM _ _ _ _ _ (hne x ((hF x).2 (.inr hx)))) (λ_ h=>h) (BQ.2 hds).D6
     rintro rfl;exact hSb hx
    obtain⟨w',td,F',hrun,hok',her',hann',hsub',hoth',_,g1,g2,g3,g4,g5,g6,hheads⟩:=ih (off:=off) (m:=m+1) (j:=j+1) hok1 hs1 hb hi1 (by simp;omega) hdsmono (by
     intro x hx hx1
     rcases hsub1 x hx1 with h1|h1
     . exact hdis x ((hF x).2 (.inr hx)) h1
     . exact hab x h1 hx) hcell.2 hst (by omega)
    refine⟨w',td,F',?_,hok',her',hann'.trans hann1,?_,?_,hFb',g1,g2,g3,by rw[g4];simp,?_,?_,?_⟩
    . have hst1:=Kq (P:=P) (w:=w) (off:=i*k+j) (v:=d.Al) hbb (harr i j row _ hi hold) (HW hd hcell.1)
      simp only[List.map_cons,storeCells,Sem.run_bind,Addr.add_lit,hm,hst1,Result.andThen_ok,hrun]
    . intro x hx
      rcases hsub' x hx with h1|h1
      . rcases hsub1 x h1 with h2|h2
        . exact .inl h2
        . exact .inr ((hF x).2 (.inl h2))
      . exact .inr ((hF x).2 (.inr h1))
    . intro x hx
      rw[hoth' x hx,CM _ _ _ _ _ hx]
    . intro δ hal
      refine g5 δ (LH _ hput hal ?_)
      exact ME (ds:=[d]) (by simpa using hcell.1) d (by simp)
    . intro L hL
      refine g6 L (Kf _ hput hL ?_)
      exact Ut hcell.1
    . intro hall q v' bx' k' rows' hq
      have hdrop:(row.map DV.er).drop j=(row[j]).er::(row.map DV.er).drop (j+1):=by
       rw[List.drop_eq_getElem_cons (by simpa using hjr)];simp
      rw[hdrop]at hall
      simp only[List.length_cons,List.take_succ_cons,List.all_cons,Bool.and_eq_true]at hall
      have hleaf:∃a v,row[j]= .lf a v:=by
       have hl:=(h.Hw.Ai hs)
       cases hl with
       |own _ _ _ _ hr=>
        have:=hr i j row _ hi hold
        have h0:=hall.1
        cases hd':row[j]with
        |lf a v=>exact⟨a,v,rfl⟩
        |own=>rw[hd']at h0;simp[CB]at h0
        |agg=>rw[hd']at h0;simp[CB]at h0
        |A9=>rw[hd']at h0;simp[CB]at h0
      obtain⟨a0,v0,hlf⟩:=hleaf
      have holdsub:Ai t (p++[(i,j,k)])=some (.lf a0 v0):=by rw[F7,hs];simp[Ai,hi,hold,hlf]
      obtain⟨rows1,hq1⟩:=Ly _ hput holdsub (by simp) (by simp) (by simp) q v' bx' k' rows' hq
      refine hheads ?_ q v' bx' k' rows1 hq1
      rw[List.map_set,List.drop_set_of_lt (by omega)]
      exact hall.2
  . cases hst
theorem Xz (h:St G w S δ Fr) {a:Act} (ha:Rd δ a) {o:Oper} {t:TypeId} {x u:Operand} {n:Nat} {y z:Ar} (hd:GX G a o none) (ho:o.op= .store t x u) (hn:EV P t=some n) (hc:Bf x y=true) (hc2:Bf u z=true) {σ':Sg}
 (he:ES G (.st n y z) none (λs=>(δ s).er)=some σ'):LN P G w S Fr a o σ':=by
 obtain⟨hy,hev⟩:=Aa hc ha
 obtain⟨hz,hev2⟩:=Aa hc2 ha
 simp only[ES]at he
 split at he
 . rename_i v τ ht
   obtain⟨δ1,F1,D,Ff,hfl,her,hDe,hDa⟩:=h.tk hz ht
   subst her
   subst hDe
   split at he
   . rename_i r p i j k hadr
     cases y with
     |c c=>simp[C3]at hadr
     |t s=>
      obtain⟨vh,bx,rowsD,b,Fx,hsub,hb,hp,hok,_⟩:=hfl.st.C3 hadr
      split at he
      . rename_i bx' k' rows hn'
        obtain⟨D',hD',hDe'⟩:=Cy (hfl.st.ok r).Hw hn'
        rw[hsub]at hD'
        obtain rfl:=Option.some.inj hD'
        simp only[DL,AV.own.injEq]at hDe'
        obtain⟨rfl,rfl,rfl⟩:=hDe'
        split at he
        . rename_i row hrow
          rw[List.getElem?_map,Option.map_eq_some_iff]at hrow
          obtain⟨rowD,hrD,rfl⟩:=hrow
          split at he
          . rename_i hcond
            obtain⟨hlen,hcell,hjn⟩:=hcond
            split at he
            . rename_i t' hst
              have hm:=Hz D hfl.ok.Hw
              have hl:(Df D).length=n:=by rw[← hlen,← hm];simp
              have hcs:=IE hfl.ok hcell
              rw[← hm]at hst hcell
              obtain⟨w',td,F',hrun,hok',her',hann',hsub',hoth',hFb,g1,g2,g3,g4,g5,g6,hheads⟩:=TR (P:=P) (Df D) (hfl.st.ok r) hsub hb hrD (by rw[hl];simpa using hjn) (I1 hfl.ok) (λx hx hx'=>hfl.I0 r x hx' hx) hcell hst 0 (i*k+j) rfl
              have hS:∀x,S x->w'.heap[x]? =w.heap[x]? :=λx hx=>hoth' x (by rintro rfl;exact(hfl.st.ok r).D6 _ hFb hx)
              have hF:∀s,s≠r->∀x,F1 s x->w'.heap[x]? =w.heap[x]? :=λs hs x hx=>hoth' x (by rintro rfl;exact hs (hfl.st.I0 s r _ hx hFb))
              have hdis:∀s,s≠r->∀x,F' x->¬F1 s x:=by
               intro s hs x hx hx'
               rcases hsub' x hx with h1|h1
               . exact hs (hfl.st.I0 s r x hx' h1)
               . exact hfl.I0 s x hx' h1
              have hexec:(execOp a.eval o).run P w= .ok .skip w':=by
               have hsz:¬((CY δ z).cells.size≠n):=by rw[← hDa,hcs];simp[hl]
               have hpt:CY δ (.t s)= .pointer (some ⟨b,i*k+j,none⟩):=by simp only[CY];rw[← hfl.Al s];exact hp
               have hcl:(CY δ z).cells.toList=(Df D).map DV.Al:=by rw[← hDa,hcs]
               simp only[execOp,ho,hev,hev2,hpt,Instr.storeAt,Instr.sureAddr,storeVar,Sem.run_bind,Sem.run_pure,Result.andThen_ok,run_sizeOf hn,Sem.run_ite,hsz,if_false,hcl,hrun]
              have hrd:∀(δ':Nat->DV),(∀s,(δ' s).Al=(δ1 s).Al)->Rd δ' (a.put o.dst undef):=by
               intro δ' hδ s
               have h0:o.dst=none:=hd
               rw[h0]
               simp only[Act.put]
               rw[hδ,hfl.Al];exact ha s
              have hnx:∀F2:Nat->Nat->Prop,(∀x,A3 F2 x->A3 F1 x∨Ff x)->Nx w S (A3 Fr) w' S (A3 F2):=by
               intro F2 hF2
               refine⟨g1,g2,g3,by omega,?_,λ_ h=>h,λ_ h=>.inl h,λhl b hb=>by rw[g4];exact hl b hb,λx hx=>.inl (hfl.own x (hF2 x hx))⟩
               intro x _ hU
               refine hoth' x ?_
               rintro rfl
               exact hU (hfl.own _ (.inl ⟨r,hFb⟩))
              have hF2:∀x,A3 (DF F1 r F') x->A3 F1 x∨Ff x:=by
               rintro x ⟨s,hx⟩
               by_cases e:s=r
               . subst e;rw[A8]at hx;exact(hsub' x hx).imp (λh=>⟨s,h⟩) id
               . rw[BK _ _ e]at hx;exact .inl ⟨s,hx⟩
              have halt:Cd δ1 td:=g5 δ1 (hfl.st.al r)
              have hrt:D9 (G.Ee r) td.er=true:=g6 _ (hfl.st.rt r)
              split at he
              . rename_i hall
                simp only[Option.some.injEq]at he
                subst he
                refine⟨.skip,undef,w',S,DF δ1 r td,DF F1 r F',hexec,.inr ⟨rfl,rfl⟩,hrd _ ?_,?_,hfl.st.poke r td F' hS hF hok' hdis hrt halt (hheads (by rw[hl];exact hall)) hann',hnx _ hF2⟩
                . intro s'
                  by_cases e:s'=r
                  . subst e;rw[A8,hann']
                  . rw[BK _ _ e]
                . funext s'
                  by_cases e:s'=r
                  . subst e;simp only[A8,her']
                  . simp only[BK _ _ e]
              . simp only[Option.some.injEq]at he
                subst he
                refine⟨.skip,undef,w',S,DF (Ex G r δ1) r td,DF F1 r F',hexec,.inr ⟨rfl,rfl⟩,hrd _ ?_,?_,hfl.st.set r td F' hS hF (λ_ h=>h) (λs _ x hx=>(hfl.st.ok s).D6 x hx) hok' hdis hrt halt,hnx _ hF2⟩
                . intro s'
                  rw[FH hfl.st]
                  split
                  . rename_i e;rw[e,hann']
                  . rfl
                . rw[Fp hfl.st,her']
            . cases he
          . cases he
        . cases he
      . cases he
   . cases he
 . cases he
end Go.Abs
namespace Go.Abs
variable {w w':World} {S S':Nat->Prop} {G:Gi} {δ:Nat->DV} {Fr:Nat->Nat->Prop} {P:Program}
def Reads (w:World) (v:Value) (n:Nat) (vs:List Value):Prop:=(∃a c,v= .slice a 0 c/\n=0/\vs=[])∨∃b off c,v= .slice (some ⟨b,off,none⟩) n c/\∀(j:Nat) u,vs[j]? =some u->w.cell? ⟨b,off+j,none⟩=some u
theorem LJ {size n:Nat} {v:Value} {vs:List Value} (h:Reads w v n vs) (hl:vs.length=n*size):(Builtin.firstCells size n v).run P w= .ok vs.toArray w:=by
 rcases h with⟨a,c,rfl,rfl,rfl⟩|⟨b,off,c,rfl,hc⟩
 . cases a<;>simp[Builtin.firstCells,loadCells,loadCellsFrom]
 . exact run_firstCells_some (P:=P) w size n ⟨b,off,none⟩ n c vs hl (λj u hu=>by rw[Addr.add_lit];exact hc j u hu)
theorem Reads.drew {v:Value} {n:Nat} {vs:List Value} (h:Reads w v n vs):Reads w.drew v n vs:=h
theorem Reads.len {v:Value} {n:Nat} {vs:List Value} (h:Reads w v n vs):∃ad c,v= .slice ad n c:=by
 rcases h with⟨a,c,rfl,rfl,rfl⟩|⟨b,off,c,rfl,hc⟩
 . exact⟨a,c,rfl⟩
 . exact⟨_,c,rfl⟩
theorem N5 {t ty e:TypeId} {i:TypeInfo} {z:Value} (ht:P.underlying t=some (.slice e)) (hi:P.info? e=some i) (hz:i.zero=some z) {base:Option Addr} {n sCap m:Nat} {v:Value} {olds news:List Value}
 (hx:Reads w (.slice base n sCap) n olds) (ho:olds.length=n*i.size) (hy:Reads w v m news) (hn:news.length=m*i.size) (hg:sCap<n+m) (hfit:(n+m)*i.bytes≤70368744177664) (h63:n+m≤9223372036854775807):
 (Builtin.append_ #[t,t] ty #[.slice base n sCap,v]).run P w= .ok (.slice (some ⟨w.heap.size,0,none⟩) (n+m) (grownCap w (n+m) sCap e)) (w.drew.alloc (.cells ((olds++news).toArray++Builtin.zeroCells z.cells (grownCap w (n+m) sCap e-(n+m))) e)):=by
 obtain⟨ad,c,rfl⟩:=hy.len
 have hnn:¬(n+m≤sCap):=by omega
 have h63':¬(9223372036854775807<((n:Int)+(m:Int))):=by omega
 have h48':¬(281474976710656<Builtin.nextslicecap (n+m) sCap*i.bytes):=by have:=growslice_fits (bytes:=i.bytes) hg (by omega);omega
 have hf:=LJ (P:=P) hy.drew hn
 have hfo:=LJ (P:=P) hx.drew ho
 simp[Builtin.append_,run_underlying ht,sizeOf,typeInfo,zeroValue,hi,hz,Builtin.lenOf,hnn,h63',h48',Question.forced,hf,hfo,newRow,grownCap]
 congr 2
 apply Array.ext'
 simp[List.append_assoc]
theorem UA {t ty e E:TypeId} {i:TypeInfo} (ht:P.underlying t=some (.slice e)) (hi:P.info? e=some i) {g n sCap m:Nat} {v:Value} {news:List Value} {cur:Array Value} (hgb:w.heap[g]? =some (.cells cur E (0,0)))
 (hy:Reads w v m news) (hn:news.length=m*i.size) (hp:∀u∈news,u.oneCell'=true) (hroom:n+m≤sCap) (hfit:n*i.size+news.length≤cur.size):
 (Builtin.append_ #[t,t] ty #[.slice (some ⟨g,0,none⟩) n sCap,v]).run P w= .ok (.slice (some ⟨g,0,none⟩) (n+m) sCap) (w.setRow g (cur.toList.take (n*i.size)++news++cur.toList.drop (n*i.size+news.length)).toArray):=by
 obtain⟨ad,c,rfl⟩:=hy.len
 have hf:=LJ (P:=P) hy hn
 have hst:=run_storeCells_at P g (n*i.size) E news 0 cur w hgb (by simpa using hfit) hp
 simp only[Nat.add_zero]at hst
 simp[Builtin.append_,run_underlying ht,sizeOf,typeInfo,hi,Builtin.lenOf,hroom,hf,Addr.add_lit,hst]
theorem ZS {v:Value} (h:EO v=true):v.oneCell'=true:=by cases v<;>simp_all [EO,Value.oneCell']
theorem MR {x:Bool} {k:Nat} {rows:List (List AV)} {v:Value} (h:Fz w S (.sl x k rows) v):
 ∃ds:List (List DV),ds.map (·.map DV.er)=rows.map (·.map Gl)/\(∀r∈ds,r.length=k)/\HF w S ds.flatten (λ_=>False)/\Reads w v ds.length (ds.flatten.map DV.Al)/\ds.length=rows.length:=by
 cases h with
 |nil x k a c hx=>
  exact⟨[],by simp,by simp,λ_ h=>h,.inl ⟨a,c,rfl,rfl,rfl⟩,rfl⟩
 |sl x k rows b off c vs hx hlc hS hk hc hr=>
  obtain⟨ds,hl,hds⟩:=Hm rows (λi row (drow:List DV)=>drow.map DV.er=row.map Gl/\drow.length=k/\(∀d∈drow,Ok w S d (λ_=>False))/\∀(j:Nat) d,drow[j]? =some d->w.cell? ⟨b,off+(i*k+j),none⟩=some d.Al) (by
   intro i row hi
   obtain⟨dr,hl,Gs⟩:=Hm row (λj a (d:DV)=>d.er=Gl a/\Ok w S d (λ_=>False)/\w.cell? ⟨b,off+(i*k+j),none⟩=some d.Al) (by
    intro j a hj
    obtain⟨D,h1,h2,h3,_⟩:=Qb (δ:=λ_=>default) (hr i j row a hi hj)
    exact⟨D,h1,h3,by rw[h2];exact hc i j row a hi hj⟩)
   refine⟨dr,?_,by rw[hl];exact hk row (List.mem_of_getElem? hi),?_,?_⟩
   . exact map_mk hl Gs _ _ (by simp) λj a d hΦ ha=>by simp[ha,hΦ.1]
   . intro d hd;obtain⟨j,hj⟩:=List.getElem?_of_mem hd;obtain⟨a,_,hΦ⟩:=mem_mk hl Gs j d hj;exact hΦ.2.1
   . intro j d hd;obtain⟨a,_,hΦ⟩:=mem_mk hl Gs j d hd;exact hΦ.2.2)
  have hkd:∀r∈ds,r.length=k:=by
   intro r hr'
   obtain⟨i,hi⟩:=List.getElem?_of_mem hr'
   obtain⟨c,_,hΦ⟩:=mem_mk hl hds i r hi
   exact hΦ.2.1
  refine⟨ds,?_,hkd,B4 ?_,.inr ⟨b,off,c,by rw[hl],?_⟩,hl⟩
  . exact map_mk hl hds _ _ (by simp) λi row dr hΦ hrow=>by simp[hrow,hΦ.1]
  . intro d hd
    rw[List.mem_flatten]at hd
    obtain⟨r,hr',hd⟩:=hd
    obtain⟨i,hi⟩:=List.getElem?_of_mem hr'
    obtain⟨c,_,hΦ⟩:=mem_mk hl hds i r hi
    exact hΦ.2.2.1 d hd
  . intro n u hu
    rw[List.getElem?_map,Option.map_eq_some_iff]at hu
    obtain⟨d,hd,rfl⟩:=hu
    have hlt:n<ds.length*k:=by rw[← Cf hkd];exact(List.getElem?_eq_some_iff.1 hd).1
    have hk0:0<k:=(Nat.eq_zero_or_pos k).elim (λh=>by subst h;simp at hlt) id
    have hi:n/k<ds.length:=Nat.div_lt_of_lt_mul (by rw[Nat.mul_comm];exact hlt)
    have hj:n%k<(ds[n/k]).length:=by rw[hkd _ (List.getElem_mem hi)];exact Nat.mod_lt _ hk0
    have h1:=Ha hkd (List.getElem?_eq_getElem hi) (List.getElem?_eq_getElem hj)
    rw[Nat.mul_comm,Nat.div_add_mod,hd]at h1
    obtain rfl:=Option.some.inj h1
    obtain⟨c,_,hΦ⟩:=mem_mk hl hds _ _ (List.getElem?_eq_getElem hi)
    have:=hΦ.2.2.2 _ _ (List.getElem?_eq_getElem hj)
    rw[show n/k*k+n%k=n from by rw[Nat.mul_comm];exact Nat.div_add_mod n k]at this
    exact this
theorem Oa {rows:List (List AV)} (h:rows.all (·.all E3)=true):rows.map (·.map Gl)=rows:=by
 rw[List.all_eq_true]at h
 conv=>rhs;rw[← List.map_id rows]
 apply List.map_congr_left
 intro r hr
 have h1:=h r hr
 rw[List.all_eq_true]at h1
 conv=>rhs;rw[id,← List.map_id r]
 apply List.map_congr_left
 intro a ha
 have:=h1 a ha
 cases a<;>simp_all [E3,Gl]
theorem Ma {ds:List (List DV)} {F:Nat->Prop} (h:HF w S ds.flatten F) (hc:(ds.map (·.map DV.er)).all (·.all D3)=true):∀d∈ds.flatten,EO d.Al=true:=by
 intro d hd
 obtain⟨Fs,h1,_,_,_⟩:=Gy.1 h
 obtain⟨n,hn⟩:=List.getElem?_of_mem hd
 refine HW (h1 n d hn) ?_
 rw[List.mem_flatten]at hd
 obtain⟨r,hr,hd⟩:=hd
 rw[List.all_eq_true]at hc
 have:=hc (r.map DV.er) (List.mem_map_of_mem hr)
 rw[List.all_eq_true]at this
 exact this d.er (List.mem_map_of_mem hd)
theorem Ng {rows:List (List AV)} (h:rows.all (·.all E3)=true):rows.all (·.all D3)=true:=by
 rw[List.all_eq_true]at h ⊢
 intro r hr
 have:=h r hr
 rw[List.all_eq_true]at this ⊢
 intro a ha
 have:=this a ha
 cases a<;>simp_all [E3,D3]
theorem TK {v:Value} {k:Nat} {rows:List (List DV)} {F:Nat->Prop} (h:Ok w S (.own v false k rows) F):Reads w v rows.length (rows.flatten.map DV.Al)/\(∀r∈rows,r.length=k)/\∃Fc,HF w S rows.flatten Fc/\∀x,Fc x->F x:=by
 rcases TJ h with⟨rfl,_,rfl,hF⟩|⟨b,c,arr,E,Fc,rfl,hb,hk,hcap,hS,hok,hbF,hF,ha⟩
 . exact⟨.inl ⟨none,0,rfl,rfl,rfl⟩,by simp,λ_=>False,λ_ h=>h,λ_ h=>h.elim⟩
 . refine⟨.inr ⟨b,0,c,by simp[Gs],?_⟩,hk,Fc,hok,λx hx=>(hF x).2 (.inr hx)⟩
   intro n u hu
   rw[List.getElem?_map,Option.map_eq_some_iff]at hu
   obtain⟨d,hd,rfl⟩:=hu
   simp[World.cell?,hb,ha n d hd]
theorem St.QK (h:St G w S δ Fr) {y:Ar} {k:Nat} {ys:List (List AV)} {τ:Sg} (hy:P6 y) (he:Abs.QK G k y (λs=>(δ s).er)=some (ys,τ)):
 ∃(S1:Nat->Prop) (δ1:Nat->DV) (F1:Nat->Nat->Prop) (ysD:List (List DV)) (Fy:Nat->Prop),St G w S1 δ1 F1/\(λs=>(δ1 s).er)=τ/\(∀s,(δ1 s).Al=(δ s).Al)/\ysD.map (·.map DV.er)=ys/\(∀r∈ysD,r.length=k)/\
  HF w S1 ysD.flatten Fy/\Reads w (CY δ y) ysD.length (ysD.flatten.map DV.Al)/\(∀d∈ysD.flatten,EO d.Al=true)/\(∀s x,F1 s x->¬Fy x)/\Nx w S (A3 Fr) w S1 (λx=>A3 F1 x∨Fy x):=by
 cases y with
 |c c=>
  simp only[Abs.QK]at he
  split at he
  . rename_i kk
    simp only[Option.some.injEq,Prod.mk.injEq]at he
    obtain⟨rfl,rfl⟩:=he
    exact⟨S,δ,Fr,[],λ_=>False,h,rfl,λ_=>rfl,rfl,by simp,λ_ h=>h,.inl ⟨none,0,by simp[CY,GR],rfl,rfl⟩,by simp,λ_ _ _ h=>h,Nx.less λx hx=>hx.elim id False.elim⟩
  . cases he
 |t s=>
  simp only[Abs.QK]at he
  cases hs:(δ s).er with
  |own b k' rows=>
   cases b with
   |true=>simp[hs]at he
   |false=>
    simp only[hs]at he
    split at he
    . rename_i hcond
      obtain⟨rfl,hcell⟩:=hcond
      simp only[Option.some.injEq,Prod.mk.injEq]at he
      obtain⟨rfl,rfl⟩:=he
      obtain⟨rowsD,hd,hm⟩:=h.Qv hs
      have hok:=h.ok s
      rw[hd]at hok
      obtain⟨hrd,hk,Fc,hokc,hsub⟩:=TK hok
      refine⟨S,_,_,rowsD,Fc,h.empty s,by rw[Fp h];simp,?_,hm,hk,hokc,hrd,Ma hokc (by rw[hm];exact hcell),?_,Nx.less ?_⟩
      . intro t;rw[FH h];split
        . rename_i e;rw[e];simp
        . rfl
      . intro t x hx hf
        by_cases e:t=s
        . subst e;rw[A8]at hx;exact hx
        . rw[BK _ _ e]at hx;exact e (h.I0 t s x hx (hsub x hf))
      . rintro x (⟨t,hx⟩|hx)
        . by_cases e:t=s
          . subst e;rw[A8]at hx;exact hx.elim
          . rw[BK _ _ e]at hx;exact⟨t,hx⟩
        . exact⟨s,hsub x hx⟩
    . cases he
  |sl ee k' rows=>
   simp only[hs]at he
   split at he
   . rename_i hcond
     obtain⟨rfl,hpl⟩:=hcond
     simp only[Option.some.injEq,Prod.mk.injEq]at he
     obtain⟨rfl,rfl⟩:=he
     obtain⟨ds,h1,h2,h3,h4,h5⟩:=MR (h.leaf hs rfl).2.1
     rw[Oa hpl]at h1
     exact⟨S,δ,Fr,ds,λ_=>False,h,rfl,λ_=>rfl,h1,h2,h3,h4,Ma h3 (by rw[h1];exact Ng hpl),λ_ _ _ h=>h,Nx.less λx hx=>hx.elim id False.elim⟩
   . cases he
  |al r p=>
   simp only[hs]at he
   split at he
   . rename_i ee k' rows τ' hfz
     split at he
     . rename_i hcond
       obtain⟨rfl,hpl⟩:=hcond
       simp only[Option.some.injEq,Prod.mk.injEq]at he
       obtain⟨rfl,rfl⟩:=he
       obtain⟨δ1,F1,Fo,v,bx,kk,rowsD,hst,her,hann,hsub,hf,hfe,hdis,hown,_⟩:=h.LP hfz
       obtain⟨_,_,hal⟩:=h.leaf hs rfl
       obtain⟨bx',k2,rows',hl⟩:=hal
       rw[hsub]at hl
       simp only[Option.some.injEq,DV.own.injEq]at hl
       obtain⟨ds,h1,h2,h3,h4,h5⟩:=MR hf
       rw[Oa hpl]at h1
       refine⟨_,δ1,F1,ds,λ_=>False,hst,her,hann,h1,h2,h3,by rw[hl.1]at h4;exact h4,Ma h3 (by rw[h1];exact Ng hpl),λ_ _ _ h=>h,Nx.Gj ?_ ?_⟩
       . intro x hx;exact hown x (hx.imp (λh=>h.elim id False.elim) id)
       . intro x hx;obtain⟨t,ht⟩:=hown x (.inr hx);exact(h.ok t).lt x ht
     . cases he
   . cases he
  |_=>simp[hs]at he
theorem St.PG (h:St G w S δ Fr) {x:Ar} {k:Nat} {n:AV} {τ:Sg} (hx:P6 x) (he:Abs.PG G k x (λs=>(δ s).er)=some (n,τ)):
 (∃rows,n= .own false k rows/\∃(δ1:Nat->DV) (F1:Nat->Nat->Prop) (rowsD:List (List DV)) (Ff:Nat->Prop),St G w S δ1 F1/\(λs=>(δ1 s).er)=τ/\(∀s,(δ1 s).Al=(δ s).Al)/\rowsD.map (·.map DV.er)=rows/\Ok w S (.own (CY δ x) false k rowsD) Ff/\
  (∀s x,F1 s x->¬Ff x)/\(∀x,A3 F1 x∨Ff x->A3 Fr x))∨
 (∃rows,n= .sl true k rows/\τ=(λs=>(δ s).er)/\rows.all (·.all E3)=true/\Fz w S (.sl true k rows) (CY δ x)):=by
 cases x with
 |c c=>
  simp only[Abs.PG]at he
  split at he
  . rename_i kk
    simp only[Option.some.injEq,Prod.mk.injEq]at he
    obtain⟨rfl,rfl⟩:=he
    exact .inl ⟨[],rfl,δ,Fr,[],λ_=>False,h,rfl,λ_=>rfl,rfl,by simpa[CY,GR]using Ok.nil k _ (λ_ h=>h),λ_ _ _ h=>h,λx hx=>hx.elim id False.elim⟩
  . cases he
 |t s=>
  simp only[Abs.PG]at he
  cases hs:(δ s).er with
  |own b k' rows=>
   cases b with
   |true=>simp[hs]at he
   |false=>
    simp only[hs]at he
    split at he
    . rename_i hk
      subst hk
      simp only[Option.some.injEq,Prod.mk.injEq]at he
      obtain⟨rfl,rfl⟩:=he
      obtain⟨rowsD,hd,hm⟩:=h.Qv hs
      have hok:=h.ok s
      rw[hd]at hok
      refine .inl ⟨rows,rfl,_,_,rowsD,Fr s,h.empty s,by rw[Fp h];simp,?_,hm,by simpa[CY]using hok,?_,?_⟩
      . intro t;rw[FH h];split
        . rename_i e;rw[e];simp
        . rfl
      . intro t x hx hf
        by_cases e:t=s
        . subst e;rw[A8]at hx;exact hx
        . rw[BK _ _ e]at hx;exact e (h.I0 t s x hx hf)
      . rintro x (⟨t,hx⟩|hx)
        . by_cases e:t=s
          . subst e;rw[A8]at hx;exact hx.elim
          . rw[BK _ _ e]at hx;exact⟨t,hx⟩
        . exact⟨s,hx⟩
    . cases he
  |sl ee k' rows=>
   cases ee with
   |false=>simp[hs]at he
   |true=>
    simp only[hs]at he
    split at he
    . rename_i hcond
      obtain⟨rfl,hpl⟩:=hcond
      simp only[Option.some.injEq,Prod.mk.injEq]at he
      obtain⟨rfl,rfl⟩:=he
      exact .inr ⟨rows,rfl,rfl,hpl,(h.leaf hs rfl).2.1⟩
    . cases he
  |al r p=>
   simp only[hs]at he
   split at he
   . rename_i k' rows τ' ht
     split at he
     . rename_i hk
       subst hk
       simp only[Option.some.injEq,Prod.mk.injEq]at he
       obtain⟨rfl,rfl⟩:=he
       obtain⟨δ1,F1,D,Ff,hst,her,hann,hD,hDe,⟨v,bx,kk,rowsD,rfl⟩,hsub,hdis,hown,_,_⟩:=h.XL ht
       simp only[DL,AV.own.injEq]at hDe
       obtain⟨rfl,rfl,hm⟩:=hDe
       obtain⟨_,_,hal⟩:=h.leaf hs rfl
       obtain⟨bx',k2,rows',hl⟩:=hal
       rw[hsub]at hl
       simp only[Option.some.injEq,DV.own.injEq]at hl
       exact .inl ⟨rows,rfl,δ1,F1,rowsD,Ff,hst,her,hann,hm,by rw[show CY δ (.t s)=v from hl.1.symm];exact hD,hdis,hown⟩
     . cases he
   . cases he
  |_=>simp[hs]at he
end Go.Abs
namespace Go.Abs
variable {w w':World} {S S':Nat->Prop} {G:Gi} {δ:Nat->DV} {Fr:Nat->Nat->Prop} {P:Program}
theorem RR {S1:Nat->Prop} {U1:Nat->Prop} {δ1:Nat->DV} {F1:Nat->Nat->Prop} {a:Act} {o:Oper} {d:DU} {σ':Sg} {k c:Nat} {rows:List (List DV)} {Fd:Nat->Prop} {arr:Array Value} {E:TypeId} (h:St G w S1 δ1 F1) (hSlt:∀b,S1 b->b<w.heap.size) (ha:Rd δ1 a)
 (hd:GX G a o (some d)) (hr:(execOp a.eval o).run P w= .ok (.value (.slice (some ⟨w.heap.size,0,none⟩) rows.length c)) w') (hheap:w'.heap=w.heap.push (.cells arr E)) (hos:w'.os=w.os) (htp:w'.tape=w.tape) (hou:w'.output=w.output)
 (hok:HF w S1 rows.flatten Fd) (hdis:∀s x,F1 s x->¬Fd x) (hk:∀row∈rows,row.length=k)
 (hcap:c*k=arr.size/\rows.length≤c) (hv:∀(n:Nat) d,rows.flatten[n]? =some d->arr[n]? =some d.Al)
 (hwr:wr d (.own false k (rows.map (·.map DV.er))) (λs=>(δ1 s).er)=some σ') (hown:∀x,A3 F1 x∨Fd x->U1 x) (hnx0:Nx w S (A3 Fr) w S1 U1):LN P G w S Fr a o σ':=by
 have hlt:=(BQ.2 hok).lt
 have hnS:=(BQ.2 hok).D6
 have hold:∀b,b<w.heap.size->w'.heap[b]? =w.heap[b]? :=λb hb=>by rw[hheap,Array.getElem?_push,if_neg (by omega)]
 have hnew:w'.heap[w.heap.size]? =some (.cells arr E (0,0)):=by rw[hheap];simp
 have hnode:Ok w' S1 (.own (Gs false w.heap.size rows.length c) false k rows) (λx=>x=w.heap.size∨Fd x):=by
  refine W6 hnew hk (by simpa using hcap) (λhs=>by have:=hSlt _ hs;omega) ?_ (λhs=>by have:=hlt _ hs;omega) hv
  exact hok.mono (λb hb=>hold b (hSlt b hb)) (λb hb=>hold b (hlt b hb)) (λ_ h=>h) hnS
 refine HC (D:=.own (Gs false w.heap.size rows.length c) false k rows) h ha hd (by simpa[Gs]using hr) (λb hb=>hold b (hSlt b hb)) (λs x hx=>hold x ((h.ok s).lt x hx)) (λ_ h=>h) (λs x hx=>(h.ok s).D6 x hx) hnode ?_ (.own _ _ _ _) (by simpa using hwr) ?_
 . rintro s x hx (rfl|hf)
   . have:=(h.ok s).lt _ hx;omega
   . exact hdis s x hx hf
 . refine hnx0.trans ⟨hos,htp,hou,by rw[hheap];simp,λb hb _=>hold b hb,λ_ h=>h,λ_ h=>.inl h,λhl b hb=>by rw[hheap];have:=hl b hb;simp;omega,?_⟩
   rintro x (hx|rfl|hx)
   . exact .inl (hown x (.inl hx))
   . exact .inr (Nat.le_refl _)
   . exact .inl (hown x (.inr hx))
theorem N6 {t ty e:TypeId} {i:TypeInfo} (ht:P.underlying t=some (.slice e)) (hi:P.info? e=some i) {base:Option Addr} {n c:Nat} (hnc:n≤c) {v:Value} (hy:Reads w v 0 []):
 (Builtin.append_ #[t,t] ty #[.slice base n c,v]).run P w= .ok (.slice base n c) w:=by
 obtain⟨ad,c',rfl⟩:=hy.len
 have hf:=LJ (P:=P) (size:=i.size) hy (by simp)
 cases base<;>simp[Builtin.append_,run_underlying ht,sizeOf,typeInfo,hi,Builtin.lenOf,hf,hnc,storeCells]
theorem Qe {z:Value} {k n m cap:Nat} {xs ys:List Value} (hz:z.cells.size=k) (hx:xs.length=n*k) (hy:ys.length=m*k) (hc:n+m≤cap):cap*k=((xs++ys).toArray++Builtin.zeroCells z.cells (cap-(n+m))).size:=by
 simp only[Array.size_append,List.size_toArray,List.length_append,size_zeroCells,hx,hy,hz,← Nat.add_mul]
 congr 1
 omega
theorem eG (h:St G w S δ Fr) (hSlt:∀b,S b->b<w.heap.size) {a:Act} (ha:Rd δ a) {o:Oper} {c:Call} {u v:Operand} {t e:TypeId} {i:TypeInfo} {z:Value} {k bytes:Nat} {x y:Ar} {d:DU} (hd:GX G a o (some d)) (ho:o.op= .call c) (hcal:c.callee= .builtin .append) (hargs:c.args= #[u,v]) (hty:c.argTypes= #[t,t])
 (hu:P.underlying t=some (.slice e)) (hi:P.info? e=some i) (hsz:i.size=k) (hby:i.bytes=bytes) (hb0:0<bytes) (hz:i.zero=some z) (hzk:z.cells.size=k) (hc:Bf u x=true) (hc2:Bf v y=true) {σ':Sg}
 (he:ES G (.app k bytes x y) (some d) (λs=>(δ s).er)=some σ'):LN P G w S Fr a o σ':=by
 obtain⟨hx,hev⟩:=Aa hc ha
 obtain⟨hy,hev2⟩:=Aa hc2 ha
 subst hsz
 subst hby
 have hexec:∀r w',(Builtin.append_ #[t,t] o.type #[CY δ x,CY δ y]).run P w= .ok r w'->(execOp a.eval o).run P w= .ok (.value r) w':=by
  intro r w' hr
  simp only[execOp,ho,resolve,hcal,hargs,hty,invoke,builtin,Sem.run_bind,Sem.run_pure,Result.andThen_ok,List.map_toArray,List.map_cons,List.map_nil,hev,hev2,hr]
 simp only[ES]at he
 split at he
 . rename_i ys τ hY
   obtain⟨S1,δ1,F1,ysD,Fy,hst1,her1,hann1,hysm,hyk,hyok,hyr,hypl,hydis,hnx1⟩:=h.QK hy hY
   subst her1
   have hSlt1:=hnx1.lt hSlt
   have hav:CY δ1 x=CY δ x:=by cases x<;>simp[CY,hann1]
   have hylen:ysD.length=ys.length:=by rw[← hysm];simp
   split at he
   . -- a node
     rename_i b' k' rows τ' hX
     split at he
     . rename_i hroom
       rcases hst1.PG hx hX with⟨rows0,hn,δ2,F2,rowsD,Ff,hst2,her2,hann2,hrm,hok,hdis2,hown2⟩|⟨_,hn,_⟩
       . simp only[AV.own.injEq]at hn
         obtain⟨rfl,rfl,rfl⟩:=hn
         subst her2
         have hrl:rowsD.length=rows.length:=by rw[← hrm];simp
         have ha2:Rd δ2 a:=λs=>(ha s).trans ((hann2 s).trans (hann1 s)).symm
         simp only[Aq,decide_eq_true_eq]at hroom
         rw[← hrl,← hylen]at hroom
         have h63:rowsD.length+ysD.length≤9223372036854775807:=by
          have:=Nat.le_mul_of_pos_right (rowsD.length+ysD.length) hb0
          omega
         rw[hav]at hok
         obtain⟨hxr,hxk,Fc',hxok',hsub'⟩:=TK hok
         have hxl:(rowsD.flatten.map DV.Al).length=rowsD.length*i.size:=by rw[List.length_map,Cf hxk]
         have hyl:(ysD.flatten.map DV.Al).length=ysD.length*i.size:=by rw[List.length_map,Cf hyk]
         have hdy:∀x,A3 F2 x∨Ff x->¬Fy x:=by
          intro x hx hfy
          obtain⟨s,hs⟩:=hown2 x hx
          exact hydis s x hs hfy
         have hmapp:(rowsD++ysD).map (·.map DV.er)=rows++ys:=by rw[List.map_append,hrm,hysm]
         have hkk:∀r∈rowsD++ysD,r.length=i.size:=by
          intro r hr
          rcases List.mem_append.1 hr with h1|h1
          . exact hxk r h1
          . exact hyk r h1
         have hU:Nx w S (A3 Fr) w S1 (λx=>A3 F1 x∨Fy x):=hnx1
         have hall:∀Fc,(∀x,Fc x->Ff x)->HF w S1 rowsD.flatten Fc->HF w S1 (rowsD++ysD).flatten (λx=>Fc x∨Fy x):=by
          intro Fc hsub hokc
          rw[List.flatten_append]
          exact JD hokc hyok (λx hx=>hdy x (.inr (hsub x hx)))
         have grow:∀(base:Option Addr) (n sCap:Nat),CY δ x= .slice base n sCap->n=rowsD.length->sCap<rowsD.length+ysD.length->LN P G w S Fr a o σ':=by
          intro base n sCap hv hn hlt
          subst hn
          rw[hv]at hxr
          have hrun:=N5 (P:=P) (ty:=o.type) hu hi hz hxr hxl hyr hyl hlt hroom h63
          have hge:=grownCap_ge w (rowsD.length+ysD.length) sCap e
          obtain⟨W1,hW1⟩:∃W1,W1=w.drew.alloc (.cells ((rowsD.flatten.map DV.Al++ysD.flatten.map DV.Al).toArray++Builtin.zeroCells z.cells (grownCap w (rowsD.length+ysD.length) sCap e-(rowsD.length+ysD.length))) e):=⟨_,rfl⟩
          rw[← hW1]at hrun
          refine RR (w':=W1) (Fr:=Fr) (U1:=λx=>A3 F1 x∨Fy x) (rows:=rowsD++ysD) (Fd:=λx=>Fc' x∨Fy x) (arr:=(rowsD.flatten.map DV.Al++ysD.flatten.map DV.Al).toArray++Builtin.zeroCells z.cells (grownCap w (rowsD.length+ysD.length) sCap e-(rowsD.length+ysD.length))) (E:=e) hst2 hSlt1 ha2 hd
           (by rw[List.length_append];exact hexec _ _ (by rw[hv];exact hrun)) (by rw[hW1];rfl) (by rw[hW1];rfl) (by rw[hW1];rfl) (by rw[hW1];rfl) (hall Fc' hsub' hxok') ?_ hkk ⟨Qe hzk hxl hyl hge,by simpa using hge⟩ ?_ (by rw[hmapp];exact he) ?_ hU
          . rintro s x hx (h1|h1)
            . exact hdis2 s x hx (hsub' x h1)
            . exact hdy x (.inl ⟨s,hx⟩) h1
          . intro n d hn
            rw[List.flatten_append]at hn
            have hlt:n<(rowsD.flatten++ysD.flatten).length:=(List.getElem?_eq_some_iff.1 hn).1
            rw[Array.getElem?_append_left (by rw[List.size_toArray,List.length_append,List.length_map,List.length_map,← List.length_append];exact hlt),List.getElem?_toArray,← List.map_append,List.getElem?_map,hn]
            rfl
          . rintro x (hx|h1|h1)
            . exact .inl (hown2 x (.inl hx))
            . exact .inl (hown2 x (.inr (hsub' x h1)))
            . exact .inr h1
         rcases TJ hok with⟨hv,_,hr0,hF0⟩|⟨b,cc,arr,E,Fc,hv,hb,hk,hcap,hS,hokc,hbF,hF,harr⟩
         . subst hr0
           by_cases hm:ysD.length=0
           . have hy0:ysD=[]:=List.eq_nil_of_length_eq_zero hm
             subst hy0
             have hrun:=N6 (P:=P) (w:=w) (ty:=o.type) hu hi (base:=none) (n:=0) (c:=0) (Nat.le_refl 0) (by simpa using hyr)
             have hys:ys=[]:=by rw[← hysm];rfl
             have hrs:rows=[]:=by rw[← hrm];rfl
             subst hys
             subst hrs
             refine HC (D:=.own (.slice none 0 0) false i.size []) (Ff:=λ_=>False) hst2 ha2 hd (by simpa using hexec _ _ (by rw[hv];exact hrun)) (λ_ _=>rfl) (λ_ _ _=>rfl) (λ_ h=>h) (λs x hx=>(hst2.ok s).D6 x hx) (.nil _ _ (λ_ h=>h)) (λ_ _ _ h=>h) (.own _ _ _ _) (by simpa using he) ?_
             exact hU.trans (Nx.less λx hx=>.inl (hown2 x (.inl (hx.elim id False.elim))))
           . exact grow none 0 0 hv rfl (by omega)
         . by_cases hfit:rowsD.length+ysD.length≤cc
           . -- room
             simp only[Bool.false_eq_true,if_false]at hcap
             have hsz2:rowsD.length*i.size+(ysD.flatten.map DV.Al).length≤arr.size:=by
              rw[hyl,← hcap.1,← Nat.add_mul];exact Nat.mul_le_mul_right _ hfit
             have hrun:=UA (P:=P) (ty:=o.type) hu hi hb hyr hyl (by
              intro q hq
              obtain⟨dd,hdd,rfl⟩:=List.mem_map.1 hq
              exact ZS (hypl dd hdd)) hfit hsz2
             generalize hw':w.setRow b (arr.toList.take (rowsD.length*i.size)++ysD.flatten.map DV.Al++arr.toList.drop (rowsD.length*i.size+(ysD.flatten.map DV.Al).length)).toArray=w1 at hrun
             have hheapb:w1.heap[b]? =some (.cells (arr.toList.take (rowsD.length*i.size)++ysD.flatten.map DV.Al++arr.toList.drop (rowsD.length*i.size+(ysD.flatten.map DV.Al).length)).toArray E (0,0)):=by rw[← hw'];exact setRow_heap w b arr _ E _ hb
             have hoth:∀x,x≠b->w1.heap[x]? =w.heap[x]? :=λx hx=>by rw[← hw'];exact setRow_other w b x _ hx
             have hFfb:Ff b:=(hF b).2 (.inl rfl)
             have hFc:∀x,Fc x->Ff x:=λx hx=>(hF x).2 (.inr hx)
             have hnb:∀x,Fc x∨Fy x->x≠b:=by
              rintro x (h1|h1) rfl
              . exact hbF h1
              . exact hdy x (.inr hFfb) h1
             have hcells:=hall Fc hFc hokc
             have hnode:Ok w1 S1 (.own (Gs false b (rowsD++ysD).length cc) false i.size (rowsD++ysD)) (λx=>x=b∨(Fc x∨Fy x)):=by
              refine W6 hheapb hkk ?_ hS (hcells.mono (λx hx=>hoth x (by rintro rfl;exact hS hx)) (λx hx=>hoth x (hnb x hx)) (λ_ h=>h) (BQ.2 hcells).D6) (λhx=>hnb b hx rfl) ?_
              . simp only[Bool.false_eq_true,if_false,List.size_toArray,List.length_append,List.length_take,List.length_drop,Array.length_toList]
                refine⟨?_,by simpa using hfit⟩
                rw[hcap.1];omega
              . intro n d hn
                rw[List.flatten_append]at hn
                have hxl':rowsD.flatten.length=rowsD.length*i.size:=Cf hxk
                rw[List.getElem?_toArray]
                have hlt:n<(rowsD.flatten++ysD.flatten).length:=(List.getElem?_eq_some_iff.1 hn).1
                have htl:(arr.toList.take (rowsD.length*i.size)).length=rowsD.flatten.length:=by
                 have e0:arr.toList.length=arr.size:=Array.length_toList
                 rw[hxl',List.length_take]
                 exact Nat.min_eq_left (by omega)
                rw[List.getElem?_append_left (by rw[List.length_append,htl,List.length_map];simpa using hlt)]
                by_cases hnx:n<rowsD.flatten.length
                . rw[List.getElem?_append_left (by omega)]at hn ⊢
                  rw[List.getElem?_take,if_pos (by omega)]
                  have:=harr n d hn
                  simpa using this
                . rw[List.getElem?_append_right (by omega)]at hn ⊢
                  rw[htl,List.getElem?_map,hn];rfl
             refine HC (D:=.own (Gs false b (rowsD++ysD).length cc) false i.size (rowsD++ysD)) (S1:=S1) (S':=S1) hst2 ha2 hd (by simpa[Gs]using hexec _ _ (by rw[hv];simpa[Gs]using hrun)) (λx hx=>hoth x (by rintro rfl;exact hS hx))
              (λs x hx=>hoth x (by rintro rfl;exact hdis2 s x hx hFfb)) (λ_ h=>h) (λs x hx=>(hst2.ok s).D6 x hx) hnode ?_ (.own _ _ _ _) (by rw[DL,hmapp];exact he) ?_
             . rintro s x hx (rfl|h1|h1)
               . exact hdis2 s x hx hFfb
               . exact hdis2 s x hx (hFc x h1)
               . exact hdy x (.inl ⟨s,hx⟩) h1
             . refine hU.trans ⟨by rw[← hw'];rfl,by rw[← hw'];rfl,by rw[← hw'];rfl,by rw[← hw'];simp[World.setRow],?_,λ_ h=>h,λ_ h=>.inl h,λhl q hq=>by have:=hl q hq;rw[← hw'];simpa[World.setRow]using this,?_⟩
               . intro x _ hUx
                 refine hoth x ?_
                 rintro rfl
                 exact hUx (.inl (hown2 x (.inr hFfb)))
               . rintro x (hx|rfl|h1|h1)
                 . exact .inl (.inl (hown2 x (.inl hx)))
                 . exact .inl (.inl (hown2 x (.inr hFfb)))
                 . exact .inl (.inl (hown2 x (.inr (hFc x h1))))
                 . exact .inl (.inr h1)
           . exact grow _ _ cc (by rw[hv];rfl) rfl (by omega)
       . cases hn
     . cases he
   . -- a frozen slice without room
     rename_i e0 k0 rows τ' hX
     rcases hst1.PG hx hX with⟨_,hn,_⟩|⟨rows0,hn,hτ,hpl,hfz⟩
     . cases hn
     . simp only[AV.sl.injEq]at hn
       obtain⟨rfl,rfl,rfl⟩:=hn
       subst hτ
       rw[hav]at hfz
       have ha1:Rd δ1 a:=λs=>(ha s).trans (hann1 s).symm
       obtain⟨ad,cap,hv⟩:=KN hfz
       have hcapeq:cap=rows.length:=by
        rw[hv]at hfz
        cases hfz with
        |nil _ _ _ _ hx=>exact hx rfl
        |sl _ _ _ _ _ _ _ hx=>exact hx rfl
       subst hcapeq
       split at he
       . -- nothing to append
         have hy0:ysD=[]:=List.eq_nil_of_length_eq_zero (by rw[hylen];rfl)
         subst hy0
         have hrun:=N6 (P:=P) (w:=w) (ty:=o.type) hu hi (base:=ad) (n:=rows.length) (c:=rows.length) (Nat.le_refl _) (by simpa using hyr)
         refine HC (D:=.lf (.sl true i.size rows) (.slice ad rows.length rows.length)) (Ff:=λ_=>False) (S1:=S1) (S':=S1) hst1 ha1 hd (by simpa using hexec _ _ (by rw[hv];exact hrun)) (λ_ _=>rfl) (λ_ _ _=>rfl) (λ_ h=>h) (λs x hx=>(hst1.ok s).D6 x hx) (.lf _ _ _ (by rw[← hv];exact hfz) (λ_ h=>h)) (λ_ _ _ h=>h) (.lf _ _ trivial) (by rw[Dj];exact he) ?_
         exact hnx1.trans (Nx.less λx hx=>.inl (hx.elim id False.elim))
       . rename_i y0 ys0
         split at he
         . rename_i hroom
           simp only[Aq,decide_eq_true_eq]at hroom
           obtain⟨rowsD,h1,h2,h3,h4,h5⟩:=MR hfz
           rw[Oa hpl]at h1
           have hyl1:ysD.length=(y0::ys0).length:=hylen
           rw[← h5,← hyl1]at hroom
           have h63:rowsD.length+ysD.length≤9223372036854775807:=by
            have:=Nat.le_mul_of_pos_right (rowsD.length+ysD.length) hb0
            omega
           have hxl:(rowsD.flatten.map DV.Al).length=rowsD.length*i.size:=by rw[List.length_map,Cf h2]
           have hyl:(ysD.flatten.map DV.Al).length=ysD.length*i.size:=by rw[List.length_map,Cf hyk]
           rw[hv,← h5]at h4
           have hlt:rowsD.length<rowsD.length+ysD.length:=by rw[hyl1];simp
           have hrun:=N5 (P:=P) (ty:=o.type) hu hi hz h4 hxl hyr hyl hlt hroom h63
           have hge:=grownCap_ge w (rowsD.length+ysD.length) rowsD.length e
           obtain⟨W1,hW1⟩:∃W1,W1=w.drew.alloc (.cells ((rowsD.flatten.map DV.Al++ysD.flatten.map DV.Al).toArray++Builtin.zeroCells z.cells (grownCap w (rowsD.length+ysD.length) rowsD.length e-(rowsD.length+ysD.length))) e):=⟨_,rfl⟩
           rw[← hW1]at hrun
           have hmapp:(rowsD++ysD).map (·.map DV.er)=rows++y0::ys0:=by rw[List.map_append,h1,hysm]
           refine RR (w':=W1) (Fr:=Fr) (U1:=λx=>A3 F1 x∨Fy x) (rows:=rowsD++ysD) (Fd:=λx=>False∨Fy x) (arr:=(rowsD.flatten.map DV.Al++ysD.flatten.map DV.Al).toArray++Builtin.zeroCells z.cells (grownCap w (rowsD.length+ysD.length) rowsD.length e-(rowsD.length+ysD.length))) (E:=e) hst1 hSlt1 ha1 hd
            (by rw[List.length_append];exact hexec _ _ (by rw[hv,← h5];exact hrun)) (by rw[hW1];rfl) (by rw[hW1];rfl) (by rw[hW1];rfl) (by rw[hW1];rfl) (by rw[List.flatten_append];exact JD h3 hyok (λ_ h=>h.elim)) ?_ ?_ ⟨Qe hzk hxl hyl hge,by simpa using hge⟩ ?_ (by rw[hmapp];exact he) ?_ hnx1
           . rintro s x hx (h1|h1)
             . exact h1
             . exact hydis s x hx h1
           . intro r hr
             rcases List.mem_append.1 hr with h1|h1
             . exact h2 r h1
             . exact hyk r h1
           . intro n d hn
             rw[List.flatten_append]at hn
             have hlt:n<(rowsD.flatten++ysD.flatten).length:=(List.getElem?_eq_some_iff.1 hn).1
             rw[Array.getElem?_append_left (by rw[List.size_toArray,List.length_append,List.length_map,List.length_map,← List.length_append];exact hlt),List.getElem?_toArray,← List.map_append,List.getElem?_map,hn]
             rfl
           . rintro x (hx|h1|h1)
             . exact .inl hx
             . exact h1.elim
             . exact .inr h1
         . cases he
   . cases he
 . cases he
end Go.Abs
namespace Go.Abs
variable {w w':World} {S S':Nat->Prop} {G:Gi} {δ:Nat->DV} {Fr:Nat->Nat->Prop} {P:Program}
def placeOf (P:Program) (t:TypeId):Nat->Option (Nat×Nat):=λi=>match P.underlying t with
 |some (.struct fs)=>match fs[i]? with
  |some f=>match EV P f.type with
   |some n=>some (f.offset,n)
   |none=>none
  |none=>none
 |some (.array _ e)=>match EV P e with
  |some k=>some (i*k,k)
  |none=>none
 |_=>none
def UF (P:Program) (t:TypeId):Bool:=match P.underlying t with
 |some (.struct fs)=>fs.toList.all λf=>(EV P f.type).isSome
 |some (.array _ e)=>(EV P e).isSome
 |_=>false
def T8 (zc:Array Value) (n:Nat):List Value:=((Array.range n).map (zc[· %zc.size]!)).toList
def Gn (P:Program):Op->Rq->Bool
 | .move x,.cp y=>Bf x y
 | .assign x,.mv y=>Bf x y
 | .assign x,.cp y=>Bf x y
 | .pick c a b,.pick c' a' b'=>Bf c c'&&Bf a a'&&Bf b b'
 | .alloc t,.bx n (.c z)=>EV P t==some n&&(match(P.info? t).bind (·.zero),GR z with|some v,some D=>X1 v D.Al|_,_=>false)
 | .box t x,.bx n y=>EV P t==some n&&Bf x y
 | .build t parts,.Dc z ps=>(match(P.info? t).bind (·.zero),QW z with
  |some v,some zd=>N8 v.cells.toList (zd.map DV.Al)&&z.all D3&&UF P t&&IH (placeOf P t) parts.toList ps
  |_,_=>false)
 | .buildSlice t len parts,.Eg k z ps=>(match P.underlying t with
  |some (.slice e)=>EV P e==some k&&decide (len*k≤16777216)&&(match(P.info? e).bind (·.zero),Yl z with
   |some v,some zd=>N8 (T8 (if len*k=0 then #[]else v.cells) (len*k)) (zd.flatten.map DV.Al)&&z.length==len&&z.all (·.length==k)&&JJ k parts.toList ps
   |_,_=>false)
  |_=>false)
 | .load t a,.ld g n b=>EV P t==some n&&Gk P t==some g&&(g||n==1)&&Bf a b
 | .store t a x,.st n b y=>EV P t==some n&&Bf a b&&Bf x y
 | .fieldAddr t x f,.PL off y=>(match P.underlying t with
  |some (.struct fs)=>match fs[f]? with
   |some fd=>fd.offset==off&&(match EV P fd.type with|some n=>n != 0|none=>false)
   |none=>false
  |_=>false)&&Bf x y
 | .indexAddr t x i,.Lr k y j=>(match P.underlying t with|some (.slice e)=>EV P e==some k|_=>false)&&Bf x y&&Bf i j
 | .indexAddr t x i,.kP len k y j=>(match P.underlying t with|some (.array n e)=>n==len&&EV P e==some k|_=>false)&&Bf x y&&Bf i j
 | .makeSlice t x y,.mk k bytes z x' y'=>(match P.underlying t with
  |some (.slice e)=>match P.info? e with
   |some i=>i.size==k&&i.bytes==bytes&&decide (0<bytes)&&decide (0<k)&&z.length==k&&(match i.zero,QW z with|some v,some zd=>N8 v.cells.toList (zd.map DV.Al)|_,_=>false)
   |none=>false
  |_=>false)&&Bf x x'&&Bf y y'
 | .field t x f,.fld agg off n y=>(match P.underlying t with
  |some (.struct fs)=>match fs[f]? with
   |some fd=>fd.offset==off&&EV P fd.type==some n&&Gk P fd.type==some agg&&(agg||n==1)
   |none=>false
  |_=>false)&&Bf x y
 | .index t x i,.idx agg len k y j=>(match P.underlying t with|some (.array n e)=>n==len&&EV P e==some k&&Gk P e==some agg&&(agg||k==1)|_=>false)&&Bf x y&&Bf i j
 | .index t x i,.UE y j=>(match P.underlying t with|some .string=>true|_=>false)&&Bf x y&&Bf i j
 | .binOp op _ x y _,.bin op' x' y'=>decide (op=op')&&Bf x x'&&Bf y y'
 | .binOp op t x y _,.beq neg x' y'=>decide (op=if neg=true then .neq else .eql)&&(match P.underlying t with|some .bool=>true|_=>false)&&Bf x x'&&Bf y y'
 | .binOp op t x y _,.Vm neg kd x' y'=>decide (op=if neg=true then .neq else .eql)&&Wd P t kd&&Bf x x'&&Bf y y'
 | .load t a,.Qt b=>EV P t==some 1&&Gk P t==some false&&Bf a b
 | .store t a x,.P1 b y=>EV P t==some 1&&Bf a b&&Bf x y
 | .nilCheck x,.FF y=>Bf x y
 | .makeFunc (.func f) first caps,.fM f' ys=>f==f'&&first.isEmpty&&FU caps.toList ys
 | .unOp op _ x,.un op' y=>decide (op=op')&&Bf x y
 | .convert s d x,.Xk k y=>(match P.underlying s,P.underlying d with|some (.int _),some (.int k')=>decide (k=k')|_,_=>false)&&Bf x y
 | .call c,.len y=>(match c.callee,c.args.toList,c.argTypes.toList with
  | .builtin .len,[x],[t]=>(match P.underlying t with|some (.slice _)=>true|_=>false)&&Bf x y
  |_,_,_=>false)
 | .call c,.Pk y=>(match c.callee,c.args.toList,c.argTypes.toList with
  | .builtin .len,[x],[t]=>(match P.underlying t with|some .string=>true|_=>false)&&Bf x y
  |_,_,_=>false)
 | .call c,.mm mx x y=>(match c.callee,c.args.toList with
  | .builtin b,[u,v]=>(match b,mx with| .max,true=>true| .min,false=>true|_,_=>false)&&Bf u x&&Bf v y
  |_,_=>false)
 | .call c,.app k bytes x y=>(match c.callee,c.args.toList,c.argTypes.toList with
  | .builtin .append,[u,v],[t,t']=>t==t'&&(match P.underlying t with
   |some (.slice e)=>match P.info? e with
    |some i=>i.size==k&&i.bytes==bytes&&decide (0<bytes)&&(match i.zero with|some z=>z.cells.size==k|none=>false)
    |none=>false
   |_=>false)&&Bf u x&&Bf v y
  |_,_,_=>false)
 | .slice t x lo hi mx,.UM k fr y lo' hi' mx'=>(match P.underlying t with|some (.slice e)=>EV P e==some k|_=>false)&&(mx.isNone||hi.isSome)&&Bf x y&&MJ lo lo'&&MJ hi hi'&&MJ mx mx'
 | .extract x i,.ext y j=>decide (i=j)&&Bf x y
 |_,.bad=>true
 |_,_=>false
theorem u7 {α:Type} {a:Array α} {x y:α} (h:a.toList=[x,y]):a= #[x,y]:=by apply Array.ext';simpa using h
theorem eF {α β:Type} (l:List α) (f:α->Sem β) (g:α->β) (h:∀a∈l,(f a).run P w= .ok (g a) w):(l.mapM f).run P w= .ok (l.map g) w:=by
 induction l with
 |nil=>simp
 |cons a l ih=>
  have h1:=h a (by simp)
  have h2:=ih (λb hb=>h b (by simp[hb]))
  simp[List.mapM_cons,h1,h2]
theorem run_build {t:TypeId} {v:Value} {parts:Array (Nat×Value)} {i:TypeInfo} (hi:P.info? t=some i) (hz:i.zero=some v) (hs:UF P t=true) (cells:Array Value) (hf:Instr.fill (placeOf P t) v.cells parts.toList=some cells):
 (Instr.build t parts).run P w= .ok (.agg cells) w:=by
 unfold UF at hs
 split at hs
 . rename_i fs hu
   have hm:(fs.mapM (m:=Sem) λ(f:Field)=>Prod.mk f.offset <$> sizeOf f.type).run P w= .ok (fs.map λf=>(f.offset,(EV P f.type).getD 0)) w:=by
    rw[Array.mapM_eq_mapM_toList]
    have:=eF (P:=P) (w:=w) fs.toList (λ(f:Field)=>(Prod.mk f.offset <$> sizeOf f.type:Sem (Nat×Nat))) (λf=>(f.offset,(EV P f.type).getD 0)) (by
     intro f hf'
     rw[List.all_eq_true]at hs
     have:=hs f hf'
     obtain⟨n,hn⟩:=Option.isSome_iff_exists.1 this
     simp[run_sizeOf hn,hn])
    simp only[Sem.run_map,this,Result.andThen_ok]
    congr 1
    apply Array.ext'
    simp
   have hp:(λi=>Option.map (λ(f:Field)=>(f.offset,(EV P f.type).getD 0)) fs[i]?)=placeOf P t:=by
    funext i
    simp only[placeOf,hu]
    cases hf':fs[i]? with
    |none=>rfl
    |some f=>
     rw[List.all_eq_true]at hs
     have:=hs f (by rw[Array.mem_toList_iff];exact Array.mem_of_getElem? hf')
     obtain⟨n,hn⟩:=Option.isSome_iff_exists.1 this
     simp[hn]
   simp only[Instr.build,zeroValue,typeInfo,Sem.run_bind,run_underlying hu]
   simp[program,Sem.run,hi,hz,hm]
   rw[hp,hf]
   simp
 . rename_i n e hu
   obtain⟨k,hk⟩:=Option.isSome_iff_exists.1 hs
   have hp:(λi=>some (i*k,k))=placeOf P t:=by funext i;simp[placeOf,hu,hk]
   simp only[Instr.build,zeroValue,typeInfo,Sem.run_bind,run_underlying hu]
   simp[program,Sem.run,hi,hz,run_sizeOf hk]
   rw[hp,hf]
   simp
 . cases hs
theorem RO {t e:TypeId} {v:Value} {len k:Nat} {parts:Array (Nat×Value)} {i:TypeInfo} (hu:P.underlying t=some (.slice e)) (hk:EV P e=some k) (hle:len*k≤16777216) (hi:P.info? e=some i) (hz:i.zero=some v) (cells:Array Value)
 (hf:Instr.fill (λi=>some (i*k,k)) (T8 (if len*k=0 then #[]else v.cells) (len*k)).toArray parts.toList=some cells):
 (Instr.buildSlice t len parts).run P w= .ok (.slice (some ⟨w.heap.size,0,none⟩) len len) (w.alloc (.cells cells e)):=by
 have h24:¬(16777216<len*k):=by omega
 simp only[T8,Array.toArray_toList]at hf
 by_cases h0:len*k=0
 . simp only[h0,if_true]at hf
   simp[Instr.buildSlice,run_underlying hu,run_sizeOf hk,h0]
   simp at hf
   rw[hf]
   simp[newRow]
 . simp only[h0,if_false]at hf
   simp[Instr.buildSlice,run_underlying hu,run_sizeOf hk,h0,h24,zeroValue,typeInfo,hi,hz]
   rw[hf]
   simp[newRow]
theorem OY {α:Type} [BEq α] [LawfulBEq α] {a:Option α} {b:α} (h:(a==some b)=true):a=some b:=by simpa using h
theorem dX (h:St G w S δ Fr) (hSlt:∀b,S b->b<w.heap.size) {a:Act} (ha:Rd δ a) {o:Oper} {io:Rq} {d:Option DU} (hd:GX G a o d) (hc:Gn P o.op io=true) {σ':Sg} (he:ES G io d (λs=>(δ s).er)=some σ'):LN P G w S Fr a o σ':=by
 have val:∀{v:AV},(∀{d},ES G io (some d) (λs=>(δ s).er)=(match valOf io (λs=>(δ s).er)with|some v=>wr d v (λs=>(δ s).er)|none=>none))->(ES G io none (λs=>(δ s).er)=none)->
  (∀v,valOf io (λs=>(δ s).er)=some v->Gives P w S δ a o v)->LN P G w S Fr a o σ':=by
  intro _ h1 h2 h3
  cases d with
  |none=>rw[h2]at he;cases he
  |some d=>
   rw[h1]at he
   split at he
   . rename_i v hv;exact SU h ha hd (h3 v hv) he
   . cases he
 have some_dst:∀{io:Rq},(ES G io none (λs=>(δ s).er)=none)->ES G io d (λs=>(δ s).er)=some σ'->∃d',d=some d':=by
  intro io h1 h2
  cases d with
  |none=>rw[h1]at h2;cases h2
  |some d=>exact⟨d,rfl⟩
 unfold Gn at hc
 split at hc
 . rename_i x y ho;exact val (v:=.dead) rfl rfl λv hv=>NM h ha (.inl ho) hc hv
 . rename_i x y ho
   obtain⟨d',rfl⟩:=some_dst rfl he
   exact kD h ha hd ho hc he
 . rename_i x y ho;exact val (v:=.dead) rfl rfl λv hv=>NM h ha (.inr ho) hc hv
 . rename_i c x y c' x' y' ho
   simp only[Bool.and_eq_true]at hc
   exact val (v:=.dead) rfl rfl λv hv=>Wr h ha ho hc.1.1 hc.1.2 hc.2 hv
 . rename_i t n z ho
   simp only[Bool.and_eq_true]at hc
   obtain⟨h1,h2⟩:=hc
   split at h2
   . rename_i v D hv hD
     obtain⟨i,hi,hz⟩:=Option.bind_eq_some_iff.1 hv
     obtain⟨d',rfl⟩:=some_dst rfl he
     refine Xy (t:=t) (y:=.c z) h hSlt ha hd ⟨D,hD⟩ ?_ he
     have:=Zb (P:=P) t i v hi hz w
     simp only[execOp,ho,Sem.run_bind,this,Result.andThen_ok,Sem.run_pure,CY,hD,Vh h2]
   . cases h2
 . rename_i t x n y ho
   simp only[Bool.and_eq_true]at hc
   obtain⟨hy,hev⟩:=Aa hc.2 ha
   obtain⟨d',rfl⟩:=some_dst rfl he
   refine Xy (t:=t) h hSlt ha hd hy ?_ he
   simp only[execOp,ho,Sem.run_bind,Xx,Result.andThen_ok,Sem.run_pure,hev]
 . rename_i t parts z ps ho
   split at hc
   . rename_i v zd hv hz
     simp only[Bool.and_eq_true]at hc
     obtain⟨⟨⟨h1,h2⟩,h3⟩,h4⟩:=hc
     obtain⟨i,hi,hz0⟩:=Option.bind_eq_some_iff.1 hv
     obtain⟨d',rfl⟩:=some_dst rfl he
     refine eH h ha hd ho hz h2 h4 (λcells hf=> ?_) he
     refine run_build hi hz0 h3 cells ?_
     have:=Kr h1
     have e:v.cells=(zd.map DV.Al).toArray:=by apply Array.ext';simpa using this
     rw[e]
     simpa using hf
   . cases hc
 . rename_i t len parts k z ps ho
   split at hc
   . rename_i e hu
     simp only[Bool.and_eq_true,decide_eq_true_eq]at hc
     obtain⟨⟨h1,h2⟩,h3⟩:=hc
     split at h3
     . rename_i v zd hv hz
       simp only[Bool.and_eq_true,beq_iff_eq]at h3
       obtain⟨⟨⟨g1,g2⟩,g3⟩,g4⟩:=h3
       obtain⟨i,hi,hz0⟩:=Option.bind_eq_some_iff.1 hv
       obtain⟨d',rfl⟩:=some_dst rfl he
       refine eJ (e:=e) h hSlt ha hd ho hz (λr hr=>by rw[List.all_eq_true]at g3;simpa using g3 r hr) g2 g4 (λcells hf=> ?_) he
       refine RO hu (OY h1) h2 hi hz0 cells ?_
       rw[Kr g1]
       simpa using hf
     . cases h3
   . cases hc
 . rename_i t x g n y ho
   simp only[Bool.and_eq_true,Bool.or_eq_true,beq_iff_eq]at hc
   exact val (v:=.dead) rfl rfl λv hv=>NN h ha ho hc.1.1.1 hc.1.1.2 hc.1.2 hc.2 hv
 . rename_i t x u n y z ho
   simp only[Bool.and_eq_true,beq_iff_eq]at hc
   cases d with
   |some d=>simp[ES,valOf]at he
   |none=>exact Xz h ha hd ho hc.1.1 hc.1.2 hc.2 he
 . rename_i t x f off y ho
   simp only[Bool.and_eq_true]at hc
   obtain⟨h1,h2⟩:=hc
   split at h1
   . rename_i fs hu
     split at h1
     . rename_i fd hf
       simp only[Bool.and_eq_true,beq_iff_eq]at h1
       obtain⟨g1,g2⟩:=h1
       split at g2
       . rename_i n hn
         simp only[bne_iff_ne]at g2
         exact val (v:=.dead) rfl rfl λv hv=>Sv h ha ho hu hf g1 hn g2 h2 hv
       . cases g2
     . cases h1
   . cases h1
 . rename_i t x i k y j ho
   simp only[Bool.and_eq_true]at hc
   obtain⟨⟨h1,h2⟩,h3⟩:=hc
   split at h1
   . rename_i e hu
     exact val (v:=.dead) rfl rfl λv hv=>Sw h ha ho hu (OY h1) h2 h3 hv
   . cases h1
 . rename_i t x i len k y j ho
   simp only[Bool.and_eq_true]at hc
   obtain⟨⟨h1,h2⟩,h3⟩:=hc
   split at h1
   . rename_i n e hu
     simp only[Bool.and_eq_true,beq_iff_eq]at h1
     obtain⟨rfl,g2⟩:=h1
     exact val (v:=.dead) rfl rfl λv hv=>Yt h ha ho hu g2 h2 h3 hv
   . cases h1
 . rename_i t x y k bytes z x' y' ho
   simp only[Bool.and_eq_true]at hc
   obtain⟨⟨h1,h2⟩,h3⟩:=hc
   split at h1
   . rename_i e hu
     split at h1
     . rename_i i hi
       simp only[Bool.and_eq_true,beq_iff_eq,decide_eq_true_eq]at h1
       obtain⟨⟨⟨⟨⟨g1,g2⟩,g3⟩,g4⟩,g5⟩,g6⟩:=h1
       split at g6
       . rename_i v zd hv hz
         obtain⟨d',rfl⟩:=some_dst rfl he
         exact kC h hSlt ha hd ho hu hi hv g1 g2 g3 g4 hz (Kr g6) g5 h2 h3 he
       . cases g6
     . cases h1
   . cases h1
 . rename_i t x f agg off n y ho
   simp only[Bool.and_eq_true]at hc
   obtain⟨h1,h2⟩:=hc
   split at h1
   . rename_i fs hu
     split at h1
     . rename_i fd hf
       simp only[Bool.and_eq_true,beq_iff_eq,Bool.or_eq_true]at h1
       obtain⟨⟨⟨g1,g2⟩,g3⟩,g4⟩:=h1
       exact val (v:=.dead) rfl rfl λv hv=>Yy h ha ho hu hf g1 g2 g3 g4 h2 hv
     . cases h1
   . cases h1
 . rename_i t x i agg len k y j ho
   simp only[Bool.and_eq_true]at hc
   obtain⟨⟨h1,h2⟩,h3⟩:=hc
   split at h1
   . rename_i n e hu
     simp only[Bool.and_eq_true,beq_iff_eq,Bool.or_eq_true]at h1
     obtain⟨⟨⟨rfl,g2⟩,g3⟩,g4⟩:=h1
     exact val (v:=.dead) rfl rfl λv hv=>Yz h ha ho hu g2 g3 g4 h2 h3 hv
   . cases h1
 . rename_i t x i y j ho
   simp only[Bool.and_eq_true]at hc
   obtain⟨⟨h1,h2⟩,h3⟩:=hc
   split at h1
   . rename_i hu
     exact val (v:=.dead) rfl rfl λv hv=>Wu h ha ho hu h2 h3 hv
   . cases h1
 . rename_i op t x y u op' x' y' ho
   simp only[Bool.and_eq_true,decide_eq_true_eq]at hc
   obtain⟨⟨rfl,h2⟩,h3⟩:=hc
   exact val (v:=.dead) rfl rfl λv hv=>Yv h ha ho h2 h3 hv
 . rename_i op t x y u neg x' y' ho
   simp only[Bool.and_eq_true,decide_eq_true_eq]at hc
   obtain⟨⟨⟨h1,h2⟩,h3⟩,h4⟩:=hc
   split at h2
   . rename_i hu
     exact val (v:=.dead) rfl rfl λv hv=>Yu h ha ho h1 hu h3 h4 hv
   . cases h2
 . rename_i op t x y u neg kd x' y' ho
   simp only[Bool.and_eq_true,decide_eq_true_eq]at hc
   obtain⟨⟨⟨h1,h2⟩,h3⟩,h4⟩:=hc
   exact val (v:=.dead) rfl rfl λv hv=>Wt h ha ho h1 h2 h3 h4 hv
 . rename_i t x y ho
   simp only[Bool.and_eq_true,beq_iff_eq]at hc
   exact val (v:=.dead) rfl rfl λv hv=>NN h ha ho hc.1.1 hc.1.2 (.inr rfl) hc.2 (dG hv)
 . rename_i t x u y z ho
   simp only[Bool.and_eq_true,beq_iff_eq]at hc
   cases d with
   |some d=>simp[ES,valOf]at he
   |none=>exact Xz h ha hd ho hc.1.1 hc.1.2 hc.2 (sU he)
 . rename_i x y ho;exact val (v:=.dead) rfl rfl λv hv=>Wq h ha ho hc hv
 . rename_i f first caps f' ys ho
   simp only[Bool.and_eq_true,beq_iff_eq]at hc
   obtain⟨⟨rfl,h1⟩,h2⟩:=hc
   exact val (v:=.dead) rfl rfl λv hv=>Sx h ha ho (by simpa using h1) h2 hv
 . rename_i op t x op' y ho
   simp only[Bool.and_eq_true,decide_eq_true_eq]at hc
   obtain⟨rfl,h2⟩:=hc
   exact val (v:=.dead) rfl rfl λv hv=>cU h ha ho h2 hv
 . rename_i s t x k y ho
   simp only[Bool.and_eq_true]at hc
   obtain⟨h1,h2⟩:=hc
   split at h1
   . rename_i k0 k' hs ht
     simp only[decide_eq_true_eq]at h1
     subst h1
     exact val (v:=.dead) rfl rfl λv hv=>Yw h ha ho hs ht h2 hv
   . cases h1
 . rename_i c y ho
   split at hc
   . rename_i x t g1 g2 g3
     simp only[Bool.and_eq_true]at hc
     obtain⟨h1,h2⟩:=hc
     split at h1
     . rename_i e hu
       exact val (v:=.dead) rfl rfl λv hv=>Y0 h ha ho g1 g2 g3 ⟨e,hu⟩ h2 hv
     . cases h1
   . cases hc
 . rename_i c y ho
   split at hc
   . rename_i x t g1 g2 g3
     simp only[Bool.and_eq_true]at hc
     obtain⟨h1,h2⟩:=hc
     split at h1
     . rename_i hu
       exact val (v:=.dead) rfl rfl λv hv=>Wv h ha ho g1 g2 g3 hu h2 hv
     . cases h1
   . cases hc
 . rename_i c mx x y ho
   split at hc
   . rename_i b u v hcal hargs
     simp only[Bool.and_eq_true]at hc
     obtain⟨⟨h1,h2⟩,h3⟩:=hc
     have hb:b=(if mx=true then .max else .min):=by
      split at h1
      . rfl
      . rfl
      . cases h1
     exact val (v:=.dead) rfl rfl λv hv=>cT h ha ho (by rw[hcal,hb]) hargs h2 h3 hv
   . cases hc
 . rename_i c k bytes x y ho
   split at hc
   . rename_i u v t t' g1 g2 g3
     simp only[Bool.and_eq_true,beq_iff_eq]at hc
     obtain⟨⟨⟨rfl,h1⟩,h2⟩,h3⟩:=hc
     split at h1
     . rename_i e hu
       split at h1
       . rename_i i hi
         simp only[Bool.and_eq_true,beq_iff_eq,decide_eq_true_eq]at h1
         obtain⟨⟨⟨k1,k2⟩,k3⟩,k4⟩:=h1
         split at k4
         . rename_i z hz
           simp only[beq_iff_eq]at k4
           obtain⟨d',rfl⟩:=some_dst rfl he
           exact eG h hSlt ha hd ho g1 (u7 g2) (u7 g3) hu hi k1 k2 k3 hz k4 h2 h3 he
         . cases k4
       . cases h1
     . cases h1
   . cases hc
 . rename_i t x lo hi mx k fr y lo' hi' mx' ho
   simp only[Bool.and_eq_true,Bool.or_eq_true,Option.isNone_iff_eq_none]at hc
   obtain⟨⟨⟨⟨⟨h1,h2⟩,h3⟩,h4⟩,h5⟩,h6⟩:=hc
   split at h1
   . rename_i e hu
     obtain⟨d',rfl⟩:=some_dst rfl he
     cases fr with
     |true=>exact Vf h ha hd ho hu (OY h1) h3 h4 h5 h6 (h2.imp id (by intro q hq;simp[hq]at q)) he
     |false=>exact Zc h ha hd ho hu (OY h1) h3 h4 h5 h6 (h2.imp id (by intro q hq;simp[hq]at q)) he
   . cases h1
 . rename_i x i y j ho
   simp only[Bool.and_eq_true,decide_eq_true_eq]at hc
   obtain⟨rfl,h2⟩:=hc
   exact val (v:=.dead) rfl rfl λv hv=>Yx h ha ho h2 hv
 . cases d<;>simp[ES,valOf]at he
 . cases hc
end Go.Abs
namespace Go.Abs
variable {w w':World} {S S':Nat->Prop} {G:Gi} {δ:Nat->DV} {Fr:Nat->Nat->Prop} {P:Program}
def Rel (G:Gi) (n:Nat) (w0:World) (S0 U0:Nat->Prop) (a:Act) (w:World) (σ:Sg):Prop:=
 ∃(S:Nat->Prop) (δ:Nat->DV) (F:Nat->Nat->Prop),a.tmps.size=n/\a.defers=[]/\Rd δ a/\(λs=>(δ s).er)=σ/\St G w S δ F/\Nx w0 S0 U0 w S (A3 F)/\(∀b,S b->b<w.heap.size)
def Sa (w0:World) (S0 U0:Nat->Prop):Prop:=GI w0 S0/\∀b,S0 b->¬U0 b/\b<w0.heap.size
theorem GI.mono (h:GI w S) (hS:∀b,S b->S' b):GI w S':=λx hx=>⟨hS _ (h x hx).1,(h x hx).2⟩
theorem Sa.now {w0:World} {S0 U0 U:Nat->Prop} (hG:Sa w0 S0 U0) (hnx:Nx w0 S0 U0 w S U):GI w S:=by
 intro x hx
 obtain⟨h1,arr,E,fz,h2,h3⟩:=hG.1 x hx
 obtain⟨h4,h5⟩:=hG.2 _ h1
 exact⟨hnx.sub _ h1,arr,E,fz,by rw[hnx.block _ h5 h4];exact h2,h3⟩
theorem Gv (h:St G w S δ Fr) {d:DV} {F:Nat->Prop} (hd:Ok w S d F) (hF:∀x,F x->A3 Fr x) (hal:Cd δ d) {a:AV} (hr:Nj (λs=>(δ s).er) d.er=some a):
 ∃D,D.er=a/\D.Al=d.Al/\Ok w (λx=>S x∨A3 Fr x) D (λ_=>False):=by
 have leafcase:∀(b:AV) (v:Value),Fz w (λx=>S x∨A3 Fr x) b v->CB b=true->(∀cs,b≠ .fp cs)->(b≠ .un)->∃D:DV,D.er=b/\D.Al=v/\Ok w (λx=>S x∨A3 Fr x) D (λ_=>False):=by
  intro b v hf hl hfp hun
  refine⟨.lf b v,by simp,by simp,.lf _ _ _ ?_ (λ_ h=>h)⟩
  cases b with
  |sc u=>cases hf with|sc _ hp=>exact⟨rfl,hp⟩
  |sl=>exact hf
  |dead=>trivial
  |cl=>trivial
  |vb=>cases hf
  |Wn=>cases hf
  |al=>trivial
  |HX=>trivial
  |fp cs=>exact absurd rfl (hfp cs)
  |un=>exact absurd rfl hun
  |own=>simp[CB]at hl
  |agg=>simp[CB]at hl
  |A9=>simp[CB]at hl
 have boxcase:∀{D:DV} {F':Nat->Prop} {k:Nat} {row:List AV},Ok w S D F'->(∀x,F' x->A3 Fr x)->D.er= .own true k [row]->∃D',D'.er= .fp (row.map Gj)/\D'.Al=D.Al/\Ok w (λx=>S x∨A3 Fr x) D' (λ_=>False):=by
  intro D F' k row hok hown hDe
  refine⟨.lf (.fp (row.map Gj)) D.Al,by simp,by simp,.lf _ _ _ ?_ (λ_ h=>h)⟩
  cases hok with
  |lf b v _ ha _=>simp only[Dj]at hDe;subst hDe;exact ha.elim
  |nil=>simp at hDe
  |agg=>simp at hDe
  |A9=>simp at hDe
  |own bx k' rows b c arr E Fs _ hb hk hcap hSb hv hr' hdd hval hbF hFF=>
   simp only[DL,AV.own.injEq]at hDe
   obtain⟨rfl,rfl,hrow⟩:=hDe
   refine⟨b,0,by simp[Gs],.inr (hown b ((hFF b).2 (.inl rfl))),λj a hj=> ?_⟩
   match rows,hrow with
   |[rowD],hrow=>
    simp only[List.map_cons,List.map_nil,List.cons.injEq,and_true]at hrow
    subst hrow
    simp only[List.map_map,List.getElem?_map]at hj
    cases hjd:rowD[j]? with
    |none=>simp[hjd]at hj
    |some d=>
     simp only[hjd,Option.map_some,Option.some.injEq,Function.comp]at hj
     subst hj
     refine⟨d.Al,?_,?_⟩
     . have:=hv 0 j rowD d rfl hjd
       simp only[World.cell?,hb]
       simpa using this
     . exact(hr' 0 j rowD d rfl hjd).freeze.mono (λ_ _=>rfl) (λx hx=>hx.imp id (λhf=>hown x ((hFF x).2 (.inr ⟨0,j,hf⟩))))
 cases hd with
 |lf b v _ ha hFF=>
  simp only[Dj]at hr
  cases b with
  |sc u=>simp only[Nj,Option.some.injEq]at hr;subst hr;obtain⟨rfl,hp⟩:=ha;exact leafcase _ _ (.sc _ hp) rfl (by simp) (by simp)
  |sl e k rows=>
   simp only[Nj,Option.some.injEq]at hr
   subst hr
   have hf:Fz w (λx=>S x∨A3 Fr x) (.sl false k rows) v:=by
    have hf':Fz w (λx=>S x∨A3 Fr x) (.sl e k rows) v:=Fz.mono ha (λ_ _=>rfl) (λ_ h=>.inl h)
    cases hf' with
    |nil x k a c hx=>exact .nil _ _ _ _ (by simp)
    |sl x k rows b off c vs hx hlc hS hk hc hr=>exact .sl _ _ _ b off c vs (by simp) hlc hS hk hc hr
   exact leafcase _ _ hf rfl (by simp) (by simp)
  |al r p=>
   simp only[Nj]at hr
   split at hr
   . rename_i k rows hn
     simp only[Option.some.injEq]at hr
     cases hal with
     |lf _ _ hl=>
      obtain⟨bx,k',rows',hl⟩:=hl
      obtain⟨D,hD,hDe⟩:=Cy (h.ok r).Hw hn
      rw[hl]at hD
      obtain rfl:=Option.some.inj hD
      obtain⟨F',hok,hsub⟩:=(h.ok r).Ai hl
      have hfz:=hok.freeze
      rw[hDe,hr]at hfz
      subst hr
      simp only[JL]at hfz ⊢
      exact leafcase _ _ (hfz.mono (λ_ _=>rfl) (λx hx=>hx.imp id (λhf=>⟨r,hsub x hf⟩))) rfl (by simp) (by simp)
   . rename_i k row hn
     simp only[Option.some.injEq]at hr
     cases hal with
     |lf _ _ hl=>
      obtain⟨bx,k',rows',hl⟩:=hl
      obtain⟨D,hD,hDe⟩:=Cy (h.ok r).Hw hn
      rw[hl]at hD
      obtain rfl:=Option.some.inj hD
      obtain⟨F',hok,hsub⟩:=(h.ok r).Ai hl
      subst hr
      obtain⟨D',q1,q2,q3⟩:=boxcase hok (λx hx=>⟨r,hsub x hx⟩) hDe
      exact⟨D',q1,by simpa using q2,q3⟩
   . cases hr
  |own=>exact ha.elim
  |fp cs=>
   simp only[Nj,Option.some.injEq]at hr
   subst hr
   exact⟨.lf (.fp cs) v,by simp,by simp,.lf _ _ _ (FG.mono (a:=.fp cs) ha (λ_ _=>rfl) (λ_ h=>.inl h)) (λ_ h=>h)⟩
  |_=>simp[Nj]at hr
 |nil k _ hFF=>
  simp only[DL,List.map_nil,Nj,Option.some.injEq]at hr
  subst hr
  simp only[JL,List.map_nil]
  exact leafcase _ _ (.nil false k none 0 (by simp)) rfl (by simp) (by simp)
 |own bx k rows b c arr E Fs _ hb hk hcap hSb hv hr' hdd hval hbF hFF=>
  have hok:=Ok.own bx k rows b c arr E Fs F hb hk hcap hSb hv hr' hdd hval hbF hFF
  have hfz:=hok.freeze
  cases bx with
  |true=>
   simp only[DL]at hr
   match rows,hr,hok with
   |[row],hr,hok=>
    simp only[List.map_cons,List.map_nil,Nj,Option.some.injEq]at hr
    subst hr
    exact boxcase (k:=k) hok hF (by simp)
   |[],hr,_=>simp[Nj]at hr
   |_::_::_,hr,_=>simp[Nj]at hr
  |false=>
   simp only[DL,Nj,Option.some.injEq]at hr
   rw[DL,hr]at hfz
   subst hr
   simp only[JL]at hfz ⊢
   exact leafcase _ _ (hfz.mono (λ_ _=>rfl) (λx hx=>hx.imp id (hF x))) rfl (by simp) (by simp)
 |agg=>simp[Nj]at hr
 |A9=>simp[Nj]at hr
theorem ZW (h:St G w S δ Fr) (ds:List DV):∀{l:List AV},(∀d∈ds,∃F,Ok w S d F/\∀x,F x->A3 Fr x)->(∀d∈ds,Cd δ d)->Z0 (λs=>(δ s).er) (ds.map DV.er)=some l->
 ∃Ds:List DV,Ds.map DV.er=l/\Ds.map DV.Al=ds.map DV.Al/\∀D∈Ds,Ok w (λx=>S x∨A3 Fr x) D (λ_=>False):=by
 induction ds with
 |nil=>intro l _ _ hr;simp only[List.map_nil,Z0,Option.some.injEq]at hr;subst hr;exact⟨[],rfl,rfl,by simp⟩
 |cons d ds ih=>
  intro l hok hal hr
  simp only[List.map_cons,Z0]at hr
  split at hr
  . rename_i x l' h1 h2
    simp only[Option.some.injEq]at hr
    subst hr
    obtain⟨F,g1,g2⟩:=hok d (by simp)
    obtain⟨D,k1,k2,k3⟩:=Gv h g1 g2 (hal d (by simp)) h1
    obtain⟨Ds,m1,m2,m3⟩:=ih (λe he=>hok e (by simp[he])) (λe he=>hal e (by simp[he])) h2
    refine⟨D::Ds,by simp[k1,m1],by simp[k2,m2],?_⟩
    intro e he
    simp only[List.mem_cons]at he
    rcases he with rfl|he
    . exact k3
    . exact m3 e he
  . cases hr
theorem TN (h:St G w S δ Fr) {d:DV} {F:Nat->Prop} (hd:Ok w S d F) (hF:∀x,F x->A3 Fr x) (hal:Cd δ d) {a:AV} (hr:VV (λs=>(δ s).er) d.er=some a):
 ∃D,D.er=a/\D.Al=d.Al/\Ok w (λx=>S x∨A3 Fr x) D (λ_=>False):=by
 cases hde:d.er with
 |agg cs=>
  obtain⟨ds,rfl⟩:∃ds,d= .agg ds:=by
   have:=hd.Hw
   cases d with
   |agg ds=>exact⟨ds,rfl⟩
   |lf c v=>cases this with|lf _ _ hl=>simp at hde;subst hde;simp[CB]at hl
   |own=>simp at hde
   |A9=>simp at hde
  simp only[E1,VV]at hr
  split at hr
  . rename_i l hl
    simp only[Option.some.injEq]at hr
    subst hr
    cases hd with
    |agg _ Fs _ h1 h2 h3 h4=>
     cases hal with
     |agg _ hal=>
      obtain⟨Ds,m1,m2,m3⟩:=ZW h ds (λe he=>by obtain⟨i,hi⟩:=List.getElem?_of_mem he;exact⟨Fs i,h1 i e hi,λx hx=>hF x ((h4 x).2 ⟨i,hx⟩)⟩) (λe he=>by obtain⟨i,hi⟩:=List.getElem?_of_mem he;exact hal i e hi) hl
      exact⟨.agg Ds,by simp[m1],by simp[m2],BQ.2 (B4 m3)⟩
  . cases hr
 |al r p=>rw[hde]at hr;simp only[VV]at hr;rw[← hde]at hr;exact Gv h hd hF hal hr
 |own b k rows=>rw[hde]at hr;simp only[VV]at hr;rw[← hde]at hr;exact Gv h hd hF hal hr
 |sc v=>rw[hde]at hr;simp only[VV]at hr;rw[← hde]at hr;exact Gv h hd hF hal hr
 |sl e k rows=>rw[hde]at hr;simp only[VV]at hr;rw[← hde]at hr;exact Gv h hd hF hal hr
 |fp cs=>rw[hde]at hr;simp only[VV]at hr;rw[← hde]at hr;exact Gv h hd hF hal hr
 |_=>simp[hde,VV]at hr
theorem Ni (h:St G w S δ Fr) {a:Act} (ha:Rd δ a) (ys:List Ar):∀{xs:List Operand} {aZ9:List AV},FU xs ys=true->G5 (λs=>(δ s).er) ys=some aZ9->
 ∃Ds:List DV,Ds.map DV.er=aZ9/\Ds.map DV.Al=xs.map a.eval/\∀D∈Ds,Ok w (λx=>S x∨A3 Fr x) D (λ_=>False):=by
 induction ys with
 |nil=>
  intro xs aZ9 hc hr
  cases xs with
  |cons=>simp[FU]at hc
  |nil=>simp only[G5,Option.some.injEq]at hr;subst hr;exact⟨[],rfl,rfl,by simp⟩
 |cons y ys ih=>
  intro xs aZ9 hc hr
  cases xs with
  |nil=>simp[FU]at hc
  |cons x xs=>
   simp only[FU,Bool.and_eq_true]at hc
   obtain⟨hy,hev⟩:=Aa hc.1 ha
   simp only[G5]at hr
   split at hr
   . rename_i b l h1 h2
     simp only[Option.some.injEq]at hr
     subst hr
     obtain⟨D,k1,k2,k3⟩:∃D,D.er=b/\D.Al=CY δ y/\Ok w (λx=>S x∨A3 Fr x) D (λ_=>False):=by
      cases y with
      |t s=>exact TN h (h.ok s) (λx hx=>⟨s,hx⟩) (h.al s) h1
      |c c=>
       obtain⟨D0,hD0⟩:=hy
       obtain⟨e1,e2,e3,_⟩:=GC (w:=w) (S:=S) (δ:=δ) c D0 hD0
       simp only[ar]at h1
       rw[← e1]at h1
       obtain⟨D,k1,k2,k3⟩:=TN h e2 (λ_ h=>h.elim) e3 h1
       exact⟨D,k1,by rw[k2];simp[CY,hD0],k3⟩
     obtain⟨Ds,m1,m2,m3⟩:=ih hc.2 h2
     refine⟨D::Ds,by simp[k1,m1],by simp[k2,m2,hev],?_⟩
     intro e he
     simp only[List.mem_cons]at he
     rcases he with rfl|he
     . exact k3
     . exact m3 e he
   . cases hr
theorem MS {d:DV} {F:Nat->Prop} (h:Ok w S d F):∃D,D.er=Gj d.er/\D.Al=d.Al/\Ok w (λx=>S x∨F x) D (λ_=>False)/\Cd δ D:=by
 induction h with
 |lf a v F ha hF=>
  have hl:=ha.CB
  cases a with
  |sc u=>exact⟨.lf (.sc u) v,by simp,by simp,.lf _ _ _ ha (λ_ h=>h),.lf _ _ trivial⟩
  |sl e k rows=>exact⟨.lf (.sl e k rows) v,by simp,by simp,.lf _ _ _ (Fz.mono ha (λ_ _=>rfl) (λ_ h=>.inl h)) (λ_ h=>h),.lf _ _ trivial⟩
  |own=>exact ha.elim
  |agg=>exact ha.elim
  |A9=>exact ha.elim
  |_=>exact⟨.lf .dead v,by simp[Gj],by simp,.lf _ _ _ trivial (λ_ h=>h),.lf _ _ trivial⟩
 |nil k F hF=>exact⟨.lf (.sl false k []) (.slice none 0 0),by simp,by simp,.lf _ _ _ (Fz.nil false k none 0 (by simp)) (λ_ h=>h),.lf _ _ trivial⟩
 |own bx k rows b c arr E Fs F hb hk hcap hSb hv hr hd hval hbF hF ih=>
  have hfz:=(Ok.own bx k rows b c arr E Fs F hb hk hcap hSb hv hr hd hval hbF hF).freeze
  cases bx with
  |true=>exact⟨.lf .dead (Gs true b rows.length c),by simp,by simp,.lf _ _ _ trivial (λ_ h=>h),.lf _ _ trivial⟩
  |false=>
   simp only[DL,JL,Hs]at hfz ⊢
   exact⟨.lf (.sl false k (List.map (λ(x:List AV)=>List.map Gj x) (List.map (λ(x:List DV)=>List.map DV.er x) rows))) (Gs false b rows.length c),by rw[Dj],by simp,.lf _ _ _ hfz (λ_ h=>h),.lf _ _ trivial⟩
 |agg cs Fs F hr hd hval hF ih=>
  obtain⟨Ds,hl,hDs⟩:=Hm cs (λi d D=>D.er=Gj d.er/\D.Al=d.Al/\Ok w (λx=>S x∨F x) D (λ_=>False)/\Cd δ D) (by
   intro i d hdi
   obtain⟨D,h1,h2,h3,h4⟩:=ih i d hdi
   exact⟨D,h1,h2,h3.mono (λ_ _=>rfl) (λ_ _=>rfl) (λx hx=>hx.imp id (λh=>(hF x).2 ⟨i,h⟩)) (λ_ h=>h.elim),h4⟩)
  refine⟨.agg Ds,?_,?_,BQ.2 (B4 λD hD=> ?_),.agg _ λi D hD=> ?_⟩
  . simp only[E1,Xl,AV.agg.injEq,List.map_map]
    exact map_mk hl hDs _ _ (by simp) λi c D hΦ hc=>by simp[hc,hΦ.1]
  . simp only[G0];congr 2
    exact map_mk hl hDs _ _ (by simp) λi c D hΦ hc=>by simp[hc,hΦ.2.1]
  . obtain⟨i,hi⟩:=List.getElem?_of_mem hD;obtain⟨c,_,hΦ⟩:=mem_mk hl hDs i D hi;exact hΦ.2.2.1
  . obtain⟨c,_,hΦ⟩:=mem_mk hl hDs i D hD;exact hΦ.2.2.2
 |A9 cs Fs F hr hd hval hF ih=>
  obtain⟨Ds,hl,hDs⟩:=Hm cs (λi d D=>D.er=Gj d.er/\D.Al=d.Al/\Ok w (λx=>S x∨F x) D (λ_=>False)/\Cd δ D) (by
   intro i d hdi
   obtain⟨D,h1,h2,h3,h4⟩:=ih i d hdi
   exact⟨D,h1,h2,h3.mono (λ_ _=>rfl) (λ_ _=>rfl) (λx hx=>hx.imp id (λh=>(hF x).2 ⟨i,h⟩)) (λ_ h=>h.elim),h4⟩)
  refine⟨.A9 Ds,?_,?_,A4.2 (B4 λD hD=> ?_),.A9 _ λi D hD=> ?_⟩
  . simp only[Gh,Xn,AV.A9.injEq,List.map_map]
    exact map_mk hl hDs _ _ (by simp) λi c D hΦ hc=>by simp[hc,hΦ.1]
  . simp only[Ht];congr 2
    exact map_mk hl hDs _ _ (by simp) λi c D hΦ hc=>by simp[hc,hΦ.2.1]
  . obtain⟨i,hi⟩:=List.getElem?_of_mem hD;obtain⟨c,_,hΦ⟩:=mem_mk hl hDs i D hi;exact hΦ.2.2.1
  . obtain⟨c,_,hΦ⟩:=mem_mk hl hDs i D hD;exact hΦ.2.2.2
theorem MN (l:List AV):KM l=l.all fresh:=by
 induction l with
 |nil=>rfl
 |cons a l ih=>simp[KM,ih]
theorem Wo (l:List (List AV)):MQ l=l.all (·.all fresh):=by
 induction l with
 |nil=>rfl
 |cons a l ih=>simp[MQ,MN,ih]
@[simp]theorem fresh_sc (v:Value):fresh (.sc v)=true:=by simp[fresh]
@[simp]theorem Ys (b:Bool) (k:Nat) (rows:List (List AV)):fresh (.own b k rows)=rows.all (·.all fresh):=by simp[fresh,Wo]
@[simp]theorem OQ (cs:List AV):fresh (.agg cs)=cs.all fresh:=by simp[fresh,MN]
@[simp]theorem OR (cs:List AV):fresh (.A9 cs)=cs.all fresh:=by simp[fresh,MN]
theorem NK {d:DV} {F:Nat->Prop} (h:Ok w S d F):fresh d.er=true->(∀x,F x->¬S' x)->Ok w S' d F:=by
 induction h with
 |lf a v F ha hF=>
  intro hf hn
  simp only[Dj]at hf
  cases a with
  |sc u=>exact .lf _ _ _ ha hF
  |own=>exact ha.elim
  |agg=>exact ha.elim
  |A9=>exact ha.elim
  |_=>simp[fresh]at hf
 |nil k F hF=>intro _ _;exact .nil k F hF
 |own bx k rows b c arr E Fs F hb hk hcap hSb hv hr hd hval hbF hF ih=>
  intro hf hn
  simp only[DL,Ys,List.all_map,List.all_eq_true]at hf
  refine .own bx k rows b c arr E Fs F hb hk hcap (hn b ((hF b).2 (.inl rfl))) hv (λi j row d h1 h2=>ih i j row d h1 h2 ?_ ?_) hd hval hbF hF
  . have:=hf row (List.mem_of_getElem? h1)
    simp only[Function.comp,List.all_map,List.all_eq_true]at this
    exact this d (List.mem_of_getElem? h2)
  . exactλx hx=>hn x ((hF x).2 (.inr ⟨i,j,hx⟩))
 |agg cs Fs F hr hd hval hF ih=>
  intro hf hn
  simp only[E1,OQ,List.all_map,List.all_eq_true]at hf
  exact .agg cs Fs F (λi d h1=>ih i d h1 (hf d (List.mem_of_getElem? h1)) (λx hx=>hn x ((hF x).2 ⟨i,hx⟩))) hd hval hF
 |A9 cs Fs F hr hd hval hF ih=>
  intro hf hn
  simp only[Gh,OR,List.all_map,List.all_eq_true]at hf
  exact .A9 cs Fs F (λi d h1=>ih i d h1 (hf d (List.mem_of_getElem? h1)) (λx hx=>hn x ((hF x).2 ⟨i,hx⟩))) hd hval hF
theorem Qa {a:AV} (h:Ss a=true):fresh a=true:=by
 cases a with
 |sc=>simp
 |agg cs=>
  simp only[Ss,List.all_eq_true]at h
  simp only[OQ,List.all_eq_true]
  intro c hc
  have:=h c hc
  cases c<;>simp_all
 |A9 cs=>
  simp only[Ss,List.all_eq_true]at h
  simp only[OR,List.all_eq_true]
  intro c hc
  have:=h c hc
  cases c<;>simp_all
 |_=>simp[Ss]at h
theorem NJ {d:DV} {F:Nat->Prop} (h:Ok w S d F):fresh d.er=true->Cd δ d:=by
 induction h with
 |lf a v F ha hF=>
  intro hf
  simp only[Dj]at hf
  refine .lf a v ?_
  cases a<;>simp_all [fresh,Ip]
 |nil=>intro _;exact .own _ _ _ _
 |own=>intro _;exact .own _ _ _ _
 |agg cs Fs F hr hd hval hF ih=>
  intro hf
  simp only[E1,OQ,List.all_map,List.all_eq_true]at hf
  exact .agg cs λi d h1=>ih i d h1 (hf d (List.mem_of_getElem? h1))
 |A9 cs Fs F hr hd hval hF ih=>
  intro hf
  simp only[Gh,OR,List.all_map,List.all_eq_true]at hf
  exact .A9 cs λi d h1=>ih i d h1 (hf d (List.mem_of_getElem? h1))
theorem Uy {d:DV} {F:Nat->Prop} (h:Ok w S d F) (hc:clean d.er=true):Cd δ d:=by
 have leaf:∀{e:DV},Sc e->HK e.er=true->Cd δ e:=by
  intro e hl hc
  cases hl with
  |lf a v hl=>refine .lf _ _ ?_;simp only[Dj]at hc;cases a<;>simp_all [HK,Ip]
  |own=>exact .own _ _ _ _
  |agg=>simp[HK]at hc
  |A9=>simp[HK]at hc
 have aggc:∀{cs:List DV},(∀(i:Nat) d,cs[i]? =some d->Sc d)->(cs.map DV.er).all HK=true->Cd δ (.agg cs):=by
  intro cs hr hc
  refine .agg _ λi e hi=>leaf (hr i e hi) ?_
  rw[List.all_eq_true]at hc
  exact hc _ (List.mem_map_of_mem (List.mem_of_getElem? hi))
 have hl:=h.Hw
 cases hl with
 |lf a v hl=>
  refine leaf (.lf a v hl) ?_
  simp only[Dj]at hc ⊢
  cases a<;>simp_all [clean,HK,CB]
 |own=>exact .own _ _ _ _
 |agg cs hr=>simp only[E1,clean]at hc;exact aggc hr hc
 |A9 cs hr=>
  simp only[Gh,clean]at hc
  refine .A9 _ λi e hi=> ?_
  rw[List.all_eq_true]at hc
  have he:=hc _ (List.mem_map_of_mem (List.mem_of_getElem? hi))
  have hle:=hr i e hi
  cases hle with
  |lf a v hl=>refine leaf (.lf a v hl) ?_;simp only[Dj]at he ⊢;cases a<;>simp_all [HK,CB]
  |own=>exact .own _ _ _ _
  |agg cs hr=>simp only[E1]at he;exact aggc hr he
  |A9=>simp[HK]at he
theorem RP {a:Act} {o:Oper} {c:Call} {f:Nat} {fn:Func} (ho:o.op= .call c) (hc:c.callee= .value (.func f)) (hf:P.funcs[f]? =some fn) (hb:fn.body.isSome=true) (hn:(fn.name != "runtime.NumGoroutine")=true):
 (execOp a.eval o).run P w= .ok (.enter f (c.args.toList.map a.eval).toArray) w:=by
 have hbn:fn.body.isNone=false:=by cases h:fn.body<;>simp_all
 have hnm:(fn.name== "runtime.NumGoroutine")=false:=by simpa using hn
 have harr:c.args.map a.eval=(c.args.toList.map a.eval).toArray:=by apply Array.ext';simp
 simp only[execOp,ho,resolve,hc,Act.eval,Deferred.ofValue,Sem.run_bind,Sem.run_pure,Result.andThen_ok,invoke,callFunc,harr]
 have hp:(program).run P w= .ok P w:=rfl
 rw[hp]
 simp only[Result.andThen_ok,hf,hnm,hbn,Bool.false_eq_true,if_false,Sem.run_pure]
 simp
def Hu (P:Program):Op->Nat->List Ar->Nat->Bool
 | .call c,f,args,m=>(match c.callee with
  | .value (.func g)=>f==g&&(match P.funcs[f]? with|some fn=>fn.body.isSome&&fn.name != "runtime.NumGoroutine" |none=>false)&&decide (m<5)&&FU c.args.toList args
  |_=>false)
 |_,_,_,_=>false
theorem U8 {d:DV} {F:Nat->Prop} (h:Ok w S d F):∃D,D.er=Zx d.er/\D.Al=d.Al/\Ok w (λx=>S x∨F x) D (λ_=>False):=by
 have leaf:∀{e:DV} {F1:Nat->Prop},Ok w S e F1->(∀x,F1 x->F x)->∃D:DV,D.er=rT e.er/\D.Al=e.Al/\Ok w (λx=>S x∨F x) D (λ_=>False):=by
  intro e F1 he hsub
  obtain⟨D,h1,h2,h3,_⟩:=MS (δ:=λ_=>default) he
  have h3':Ok w (λx=>S x∨F x) D (λ_=>False):=h3.mono (λ_ _=>rfl) (λ_ _=>rfl) (λx hx=>hx.imp id (hsub x)) (λ_ h=>h.elim)
  cases hee:e.er with
  |sl ee k rows=>
   rw[hee]at h1
   simp only[cQ]at h1
   refine⟨.lf (.sl false k rows) D.Al,by simp[rT],by simpa using h2,.lf _ _ _ ?_ (λ_ h=>h)⟩
   cases h3' with
   |lf a v _ ha _=>
    simp only[Dj]at h1
    subst h1
    simp only[Hk]
    have hf:Fz w (λx=>S x∨F x) (.sl ee k rows) v:=ha
    cases hf with
    |nil x k a c hx=>exact Fz.nil _ _ _ _ (by simp)
    |sl x k rows b off c vs hx hlc hS hk hc hr=>exact Fz.sl _ _ _ b off c vs (by simp) hlc hS hk hc hr
   |nil=>simp at h1
   |own=>simp at h1
   |agg=>simp at h1
   |A9=>simp at h1
  |_=>rw[hee]at h1;exact⟨D,by rw[h1];simp only[rT],h2,h3'⟩
 cases hde:d.er with
 |agg cs=>
  obtain⟨ds,rfl⟩:∃ds,d= .agg ds:=by
   have:=h.Hw
   cases d with
   |agg ds=>exact⟨ds,rfl⟩
   |lf c v=>cases this with|lf _ _ hl=>simp at hde;subst hde;simp[CB]at hl
   |own=>simp at hde
   |A9=>simp at hde
  simp only[E1,AV.agg.injEq]at hde
  subst hde
  cases h with
  |agg _ Fs _ h1 h2 h3 h4=>
   obtain⟨Ds,hl,hDs⟩:=Hm ds (λi d D=>D.er=rT d.er/\D.Al=d.Al/\Ok w (λx=>S x∨F x) D (λ_=>False)) (λi d hd=>leaf (h1 i d hd) (λx hx=>(h4 x).2 ⟨i,hx⟩))
   refine⟨.agg Ds,?_,?_,BQ.2 (B4 λD hD=> ?_)⟩
   . simp only[E1,Zx,AV.agg.injEq,List.map_map]
     exact map_mk hl hDs _ _ (by simp) λi c D hΦ hc=>by simp only[List.getElem?_map,hc,Option.map_some,Function.comp,hΦ.1]
   . simp only[G0];congr 2
     exact map_mk hl hDs _ _ (by simp) λi c D hΦ hc=>by simp[hc,hΦ.2.1]
   . obtain⟨i,hi⟩:=List.getElem?_of_mem hD;obtain⟨c,_,hΦ⟩:=mem_mk hl hDs i D hi;exact hΦ.2.2
 |_=>
  obtain⟨D,h1,h2,h3⟩:=leaf h (λ_ h=>h)
  refine⟨D,?_,h2,h3⟩
  rw[h1]
  simp only[hde,Zx]
theorem UJ {a:Act} (ys:List Ar):∀{xs:List Operand} {δ:Nat->DV} {Fr:Nat->Nat->Prop} {aZ9:List AV} {τ:Sg},St G w S δ Fr->Rd δ a->FU xs ys=true->Iu G ys (λs=>(δ s).er)=some (aZ9,τ)->
 ∃(δ':Nat->DV) (F':Nat->Nat->Prop) (Ds:List DV) (Fd:Nat->Prop),St G w S δ' F'/\(λs=>(δ' s).er)=τ/\(∀s,(δ' s).Al=(δ s).Al)/\Ds.map DV.er=aZ9/\Ds.map DV.Al=xs.map a.eval/\(∀D∈Ds,Ok w (λx=>S x∨Fd x) D (λ_=>False))/\
  (∀s x,F' s x->¬Fd x)/\(∀x,A3 F' x∨Fd x->A3 Fr x):=by
 induction ys with
 |nil=>
  intro xs δ Fr aZ9 τ h ha hc ht
  cases xs with
  |cons=>simp[FU]at hc
  |nil=>
   simp only[Iu,Option.some.injEq,Prod.mk.injEq]at ht
   obtain⟨rfl,rfl⟩:=ht
   exact⟨δ,Fr,[],λ_=>False,h,rfl,λ_=>rfl,rfl,rfl,by simp,λ_ _ _ h=>h,λx hx=>hx.elim id False.elim⟩
 |cons y ys ih=>
  intro xs δ Fr aZ9 τ h ha hc ht
  cases xs with
  |nil=>simp[FU]at hc
  |cons x xs=>
   simp only[FU,Bool.and_eq_true]at hc
   obtain⟨hy,hev⟩:=Aa hc.1 ha
   simp only[Iu]at ht
   split at ht
   . rename_i v τ1 ht1
     split at ht
     . rename_i l τ2 ht2
       simp only[Option.some.injEq,Prod.mk.injEq]at ht
       obtain⟨rfl,rfl⟩:=ht
       obtain⟨δ1,F1,D,Ff,hfl,her,hDe,hDa⟩:=h.tk hy ht1
       subst her
       subst hDe
       obtain⟨D',k1,k2,k3⟩:=U8 hfl.ok
       obtain⟨δ2,F2,Ds,Fd,m1,m2,m3,m4,m5,m6,m7,m8⟩:=ih hfl.st (λs=>(ha s).trans (hfl.Al s).symm) hc.2 ht2
       refine⟨δ2,F2,D'::Ds,λx=>Ff x∨Fd x,m1,m2,λs=>(m3 s).trans (hfl.Al s),by simp[k1,m4],by simp[k2,m5,hDa,hev],?_,?_,?_⟩
       . intro e he
         simp only[List.mem_cons]at he
         rcases he with rfl|he
         . exact k3.mono (λ_ _=>rfl) (λ_ _=>rfl) (λx hx=>hx.imp id .inl) (λ_ h=>h.elim)
         . exact(m6 e he).mono (λ_ _=>rfl) (λ_ _=>rfl) (λx hx=>hx.imp id .inr) (λ_ h=>h.elim)
       . rintro s x hx (h1|h1)
         . obtain⟨t,ht⟩:=m8 x (.inl ⟨s,hx⟩)
           exact hfl.I0 t x ht h1
         . exact m7 s x hx h1
       . rintro x (hx|hx|hx)
         . exact hfl.own x (.inl (m8 x (.inl hx)))
         . exact hfl.own x (.inr hx)
         . exact hfl.own x (.inl (m8 x (.inr hx)))
     . cases ht
   . cases ht
theorem JI {op:Op} {f m:Nat} {args:List Ar} (h:Hu P op f args m=true):∃c fn,op= .call c/\c.callee= .value (.func f)/\P.funcs[f]? =some fn/\fn.body.isSome=true/\(fn.name != "runtime.NumGoroutine")=true/\m<5/\FU c.args.toList args=true:=by
 cases op with
 |call c=>
  simp only[Hu]at h
  split at h
  . rename_i g hcal
    simp only[Bool.and_eq_true,beq_iff_eq,decide_eq_true_eq]at h
    obtain⟨⟨⟨rfl,hfn⟩,hm3⟩,hcl⟩:=h
    split at hfn
    . rename_i fn hf
      simp only[Bool.and_eq_true]at hfn
      exact⟨c,fn,rfl,hcal,hf,hfn.1,hfn.2,hm3,hcl⟩
    . cases hfn
  . cases h
 |_=>simp[Hu]at h
theorem ID {n:Nat} {w0:World} {S0 U0 S1 S2:Nat->Prop} {a:Act} {o:Oper} {dst:Option DU} {δ1:Nat->DV} {F1:Nat->Nat->Prop} {D:DV} {FD:Nat->Prop} {v:AV} {K:Sg->Prop} (hst:St G w S1 δ1 F1) (hn:a.tmps.size=n) (hdef:a.defers=[]) (ha:Rd δ1 a) (hd:GX G a o dst) (hDe:D.er=v)
 (hw:∀b,b<w.heap.size->w'.heap[b]? =w.heap[b]?) (hSlt:∀b,S1 b->b<w.heap.size) (hSS:∀b,S1 b->S2 b) (hS2:∀b,S2 b->S1 b∨w.heap.size≤b) (hS2lt:∀b,S2 b->b<w'.heap.size) (hD:Ok w' S2 D FD) (hFD:∀x,FD x->w.heap.size≤x) (hal:Cd δ1 D)
 (hnx:Nx w0 S0 U0 w S1 (A3 F1)) (hos:w'.os=w.os) (htp:w'.tape=w.tape) (hou:w'.output=w.output) (hsz:w.heap.size≤w'.heap.size)
 (hK:CJ dst v K (λs=>(δ1 s).er)):∃σ',Rel G n w0 S0 U0 (a.put o.dst D.Al) w' σ'/\K σ':=by
 have hf:∀s x,F1 s x->w'.heap[x]? =w.heap[x]? :=λs x hx=>hw x ((hst.ok s).lt x hx)
 have hfS:∀s x,F1 s x->¬S2 x:=by
  intro s x hx h2
  have hlt:=(hst.ok s).lt x hx
  rcases hS2 x h2 with h3|h3
  . exact(hst.ok s).D6 x hx h3
  . omega
 have hdis:∀s x,F1 s x->¬FD x:=by
  intro s x hx h2
  have hlt:=(hst.ok s).lt x hx
  have:=hFD x h2
  omega
 have hstep:∀F2:Nat->Nat->Prop,(∀x,A3 F2 x->A3 F1 x∨FD x)->Nx w0 S0 U0 w' S2 (A3 F2):=by
  intro F2 hF2
  refine hnx.trans ⟨hos,htp,hou,hsz,λb hb _=>hw b hb,hSS,λb hb=>(hS2 b hb).imp id .inr,λ_=>hS2lt,λx hx=>(hF2 x hx).imp id (hFD x)⟩
 cases dst with
 |none=>
  have h0:o.dst=none:=hd
  refine⟨_,⟨S2,δ1,F1,?_,?_,?_,rfl,hst.world (λb hb=>hw b (hSlt b hb)) hf hSS hfS,hstep F1 (λx hx=>.inl hx),hS2lt⟩,hK⟩
  . rw[h0];exact hn
  . rw[h0];exact hdef
  . rw[h0];exact ha
 |some d=>
  simp only[CJ]at hK
  split at hK
  . rename_i τ' hwr
    obtain⟨h1,h2,h3,h4⟩:=hd
    rw[← hDe]at hwr
    obtain⟨δ',F',hst',her,hann,hown⟩:=hst.wr h2 h3 (λb hb=>hw b (hSlt b hb)) hf hSS hfS hD hdis hal hwr
    refine⟨τ',⟨S2,δ',F',?_,?_,?_,her,hst',hstep F' hown,hS2lt⟩,hK⟩
    . rw[h1];simpa[Act.put]using hn
    . rw[h1];simpa[Act.put]using hdef
    . intro s
      rw[h1,GJ a d.d D.Al h4 s,hann s]
      split
      . rfl
      . exact ha s
  . exact hK.elim
theorem borrow {n:Nat} {w0:World} {S0 U0:Nat->Prop} {a:Act} {o:Oper} {dst:Option DU} {xs:List Operand} {args:List Ar} {aZ9:List AV} {res v:AV} {f:Nat} {K:Sg->Prop} {Q:Exit->Act->World->Prop} (hgi:GI w S) (hst:St G w S δ Fr) (hnx:Nx w0 S0 U0 w S (A3 Fr)) (hSlt:∀b,S b->b<w.heap.size) (hn:a.tmps.size=n) (hdef:a.defers=[]) (ha:Rd δ a) (hd:GX G a o dst)
 (hcl:FU xs args=true) (hr:G5 (λs=>(δ s).er) args=some aZ9) (hsays:Says P f aZ9 res) (hfr:fresh res=true) (hv:res=v)
 (hres:CJ dst v K (λs=>(δ s).er)):
 Calls P f (xs.map a.eval).toArray w λ
  | .returned v,w''=>(λa' w'=>∃σ',Rel G n w0 S0 U0 a' w' σ'/\K σ') (a.put o.dst v) w''
  | .panicked chain,w''=>Q (.panic chain) a w''
  | .outgrown,_=>LetsOut Q:=by
 obtain⟨Ds,hDe,hDa,hDok⟩:=Ni hst ha args hcl hr
 have hcalls:=hsays w (λx=>S x∨A3 Fr x) Ds (λ_=>False) (hgi.mono λ_ h=>.inl h) hDe (A4.2 (B4 hDok)) (by
  rintro b (hb|⟨s,hs⟩)
  . exact hSlt b hb
  . exact(hst.ok s).lt b hs)
 rw[hDa]at hcalls
 refine hcalls.mono ?_
 rintro e w' ⟨r,os,S',F',rfl,hre,hoe,hoa,hok,hext,hSS,hS',hS'lt,hF'⟩
 obtain⟨Fa,Fb,hra,_,_,hFab⟩:=A4.1 hok
 have hfa:∀x,Fa x->w.heap.size≤x:=λx hx=>(hF' x ((hFab x).2 (.inl hx))).resolve_left id
 have hok':Ok w' S r Fa:=NK hra (by rw[hre];exact hfr) (λx hx hs=>by have:=hSlt x hs;have:=hfa x hx;omega)
 simp only
 exact ID (S2:=S) hst hn hdef ha hd (hre.trans hv) (λb hb=>hext.block b hb id) hSlt (λ_ h=>h) (λ_ h=>.inl h) (λb hb=>Nat.lt_of_lt_of_le (hSlt b hb) hext.size) hok' hfa (NJ hra (by rw[hre];exact hfr)) hnx hext.os hext.tape hext.output hext.size hres
theorem Vo {a:Act} (ys:List Ar):∀{xs:List Operand} {δ:Nat->DV} {Fr:Nat->Nat->Prop} {aZ9:List AV} {τ:Sg},St G w S δ Fr->Rd δ a->FU xs ys=true->Lz G ys (λs=>(δ s).er)=some (aZ9,τ)->
 ∃(δ':Nat->DV) (F':Nat->Nat->Prop) (Ds:List DV) (Fd:Nat->Prop),St G w S δ' F'/\(λs=>(δ' s).er)=τ/\(∀s,(δ' s).Al=(δ s).Al)/\Ds.map DV.er=aZ9/\Ds.map DV.Al=xs.map a.eval/\HF w S Ds Fd/\
  (∀s x,F' s x->¬Fd x)/\(∀x,A3 F' x∨Fd x->A3 Fr x):=by
 induction ys with
 |nil=>
  intro xs δ Fr aZ9 τ h ha hc ht
  cases xs with
  |cons=>simp[FU]at hc
  |nil=>
   simp only[Lz,Option.some.injEq,Prod.mk.injEq]at ht
   obtain⟨rfl,rfl⟩:=ht
   exact⟨δ,Fr,[],λ_=>False,h,rfl,λ_=>rfl,rfl,rfl,λ_ h=>h,λ_ _ _ h=>h,λx hx=>hx.elim id False.elim⟩
 |cons y ys ih=>
  intro xs δ Fr aZ9 τ h ha hc ht
  cases xs with
  |nil=>simp[FU]at hc
  |cons x xs=>
   simp only[FU,Bool.and_eq_true]at hc
   obtain⟨hy,hev⟩:=Aa hc.1 ha
   simp only[Lz]at ht
   split at ht
   . rename_i v τ1 ht1
     split at ht
     . rename_i l τ2 ht2
       simp only[Option.some.injEq,Prod.mk.injEq]at ht
       obtain⟨rfl,rfl⟩:=ht
       obtain⟨δ1,F1,D,Ff,hfl,her,hDe,hDa⟩:=h.tk hy ht1
       subst her
       subst hDe
       obtain⟨δ2,F2,Ds,Fd,m1,m2,m3,m4,m5,m6,m7,m8⟩:=ih hfl.st (λs=>(ha s).trans (hfl.Al s).symm) hc.2 ht2
       have hdFd:∀x,Ff x->¬Fd x:=λx h1 h2=>by obtain⟨t,ht⟩:=m8 x (.inr h2);exact hfl.I0 t x ht h1
       refine⟨δ2,F2,D::Ds,λx=>Ff x∨Fd x,m1,m2,λs=>(m3 s).trans (hfl.Al s),by simp[m4],by simp[m5,hDa,hev],⟨Ff,Fd,hfl.ok,m6,hdFd,λx=>Iff.rfl⟩,?_,?_⟩
       . rintro s x hx (h1|h1)
         . obtain⟨t,ht⟩:=m8 x (.inl ⟨s,hx⟩)
           exact hfl.I0 t x ht h1
         . exact m7 s x hx h1
       . rintro x (hx|hx|hx)
         . exact hfl.own x (.inl (m8 x (.inl hx)))
         . exact hfl.own x (.inr hx)
         . exact hfl.own x (.inl (m8 x (.inr hx)))
     . cases ht
   . cases ht
theorem WR (h:St G w S δ Fr) (rs:List (Nat×List Step)):∀{vs:List Value} {css:List (List AV)},vs.length=rs.length->(∀(i:Nat) r p u,rs[i]? =some (r,p)->vs[i]? =some u->∃bx k rows,Ai (δ r) p=some (.own u bx k rows))->QP (λs=>(δ s).er) rs=some css->
 vs.length=css.length/\∀(i:Nat) cs u,css[i]? =some cs->vs[i]? =some u->Z7 w (λx=>S x∨A3 Fr x) cs u:=by
 induction rs with
 |nil=>
  intro vs css hl _ hr
  cases vs with
  |nil=>simp only[QP,Option.some.injEq]at hr;subst hr;exact⟨rfl,by simp⟩
  |cons=>simp at hl
 |cons x rs ih=>
  obtain⟨r,p⟩:=x
  intro vs css hl hv hr
  cases vs with
  |nil=>simp at hl
  |cons v vs=>
   simp only[QP]at hr
   split at hr
   . rename_i cs css' h1 h2
     simp only[Option.some.injEq]at hr
     subst hr
     obtain⟨bx,k,rows,hs⟩:=hv 0 r p v rfl rfl
     obtain⟨D,k1,k2,k3⟩:=Gv h (d:=.lf (.al r p) v) (F:=λ_=>False) (.lf _ _ _ trivial (λ_ h=>h)) (λ_ h=>h.elim) (.lf _ _ ⟨bx,k,rows,hs⟩) (by simpa using h1)
     obtain⟨m1,m2⟩:=ih (by simpa using hl) (λi r p u hi hu=>hv (i+1) r p u (by simpa using hi) (by simpa using hu)) h2
     refine⟨by simp[m1],λi cs' u hi hu=> ?_⟩
     cases i with
     |zero=>
      simp only[List.getElem?_cons_zero,Option.some.injEq]at hi hu
      subst hi;subst hu
      simp only[Hk]at k2
      cases k3 with
      |lf a v' _ ha _=>simp only[Dj]at k1;subst k1;simp only[Hk]at k2;subst k2;exact ha
      |nil=>simp at k1
      |own=>simp at k1
      |agg=>simp at k1
      |A9=>simp at k1
     |succ i=>exact m2 i cs' u (by simpa using hi) (by simpa using hu)
   . cases hr
theorem Ri {a:Act} (ys:List Ar):∀{xs:List Operand} {δ:Nat->DV} {Fr:Nat->Nat->Prop} {aZ9:List AV} {τ:Sg},St G w S δ Fr->Rd δ a->FU xs ys=true->Pn G ys (λs=>(δ s).er)=some (aZ9,τ)->
 ∃(δ':Nat->DV) (F':Nat->Nat->Prop) (Ds:List DV) (Fd:Nat->Prop),St G w S δ' F'/\(λs=>(δ' s).er)=τ/\(∀s,(δ' s).Al=(δ s).Al)/\Ds.map DV.er=aZ9/\Ds.map DV.Al=xs.map a.eval/\HF w (λx=>S x∨A3 F' x) Ds Fd/\
  (∀s x,F' s x->¬Fd x)/\(∀x,A3 F' x∨Fd x->A3 Fr x):=by
 induction ys with
 |nil=>intro xs δ Fr aZ9 τ h ha hc ht;simp[Pn]at ht
 |cons y ys ih=>
  intro xs δ Fr aZ9 τ h ha hc ht
  cases xs with
  |nil=>simp[FU]at hc
  |cons x xs=>
   simp only[FU,Bool.and_eq_true]at hc
   obtain⟨hy,hev⟩:=Aa hc.1 ha
   cases ys with
   |nil=>
    cases xs with
    |cons=>simp[FU]at hc
    |nil=>
     simp only[Pn]at ht
     split at ht
     . rename_i f rs hcl
       split at ht
       . rename_i css hcss
         simp only[Option.some.injEq,Prod.mk.injEq]at ht
         obtain⟨rfl,rfl⟩:=ht
         obtain⟨vs,hval,hvl,hvs⟩:Ip δ (.cl f rs) (CY δ y):=by
          cases y with
          |t s=>exact(h.leaf hcl rfl).2.2
          |c c0=>
           obtain⟨D0,hD0⟩:=hy
           simp only[ar]at hcl
           subst hcl
           simp[GR]at hD0
         obtain⟨k1,k2⟩:=WR h rs hvl hvs hcss
         refine⟨δ,Fr,[.lf (.Wn f css) (CY δ y)],λ_=>False,h,rfl,λ_=>rfl,by simp,by simp[hev],B4 (λD hD=> ?_),λ_ _ _ h=>h,λx hx=>hx.elim id False.elim⟩
         simp only[List.mem_singleton]at hD
         subst hD
         exact .lf _ _ _ ⟨vs,hval,k1,k2⟩ (λ_ h=>h)
       . cases ht
     . cases ht
   |cons y2 ys=>
    simp only[Pn]at ht
    split at ht
    . rename_i v τ1 ht1
      split at ht
      . rename_i l τ2 ht2
        simp only[Option.some.injEq,Prod.mk.injEq]at ht
        obtain⟨rfl,rfl⟩:=ht
        obtain⟨δ1,F1,D,Ff,hfl,her,hDe,hDa⟩:=h.tk hy ht1
        subst her
        subst hDe
        obtain⟨δ2,F2,Ds,Fd,m1,m2,m3,m4,m5,m6,m7,m8⟩:=ih hfl.st (λs=>(ha s).trans (hfl.Al s).symm) hc.2 ht2
        have hdFd:∀x,Ff x->¬Fd x:=λx h1 h2=>by obtain⟨t,ht⟩:=m8 x (.inr h2);exact hfl.I0 t x ht h1
        have hD':Ok w (λx=>S x∨A3 F2 x) D Ff:=hfl.ok.mono (λ_ _=>rfl) (λ_ _=>rfl) (λ_ h=>.inl h) (λx hx hs=>hs.elim (hfl.ok.D6 x hx) (λho=>by obtain⟨t,ht⟩:=m8 x (.inl ho);exact hfl.I0 t x ht hx))
        refine⟨δ2,F2,D::Ds,λx=>Ff x∨Fd x,m1,m2,λs=>(m3 s).trans (hfl.Al s),by simp[m4],by simp[m5,hDa,hev],⟨Ff,Fd,hD',m6,hdFd,λx=>Iff.rfl⟩,?_,?_⟩
        . rintro s x hx (h1|h1)
          . obtain⟨t,ht⟩:=m8 x (.inl ⟨s,hx⟩)
            exact hfl.I0 t x ht h1
          . exact m7 s x hx h1
        . rintro x (hx|hx|hx)
          . exact hfl.own x (.inl (m8 x (.inl hx)))
          . exact hfl.own x (.inr hx)
          . exact hfl.own x (.inl (m8 x (.inr hx)))
      . cases ht
    . cases ht
theorem WQ {n:Nat} {w0:World} {S0 U0:Nat->Prop} (hG:Sa w0 S0 U0) {a:Act} {σ:Sg} (h:Rel G n w0 S0 U0 a w σ) {o:Oper} {io:A7} {f m:Nat} {args:List Ar} (hio:io.op= .call f args m) (hchk:Hu P o.op f args m=true) (hd:GX G a o io.dst) {K:Sg->Prop} (hrun:C5 P G io K σ)
 (Q:Exit->Act->World->Prop):o.wp P a w (λa' w'=>∃σ',Rel G n w0 S0 U0 a' w' σ'/\K σ') Q:=by
 obtain⟨S,δ,Fr,hn,hdef,ha,rfl,hst,hnx,hSlt⟩:=h
 have hgi:=hG.now hnx
 obtain⟨c,fn,ho,hcal,hf,hfb,hfn,hm3,hcl⟩:=JI hchk
 unfold C5 at hrun
 rw[hio]at hrun
 simp only at hrun
 split at hrun
 . rename_i aZ9 τ hca
   obtain⟨res,hsays,hres⟩:=hrun
   split at hres
   . rename_i v hv
     unfold Oper.wp
     rw[RP ho hcal hf hfb hfn,Oper.upon_enter]
     match m,hm3,hca,hv with
     |1,_,hca,hv=>
      simp only[ER]at hca
      obtain⟨δ1,F1,Ds,Fd,hst1,her1,hann1,hDe,hDa,hDok,hdis,hown⟩:=UJ _ hst ha hcl hca
      subst her1
      have hFdlt:∀x,Fd x->x<w.heap.size:=λx hx=>by obtain⟨t,ht⟩:=hown x (.inr hx);exact(hst.ok t).lt x ht
      have hcalls:=hsays w (λx=>S x∨Fd x) Ds (λ_=>False) (hgi.mono λ_ h=>.inl h) hDe (A4.2 (B4 hDok)) (λb hb=>hb.elim (hSlt b) (hFdlt b))
      rw[hDa]at hcalls
      refine hcalls.mono ?_
      rintro e w' ⟨r,os,S',F',rfl,hre,hoe,hoa,hok,hext,hSS,hS',hS'lt,hF'⟩
      obtain⟨Fa,Fb,hra,_,_,hFab⟩:=A4.1 hok
      obtain⟨D,k1,k2,k3,k4⟩:=MS (δ:=δ1) hra
      simp only[Oi,Option.some.injEq]at hv
      have hfa:∀x,Fa x->w.heap.size≤x:=λx hx=>(hF' x ((hFab x).2 (.inl hx))).resolve_left id
      have hst1':St G w (λx=>S x∨Fd x) δ1 F1:=hst1.world (λ_ _=>rfl) (λ_ _ _=>rfl) (λ_ h=>.inl h) (λs x hx hs=>hs.elim ((hst1.ok s).D6 x hx) (hdis s x hx))
      have hnx1:Nx w0 S0 U0 w (λx=>S x∨Fd x) (A3 F1):=hnx.trans (Nx.Gj (λx hx=>hown x hx) hFdlt)
      simp only
      rw[← k2]
      refine ID (S2:=λx=>S' x∨Fa x) hst1' hn hdef (λs=>(ha s).trans (hann1 s).symm) hd (by rw[k1,hre];exact hv) (λb hb=>hext.block b hb id) (λb hb=>hb.elim (hSlt b) (hFdlt b)) (λb hb=>.inl (hSS b hb)) ?_ ?_ k3 (λ_ h=>h.elim) k4 hnx1 hext.os hext.tape hext.output hext.size hres
      . rintro b (hb|hb)
        . rcases hS' b hb with h1|h1|h1
          . exact .inl h1
          . exact h1.elim
          . exact .inr h1
        . exact .inr (hfa b hb)
      . rintro b (hb|hb)
        . exact hS'lt b hb
        . exact hra.lt b hb
     |0,_,hca,hv=>
      simp only[ER]at hca
      split at hca
      . rename_i l hr
        simp only[Option.some.injEq,Prod.mk.injEq]at hca
        obtain⟨rfl,rfl⟩:=hca
        simp only[Oi]at hv
        split at hv
        . rename_i hfl
          exact borrow hgi hst hnx hSlt hn hdef ha hd hcl hr hsays (Qa hfl) (Option.some.inj hv) hres
        . cases hv
      . cases hca
     |3,_,hca,hv=>
      simp only[ER]at hca
      obtain⟨δ1,F1,Ds,Fd,hst1,her1,hann1,hDe,hDa,hDok,hdis,hown⟩:=Vo _ hst ha hcl hca
      subst her1
      simp only[Oi]at hv
      split at hv
      . rename_i hfr
        obtain rfl:=Option.some.inj hv
        have hcalls:=hsays w S Ds Fd hgi hDe (A4.2 hDok) hSlt
        rw[hDa]at hcalls
        refine hcalls.mono ?_
        rintro e w' ⟨r,os,S',F',rfl,hre,hoe,hoa,hok,hext,hSS,hS',hS'lt,hF'⟩
        obtain⟨Fa,Fb,hra,_,_,hFab⟩:=A4.1 hok
        have hFa:∀x,Fa x->Fd x∨w.heap.size≤x:=λx hx=>hF' x ((hFab x).2 (.inl hx))
        have hlt1:∀s x,F1 s x->x<w.heap.size:=λs x hx=>(hst1.ok s).lt x hx
        have hwS:∀b,S b->w'.heap[b]? =w.heap[b]? :=λb hb=>hext.block b (hSlt b hb) λhf=>by
         obtain⟨t,ht⟩:=hown b (.inr hf);exact(hst.ok t).D6 b ht hb
        have hwF:∀s x,F1 s x->w'.heap[x]? =w.heap[x]? :=λs x hx=>hext.block x (hlt1 s x hx) (hdis s x hx)
        have hfS:∀s x,F1 s x->¬S' x:=by
         intro s x hx h'
         rcases hS' x h' with h1|h1|h1
         . exact(hst1.ok s).D6 x hx h1
         . exact hdis s x hx h1
         . have:=hlt1 s x hx;omega
        have Xp:∀s x,F1 s x->¬Fa x:=by
         intro s x hx h'
         rcases hFa x h' with h1|h1
         . exact hdis s x hx h1
         . have:=hlt1 s x hx;omega
        have hstep:∀F2:Nat->Nat->Prop,(∀x,A3 F2 x->A3 F1 x∨Fa x)->Nx w0 S0 U0 w' S' (A3 F2):=by
         intro F2 hF2
         refine hnx.trans ⟨hext.os,hext.tape,hext.output,hext.size,λb hb hno=>hext.block b hb λhf=>hno (hown b (.inr hf)),hSS,λb hb=>(hS' b hb).imp id (Or.imp (λh=>hown b (.inr h)) id),λ_=>hS'lt,λx hx=> ?_⟩
         rcases hF2 x hx with h1|h1
         . exact .inl (hown x (.inl h1))
         . exact(hFa x h1).imp (λh=>hown x (.inr h)) id
        have ha1:Rd δ1 a:=λs=>(ha s).trans (hann1 s).symm
        simp only
        cases hdst:io.dst with
        |none=>
         rw[hdst]at hd hres
         have h0:o.dst=none:=hd
         refine⟨_,⟨S',δ1,F1,?_,?_,?_,rfl,hst1.world hwS hwF hSS hfS,hstep F1 (λx hx=>.inl hx),hS'lt⟩,hres⟩
         . rw[h0];exact hn
         . rw[h0];exact hdef
         . rw[h0];exact ha1
        |some d=>
         rw[hdst]at hd hres
         simp only[CJ]at hres
         split at hres
         . rename_i τ' hwr
           obtain⟨h1,h2,h3,h4⟩:=hd
           rw[← hre]at hwr
           obtain⟨δ',F2,hst',her,hann,hown'⟩:=hst1.wr h2 h3 hwS hwF hSS hfS hra Xp (Uy hra (by rw[hre];exact hfr)) hwr
           refine⟨τ',⟨S',δ',F2,?_,?_,?_,her,hst',hstep F2 hown',hS'lt⟩,hres⟩
           . rw[h1];simpa[Act.put]using hn
           . rw[h1];simpa[Act.put]using hdef
           . intro s
             rw[h1,GJ a d.d r.Al h4 s,hann s]
             split
             . rfl
             . exact ha1 s
         . exact hres.elim
      . cases hv
     |4,_,hca,hv=>
      simp only[ER]at hca
      obtain⟨δ1,F1,Ds,Fd,hst1,her1,hann1,hDe,hDa,hDok,hdis,hown⟩:=Ri _ hst ha hcl hca
      subst her1
      simp only[Oi]at hv
      split at hv
      . rename_i hfr
        obtain rfl:=Option.some.inj hv
        have hlt1:∀s x,F1 s x->x<w.heap.size:=λs x hx=>(hst1.ok s).lt x hx
        have hcalls:=hsays w (λx=>S x∨A3 F1 x) Ds Fd (hgi.mono λ_ h=>.inl h) hDe (A4.2 hDok) (λb hb=>hb.elim (hSlt b) (λ⟨s,hs⟩=>hlt1 s b hs))
        rw[hDa]at hcalls
        refine hcalls.mono ?_
        rintro e w' ⟨r,os,S',F',rfl,hre,hoe,hoa,hok,hext,hSS,hS',hS'lt,hF'⟩
        obtain⟨Fa,Fb,hra0,_,_,hFab⟩:=A4.1 hok
        have hFa:∀x,Fa x->Fd x∨w.heap.size≤x:=λx hx=>hF' x ((hFab x).2 (.inl hx))
        have hFdS:∀x,Fd x->¬S x:=λx hf hs=>by obtain⟨t,ht⟩:=hown x (.inr hf);exact(hst.ok t).D6 x ht hs
        have hra:Ok w' S r Fa:=NK hra0 (by rw[hre];exact hfr) (λx hx hs=>(hFa x hx).elim (λh1=>hFdS x h1 hs) (λh1=>by have:=hSlt x hs;omega))
        have hwS:∀b,S b->w'.heap[b]? =w.heap[b]? :=λb hb=>hext.block b (hSlt b hb) λhf=>hFdS b hf hb
        have hwF:∀s x,F1 s x->w'.heap[x]? =w.heap[x]? :=λs x hx=>hext.block x (hlt1 s x hx) (hdis s x hx)
        have hfS:∀s x,F1 s x->¬S x:=λs x hx=>(hst1.ok s).D6 x hx
        have hSlt':∀b,S b->b<w'.heap.size:=λb hb=>Nat.lt_of_lt_of_le (hSlt b hb) hext.size
        have Xp:∀s x,F1 s x->¬Fa x:=by
         intro s x hx h'
         rcases hFa x h' with h1|h1
         . exact hdis s x hx h1
         . have:=hlt1 s x hx;omega
        have hstep:∀F2:Nat->Nat->Prop,(∀x,A3 F2 x->A3 F1 x∨Fa x)->Nx w0 S0 U0 w' S (A3 F2):=by
         intro F2 hF2
         refine hnx.trans ⟨hext.os,hext.tape,hext.output,hext.size,λb hb hno=>hext.block b hb λhf=>hno (hown b (.inr hf)),λ_ h=>h,λ_ h=>.inl h,λ_=>hSlt',λx hx=> ?_⟩
         rcases hF2 x hx with h1|h1
         . exact .inl (hown x (.inl h1))
         . exact(hFa x h1).imp (λh=>hown x (.inr h)) id
        have ha1:Rd δ1 a:=λs=>(ha s).trans (hann1 s).symm
        simp only
        cases hdst:io.dst with
        |none=>
         rw[hdst]at hd hres
         have h0:o.dst=none:=hd
         refine⟨_,⟨S,δ1,F1,?_,?_,?_,rfl,hst1.world hwS hwF (λ_ h=>h) hfS,hstep F1 (λx hx=>.inl hx),hSlt'⟩,hres⟩
         . rw[h0];exact hn
         . rw[h0];exact hdef
         . rw[h0];exact ha1
        |some d=>
         rw[hdst]at hd hres
         simp only[CJ]at hres
         split at hres
         . rename_i τ' hwr
           obtain⟨h1,h2,h3,h4⟩:=hd
           rw[← hre]at hwr
           obtain⟨δ',F2,hst',her,hann,hown'⟩:=hst1.wr h2 h3 hwS hwF (λ_ h=>h) hfS hra Xp (NJ hra (by rw[hre];exact hfr)) hwr
           refine⟨τ',⟨S,δ',F2,?_,?_,?_,her,hst',hstep F2 hown',hSlt'⟩,hres⟩
           . rw[h1];simpa[Act.put]using hn
           . rw[h1];simpa[Act.put]using hdef
           . intro s
             rw[h1,GJ a d.d r.Al h4 s,hann s]
             split
             . rfl
             . exact ha1 s
         . exact hres.elim
      . cases hv
     |2,_,hca,hv=>
      simp only[ER]at hca
      split at hca
      . rename_i l hr
        simp only[Option.some.injEq,Prod.mk.injEq]at hca
        obtain⟨rfl,rfl⟩:=hca
        simp only[Oi]at hv
        split at hv
        . rename_i hfl
          exact borrow hgi hst hnx hSlt hn hdef ha hd hcl hr hsays hfl (Option.some.inj hv) hres
        . cases hv
      . cases hca
   . exact hres.elim
 . exact hrun.elim
theorem Us {n:Nat} {w0:World} {S0 U0:Nat->Prop} (hG:Sa w0 S0 U0) {a:Act} {σ:Sg} (h:Rel G n w0 S0 U0 a w σ) {o:Oper} {io:A7} {f:Nat} {args:List Ar} (hio:io.op= .call f args 4) (hchk:Hu P o.op f args 4=true) (hd:GX G a o io.dst) {K:Sg->Prop} (hrun:C5 P G io K σ) {rr kb:Nat} (hbox:∀aZ9 τ,ER G 4 args σ=some (aZ9,τ)->∃rows,τ rr= .own true kb rows)
 (Q:Exit->Act->World->Prop):o.wp P a w (λa' w'=>(∃σ',Rel G n w0 S0 U0 a' w' σ'/\K σ')/\(∀b,a.tmps.getD rr undef= .pointer (some ⟨b,0,none⟩)->w'.heap[b]? =w.heap[b]?)/\∃u,a'=a.put o.dst u) Q:=by
 obtain⟨S,δ,Fr,hn,hdef,ha,rfl,hst,hnx,hSlt⟩:=h
 have hgi:=hG.now hnx
 obtain⟨c,fn,ho,hcal,hf,hfb,hfn,hm3,hcl⟩:=JI hchk
 unfold C5 at hrun
 rw[hio]at hrun
 simp only at hrun
 split at hrun
 . rename_i aZ9 τ hca
   obtain⟨res,hsays,hres⟩:=hrun
   split at hres
   . rename_i v hv
     unfold Oper.wp
     rw[RP ho hcal hf hfb hfn,Oper.upon_enter]
     have hca0:=hca
     simp only[ER]at hca
     obtain⟨δ1,F1,Ds,Fd,hst1,her1,hann1,hDe,hDa,hDok,hdis,hown⟩:=Ri _ hst ha hcl hca
     subst her1
     simp only[Oi]at hv
     split at hv
     . rename_i hfr
       obtain rfl:=Option.some.inj hv
       have hlt1:∀s x,F1 s x->x<w.heap.size:=λs x hx=>(hst1.ok s).lt x hx
       have hcalls:=hsays w (λx=>S x∨A3 F1 x) Ds Fd (hgi.mono λ_ h=>.inl h) hDe (A4.2 hDok) (λb hb=>hb.elim (hSlt b) (λ⟨s,hs⟩=>hlt1 s b hs))
       rw[hDa]at hcalls
       refine hcalls.mono ?_
       rintro e w' ⟨r,os,S',F',rfl,hre,hoe,hoa,hok,hext,hSS,hS',hS'lt,hF'⟩
       obtain⟨Fa,Fb,hra0,_,_,hFab⟩:=A4.1 hok
       have hFa:∀x,Fa x->Fd x∨w.heap.size≤x:=λx hx=>hF' x ((hFab x).2 (.inl hx))
       have hFdS:∀x,Fd x->¬S x:=λx hf hs=>by obtain⟨t,ht⟩:=hown x (.inr hf);exact(hst.ok t).D6 x ht hs
       have hra:Ok w' S r Fa:=NK hra0 (by rw[hre];exact hfr) (λx hx hs=>(hFa x hx).elim (λh1=>hFdS x h1 hs) (λh1=>by have:=hSlt x hs;omega))
       have hwS:∀b,S b->w'.heap[b]? =w.heap[b]? :=λb hb=>hext.block b (hSlt b hb) λhf=>hFdS b hf hb
       have hwF:∀s x,F1 s x->w'.heap[x]? =w.heap[x]? :=λs x hx=>hext.block x (hlt1 s x hx) (hdis s x hx)
       have hfS:∀s x,F1 s x->¬S x:=λs x hx=>(hst1.ok s).D6 x hx
       have hSlt':∀b,S b->b<w'.heap.size:=λb hb=>Nat.lt_of_lt_of_le (hSlt b hb) hext.size
       have Xp:∀s x,F1 s x->¬Fa x:=by
        intro s x hx h'
        rcases hFa x h' with h1|h1
        . exact hdis s x hx h1
        . have:=hlt1 s x hx;omega
       have hstep:∀F2:Nat->Nat->Prop,(∀x,A3 F2 x->A3 F1 x∨Fa x)->Nx w0 S0 U0 w' S (A3 F2):=by
        intro F2 hF2
        refine hnx.trans ⟨hext.os,hext.tape,hext.output,hext.size,λb hb hno=>hext.block b hb λhf=>hno (hown b (.inr hf)),λ_ h=>h,λ_ h=>.inl h,λ_=>hSlt',λx hx=> ?_⟩
        rcases hF2 x hx with h1|h1
        . exact .inl (hown x (.inl h1))
        . exact(hFa x h1).imp (λh=>hown x (.inr h)) id
       have ha1:Rd δ1 a:=λs=>(ha s).trans (hann1 s).symm
       have hkeep:∀b,a.tmps.getD rr undef= .pointer (some ⟨b,0,none⟩)->w'.heap[b]? =w.heap[b]? :=by
        intro b hb
        obtain⟨rows,hrr⟩:=hbox _ _ hca0
        have hok1:=hst1.ok rr
        have h1:(δ1 rr).Al= .pointer (some ⟨b,0,none⟩):=by rw[← ha1 rr];exact hb
        have h2:(δ1 rr).er= .own true kb rows:=hrr
        cases hδ:δ1 rr with
        |lf x v=>rw[hδ]at h2 hok1;simp at h2;subst h2;cases hok1 with|lf _ _ _ hl _=>simp[FG]at hl
        |agg=>rw[hδ]at h2;simp at h2
        |A9=>rw[hδ]at h2;simp at h2
        |own hh bx k0 rowsD=>
         rw[hδ]at h1 h2 hok1
         simp only[DL,AV.own.injEq]at h2
         obtain⟨rfl,rfl,_⟩:=h2
         simp only[Hs]at h1
         generalize hF1:F1 rr=Fx at hok1
         generalize hvv:hh=hv' at hok1
         cases hok1 with
         |own _ _ _ b' c arr E Fs _ hb' hk hcap hSb hv2 hr hd2 hval hbF hF=>
          rw[hvv]at h1
          simp only[Gs,if_true,Value.pointer.injEq,Option.some.injEq,Addr.mk.injEq,and_true]at h1
          have e:b'=b:=by first|exact h1|exact h1.1
          subst e
          exact hwF rr b' (by rw[hF1];first|exact(hF b').2 (.inl rfl)|exact hbF|simp[hF])
       simp only
       cases hdst:io.dst with
       |none=>
        rw[hdst]at hd hres
        have h0:o.dst=none:=hd
        refine⟨⟨_,⟨S,δ1,F1,?_,?_,?_,rfl,hst1.world hwS hwF (λ_ h=>h) hfS,hstep F1 (λx hx=>.inl hx),hSlt'⟩,hres⟩,hkeep,_,rfl⟩
        . rw[h0];exact hn
        . rw[h0];exact hdef
        . rw[h0];exact ha1
       |some d=>
        rw[hdst]at hd hres
        simp only[CJ]at hres
        split at hres
        . rename_i τ' hwr
          obtain⟨h1,h2,h3,h4⟩:=hd
          rw[← hre]at hwr
          obtain⟨δ',F2,hst',her,hann,hown'⟩:=hst1.wr h2 h3 hwS hwF (λ_ h=>h) hfS hra Xp (NJ hra (by rw[hre];exact hfr)) hwr
          refine⟨⟨τ',⟨S,δ',F2,?_,?_,?_,her,hst',hstep F2 hown',hSlt'⟩,hres⟩,hkeep,_,rfl⟩
          . rw[h1];simpa[Act.put]using hn
          . rw[h1];simpa[Act.put]using hdef
          . intro s
            rw[h1,GJ a d.d r.Al h4 s,hann s]
            split
            . rfl
            . exact ha1 s
        . exact hres.elim
     . cases hv
   . exact hres.elim
 . exact hrun.elim
end Go.Abs
namespace Go.Abs
variable {w w':World} {S S':Nat->Prop} {G:Gi} {δ:Nat->DV} {Fr:Nat->Nat->Prop} {P:Program}
def C6 (G:Gi) (n:Nat) (o:Option Tmp) (d:Option DU):Bool:=
 match o,d with
 |none,none=>true
 |some t,some d=>t==d.d&&d.kl==G.JG d.d&&d.rs==G.Ee d.d&&decide (d.d<n)
 |_,_=>false
theorem DH {n:Nat} {a:Act} {o:Oper} {d:Option DU} (h:C6 G n o.dst d=true) (hn:a.tmps.size=n):GX G a o d:=by
 unfold C6 at h
 split at h
 . rename_i ho;exact ho
 . rename_i t d ho
   simp only[Bool.and_eq_true,beq_iff_eq,decide_eq_true_eq]at h
   obtain⟨⟨⟨rfl,h2⟩,h3⟩,h4⟩:=h
   exact⟨ho,h2,h3,by rw[hn];exact h4⟩
 . cases h
theorem ZT (h:St G w S δ Fr) {x:Ar} {r:Nat} {p:List Step} {b:Bool} {k:Nat} {rows:List (List AV)} (hp:sF (λs=>(δ s).er) x=some (r,p)) (hs:sub (δ r).er p=some (.own b k rows)):
 ∃rowsD,Ai (δ r) p=some (.own (CY δ x) b k rowsD)/\(DV.own (CY δ x) b k rowsD).er= .own b k rows:=by
 obtain⟨D,hD,hDe⟩:=Cy (h.ok r).Hw hs
 have hown:∃v rowsD,D= .own v b k rowsD:=by
  have:=(h.ok r).Hw.Ai hD
  cases D with
  |own v bx k' rows'=>simp only[DL,AV.own.injEq]at hDe;obtain⟨rfl,rfl,_⟩:=hDe;exact⟨v,rows',rfl⟩
  |lf a v=>cases this with|lf _ _ hl=>simp at hDe;subst hDe;simp[CB]at hl
  |agg cs=>simp at hDe
  |A9 cs=>simp at hDe
 obtain⟨v,rowsD,rfl⟩:=hown
 unfold sF at hp
 split at hp
 . rename_i s
   split at hp
   . rename_i r' p' hs'
     simp only[Option.some.injEq,Prod.mk.injEq]at hp
     obtain⟨rfl,rfl⟩:=hp
     obtain⟨e1,_,hal⟩:=h.leaf hs' rfl
     obtain⟨bx,k',rows',hl⟩:=hal
     rw[hD]at hl
     simp only[Option.some.injEq,DV.own.injEq]at hl
     obtain⟨rfl,rfl,rfl,rfl⟩:=hl
     exact⟨_,hD,hDe⟩
   . simp only[Option.some.injEq,Prod.mk.injEq]at hp
     obtain⟨rfl,rfl⟩:=hp
     simp only[Ai,Option.some.injEq]at hD
     refine⟨rowsD,?_,?_⟩
     . simp[Ai,CY,hD]
     . rw[← hDe];simp
   . cases hp
 . cases hp
theorem Yb {d:DV} (h:HJ d.er=true):Cd δ d:=by
 cases d with
 |own=>exact .own _ _ _ _
 |lf a v=>refine .lf _ _ ?_;simp only[Dj]at h;cases a<;>simp_all [HJ,Ip]
 |agg=>simp[HJ]at h
 |A9=>simp[HJ]at h
theorem QN {L:List Nat} {a:AV} (h:HJ a=true):D9 L a=true:=by cases a<;>simp_all [HJ]
theorem Q0 {d:DV} {F:Nat->Prop} (h:Ok w S d F):∃D,D.er=Mb d.er/\D.Al=d.Al/\Ok w S D (λ_=>False):=by
 have dead:Mb d.er= .dead->∃D,D.er=Mb d.er/\D.Al=d.Al/\Ok w S D (λ_=>False):=λe=>⟨.lf .dead d.Al,by simp[e],by simp,.lf _ _ _ trivial (λ_ h=>h)⟩
 cases h with
 |lf a v _ ha _=>
  cases a with
  |sc u=>exact⟨.lf (.sc u) v,by simp[Mb],by simp,.lf _ _ _ ha (λ_ h=>h)⟩
  |sl e k rows=>
   refine⟨.lf (.sl false k rows) v,by simp[Mb],by simp,.lf _ _ _ ?_ (λ_ h=>h)⟩
   have hf:Fz w S (.sl e k rows) v:=ha
   show Fz w S (.sl false k rows) v
   cases hf with
   |nil x k a c hx=>exact .nil _ _ _ _ (by simp)
   |sl x k rows b off c vs hx hlc hS hk hc hr=>exact .sl _ _ _ b off c vs (by simp) hlc hS hk hc hr
  |_=>exact dead (by simp[Mb])
 |nil=>exact dead (by simp[Mb])
 |own=>exact dead (by simp[Mb])
 |agg=>exact dead (by simp[Mb])
 |A9=>exact dead (by simp[Mb])
theorem O1 {ds:List DV} (h:∀(i:Nat) d,ds[i]? =some d->∃F,Ok w S d F):∃Ds:List DV,Ds.map DV.er=(ds.map DV.er).map Mb/\Ds.map DV.Al=ds.map DV.Al/\∀D∈Ds,Ok w S D (λ_=>False):=by
 induction ds with
 |nil=>exact⟨[],rfl,rfl,by simp⟩
 |cons d ds ih=>
  obtain⟨F,hF⟩:=h 0 d rfl
  obtain⟨D,h1,h2,h3⟩:=Q0 hF
  obtain⟨Ds,g1,g2,g3⟩:=ih (λi e hi=>h (i+1) e hi)
  refine⟨D::Ds,by simp[h1,g1],by simp[h2,g2],λe he=> ?_⟩
  rcases List.mem_cons.1 he with rfl|he
  . exact h3
  . exact g3 e he
theorem K3 {d:DV} {F:Nat->Prop} {cs:List AV} (h:Ok w S d F) (he:d.er= .agg cs):∃ds,d= .agg ds/\ds.map DV.er=cs:=by
 have:=h.Hw
 cases d with
 |agg ds=>exact⟨ds,rfl,by simpa using he⟩
 |lf c v=>cases this with|lf _ _ hl=>simp at he;subst he;simp[CB]at hl
 |own=>simp at he
 |A9=>simp at he
theorem ZV (h:St G w S δ Fr) {x:Ar} (hx:P6 x) {b:AV} (hr:fN (λs=>(δ s).er) x=some b):∃D,D.er=b/\D.Al=CY δ x/\Ok w S D (λ_=>False):=by
 cases x with
 |t s=>
  simp only[fN]at hr
  cases hs:(δ s).er with
  |agg cs=>
   rw[hs]at hr
   simp only[Option.some.injEq]at hr
   subst hr
   obtain⟨ds,hd,hm⟩:=K3 (h.ok s) hs
   have hok:=h.ok s
   rw[hd]at hok
   cases hok with
   |agg _ Fs _ h1 h2 h3 h4=>
    obtain⟨Ds,g1,g2,g3⟩:=O1 (λi d hi=>⟨_,h1 i d hi⟩)
    exact⟨.agg Ds,by simp[g1,← hm],by simp[CY,hd,g2],BQ.2 (B4 g3)⟩
  |_=>
   rw[hs]at hr
   simp only[Option.some.injEq]at hr
   subst hr
   rw[← hs]
   exact Q0 (h.ok s)
 |c c=>
  obtain⟨D0,hD0⟩:=hx
  obtain⟨e1,e2,e3,_⟩:=GC (w:=w) (S:=S) (δ:=δ) c D0 hD0
  simp only[fN]at hr
  split at hr
  . rename_i v
    simp only[Option.some.injEq]at hr
    subst hr
    exact⟨D0,e1,by simp[CY,hD0],e2⟩
  . rename_i k _
    simp only[Option.some.injEq]at hr
    subst hr
    refine⟨.lf (.sl false k []) D0.Al,by simp,by simp[CY,hD0],.lf _ _ _ ?_ (λ_ h=>h)⟩
    have:=e2
    cases D0 with
    |own v bx k' rows=>
     simp only[DL,AV.own.injEq,List.map_eq_nil_iff]at e1
     obtain⟨rfl,rfl,rfl⟩:=e1
     cases this with
     |nil=>rw[Hs];exact Fz.nil false k' none 0 (by simp)
     |own _ _ _ b c arr E Fs _ hb hk hcap hSb hv hr' hdd hval hbF hFF=>exact absurd ((hFF b).2 (.inl rfl)) id
    |lf a v=>simp only[Dj]at e1;subst e1;cases this with|lf _ _ _ ha _=>exact ha.elim
    |agg=>simp at e1
    |A9=>simp at e1
  . cases hr
theorem Q1 (h:St G w S δ Fr) {a:Act} (ha:Rd δ a) (ys:List Ar):∀{xs:List Operand} {aZ9:List AV},FU xs ys=true->Kg (λs=>(δ s).er) ys=some aZ9->
 ∃Ds:List DV,Ds.map DV.er=aZ9/\Ds.map DV.Al=xs.map a.eval/\∀D∈Ds,Ok w S D (λ_=>False):=by
 induction ys with
 |nil=>
  intro xs aZ9 hc hr
  cases xs with
  |cons=>simp[FU]at hc
  |nil=>simp only[Kg,Option.some.injEq]at hr;subst hr;exact⟨[],rfl,rfl,by simp⟩
 |cons y ys ih=>
  intro xs aZ9 hc hr
  cases xs with
  |nil=>simp[FU]at hc
  |cons x xs=>
   simp only[FU,Bool.and_eq_true]at hc
   obtain⟨hy,hev⟩:=Aa hc.1 ha
   simp only[Kg]at hr
   split at hr
   . rename_i b l h1 h2
     simp only[Option.some.injEq]at hr
     subst hr
     obtain⟨D,k1,k2,k3⟩:=ZV h hy h1
     obtain⟨Ds,m1,m2,m3⟩:=ih hc.2 h2
     refine⟨D::Ds,by simp[k1,m1],by simp[k2,m2,hev],?_⟩
     intro e he
     rcases List.mem_cons.1 he with rfl|he
     . exact k3
     . exact m3 e he
   . cases hr
theorem XZ {l r:List DV} {D:DV} {F:Nat->Prop} (hl:∀d∈l,Ok w S d (λ_=>False)) (hD:Ok w S D F) (hr:∀d∈r,Ok w S d (λ_=>False)):HF w S (l++D::r) F:=by
 have h2:HF w S (D::r) F:=⟨F,λ_=>False,hD,B4 hr,λ_ _ h=>h,λx=>by simp⟩
 exact(JD (B4 hl) h2 (λ_ h=>h.elim)).congr λx=>by simp
theorem rE {l r:List DV} {D:DV} {F:Nat->Prop} (h:HF w S (l++D::r) F):∃F',Ok w S D F'/\∀x,F' x->F x:=by
 obtain⟨Fs,h1,h2,h3,h4⟩:=Gy.1 h
 exact⟨Fs l.length,h1 _ D (by simp),λx hx=>(h4 x).2 ⟨_,hx⟩⟩
theorem W8 (h:St G w S δ Fr) {x:Ar} (hx:P6 x) {c:Option Nat} {r:Nat} {p:List Step} {b:Bool} {k:Nat} {rows:List (List AV)} (hp:Ke (λs=>(δ s).er) x c=some (r,p)) (hs:sub (δ r).er p=some (.own b k rows)):
 ∃v rowsD,Ai (δ r) p=some (.own v b k rowsD)/\(DV.own v b k rowsD).er= .own b k rows/\∀(Fo:Nat->Prop),Ok w S (.own v b k rowsD) Fo->
  ∃D,D.er=NV (λs=>(δ s).er) x c (.own b k rows)/\D.Al=CY δ x/\Ok w S D Fo/\∀(w':World) (S' F':Nat->Prop) (oD:DV) (o:AV),oD.Al=D.Al->Mz c oD.er=some o->Ok w' S' oD F'->∃(o':DV) (F'':Nat->Prop),o'.er=o/\o'.Al=v/\Ok w' S' o' F''/\∀y,F'' y->F' y:=by
 cases c with
 |none=>
  obtain⟨rowsD,h1,h2⟩:=ZT h (x:=x) hp hs
  refine⟨_,rowsD,h1,h2,λFo hok=>⟨_,h2,by simp,hok,?_⟩⟩
  intro w' S' F' oD o ha hb hok'
  simp only[Mz,Option.some.injEq]at hb
  exact⟨oD,F',hb,by simpa using ha,hok',λ_ h=>h⟩
 |some j=>
  cases x with
  |c=>simp[Ke]at hp
  |t s=>
   simp only[Ke]at hp
   cases hse:(δ s).er with
   |agg cs=>
    rw[hse]at hp
    simp only at hp
    obtain⟨ds,hd,hm⟩:=K3 (h.ok s) hse
    have hoks:=h.ok s
    rw[hd]at hoks
    cases hoks with
    |agg _ Fs _ g1 g2 g3 g4=>
     cases hdj:ds[j]? with
     |none=>rw[← hm]at hp;simp[hdj]at hp
     |some dj=>
      have hcj:cs[j]? =some dj.er:=by rw[← hm];simp[hdj]
      rw[hcj]at hp
      try simp only at hp
      obtain⟨v,rowsD,e1,e2,e3⟩:∃v rowsD,Ai (δ r) p=some (.own v b k rowsD)/\(DV.own v b k rowsD).er= .own b k rows/\dj.Al=v:=by
       obtain⟨D,hD,hDe⟩:=Cy (h.ok r).Hw hs
       have hown:∃v rowsD,D= .own v b k rowsD:=by
        have:=(h.ok r).Hw.Ai hD
        cases D with
        |own v bx k' rows'=>simp only[DL,AV.own.injEq]at hDe;obtain⟨rfl,rfl,_⟩:=hDe;exact⟨v,rows',rfl⟩
        |lf a v=>cases this with|lf _ _ hl=>simp at hDe;subst hDe;simp[CB]at hl
        |agg cs=>simp at hDe
        |A9 cs=>simp at hDe
       obtain⟨v,rowsD,rfl⟩:=hown
       refine⟨v,rowsD,hD,hDe,?_⟩
       split at hp
       . rename_i r' p' he
         simp only[Option.some.injEq,Option.some.injEq,Prod.mk.injEq]at hp he
         obtain⟨rfl,rfl⟩:=hp
         have hal:=h.al s
         rw[hd]at hal
         cases hal with
         |agg _ hal=>
          have h1:=hal j dj hdj
          have h2:=g1 j dj hdj
          cases dj with
          |lf a u=>
           simp only[Dj]at he
           subst he
           cases h1 with
           |lf _ _ h1=>
            obtain⟨bx,k',rows',hl⟩:=h1
            rw[hD]at hl
            simp only[Option.some.injEq,DV.own.injEq]at hl
            simp[hl.1]
          |own=>simp at he
          |agg=>simp at he
          |A9=>simp at he
       . rename_i he
         simp only[Option.some.injEq,Prod.mk.injEq]at hp
         obtain⟨rfl,rfl⟩:=hp
         simp only[hd,Ai,hdj,Option.some.injEq]at hD
         subst hD
         simp
       . cases hp
      refine⟨v,rowsD,e1,e2,λFo hok=> ?_⟩
      obtain⟨Ds,k1,k2,k3⟩:=O1 (λi d hi=>⟨_,g1 i d hi⟩)
      have hjl:j<ds.length:=(List.getElem?_eq_some_iff.1 hdj).1
      have hlen:Ds.length=ds.length:=by have:=congrArg List.length k2;simpa using this
      have hset:Ds.set j (.own v b k rowsD)=Ds.take j++ .own v b k rowsD::Ds.drop (j+1):=List.set_eq_take_append_cons_drop.trans (by rw[if_pos (by omega)])
      refine⟨.agg (Ds.set j (.own v b k rowsD)),?_,?_,?_,?_⟩
      . simp only[E1,NV,ar,hse,List.map_set,k1,e2,hm]
      . simp only[G0,CY,hd,List.map_set,k2,Hs]
        congr 2
        rw[← e3]
        apply List.ext_getElem?
        intro i
        simp only[List.getElem?_set,List.getElem?_map,List.length_map]
        split
        . rename_i hij;subst hij;rw[hdj];rfl
        . rfl
      . rw[hset]
        exact BQ.2 (XZ (λd hd'=>k3 d (List.mem_of_mem_take hd')) hok (λd hd'=>k3 d (List.mem_of_mem_drop hd')))
      . intro w' S' F' oD o ha hb hok'
        simp only[Mz]at hb
        split at hb
        . rename_i os he
          obtain⟨ods,rfl,hom⟩:=K3 hok' he
          rw[← hom]at hb
          simp only[List.getElem?_map]at hb
          cases hoj:ods[j]? with
          |none=>simp[hoj]at hb
          |some oj=>
           simp only[hoj,Option.map_some,Option.some.injEq]at hb
           cases hok' with
           |agg _ Fs' _ m1 m2 m3 m4=>
            refine⟨oj,Fs' j,hb,?_,m1 j oj hoj,λy hy=>(m4 y).2 ⟨j,hy⟩⟩
            simp only[G0,Value.agg.injEq]at ha
            have ha':ods.map DV.Al=(Ds.set j (.own v b k rowsD)).map DV.Al:=by have:=congrArg Array.toList ha;simpa using this
            have:=congrArg (·[j]?) ha'
            simp only[List.getElem?_map,hoj,Option.map_some,List.getElem?_set]at this
            rw[if_pos trivial,if_pos (by omega)]at this
            simpa using this
        . cases hb
   |_=>rw[hse]at hp;cases hp
theorem ZI {n:Nat} {w0:World} {S0 U0:Nat->Prop} (hG:Sa w0 S0 U0) {a:Act} {σ:Sg} (h:Rel G n w0 S0 U0 a w σ) {o:Oper} {d:Option DU} {f:Nat} {x:Ar} {c:Option Nat} {pre post:List Ar} {K:Sg->Prop} {r:Nat} {p:List Step} {aZ9 bs:List AV} {b:Bool} {k:Nat} {rows:List (List AV)} {res out ou t:AV}
 (hchk:Hu P o.op f (pre++x::post) 0=true) (hdt:C6 G n o.dst d=true) (hp:Ke σ x c=some (r,p)) (hpre:Kg σ pre=some aZ9) (hpost:Kg σ post=some bs) (hs:sub (σ r) p=some (.own b k rows))
 (hsays:A5 P f (aZ9++NV σ x c (.own b k rows)::bs) res ((aZ9.map λ_=>.dead)++out::bs.map λ_=>.dead)) (hba:Mz c out=some ou) (hback:HJ ou=true) (hcl:clean res=true) (hput:put (σ r) p ou=some t) (hK:CJ d res K (DF (Fq G (Tv ou b k p) r σ) r t)) (Q:Exit->Act->World->Prop):
 o.wp P a w (λa' w'=>∃σ',Rel G n w0 S0 U0 a' w' σ'/\K σ') Q:=by
 obtain⟨S,δ,Fr,hn,hdef,ha,rfl,hst,hnx,hSlt⟩:=h
 obtain⟨cc,fn,ho,hcal,hf,hfb,hfn,hm3,hcll⟩:=JI hchk
 have hd:=DH hdt hn
 obtain⟨xs,x0,ys,hargs,hxs,hx0,hys⟩:∃xs x0 ys,cc.args.toList=xs++x0::ys/\FU xs pre=true/\Bf x0 x=true/\FU ys post=true:=by
  generalize cc.args.toList=l at hcll
  clear hpre hpost hp hsays hchk
  induction pre generalizing l with
  |nil=>
   cases l with
   |nil=>simp[FU]at hcll
   |cons x0 xs=>simp only[List.nil_append,FU,Bool.and_eq_true]at hcll;exact⟨[],x0,xs,rfl,rfl,hcll.1,hcll.2⟩
  |cons y pre ih=>
   cases l with
   |nil=>simp[FU]at hcll
   |cons y0 l=>
    simp only[List.cons_append,FU,Bool.and_eq_true]at hcll
    obtain⟨xs,x0,ys,h1,h2,h3,h4⟩:=ih l hcll.2
    exact⟨y0::xs,x0,ys,by simp[h1],by simp[FU,hcll.1,h2],h3,h4⟩
 obtain⟨hxo,ex0⟩:=Aa hx0 ha
 obtain⟨v,rowsD,hD,hDe,hlent⟩:=W8 hst hxo hp hs
 obtain⟨Fo,hokD,hsub,hrep⟩:=(hst.ok r).replace p hD
 obtain⟨Dx,hDx,hDxa,hDxo,hbk⟩:=hlent Fo hokD
 obtain⟨Ds1,p1,p2,p3⟩:=Q1 hst ha pre hxs hpre
 obtain⟨Ds2,q1,q2,q3⟩:=Q1 hst ha post hys hpost
 have hcalls:=hsays w S (Ds1++Dx::Ds2) Fo (hG.now hnx) (by simp[p1,q1,hDx]) (A4.2 (XZ p3 hDxo q3)) hSlt
 have harg:(List.map DV.Al (Ds1++Dx::Ds2))=cc.args.toList.map a.eval:=by
  rw[hargs];simp[p2,q2,hDxa,ex0]
 unfold Oper.wp
 rw[RP ho hcal hf hfb hfn,Oper.upon_enter,← harg]
 refine hcalls.mono ?_
 rintro e w' ⟨rD,os,S',F',rfl,hre,hoe,hoa,hok,hext,hSS,hS',hS'lt,hF'⟩
 obtain⟨Fa,Fb,hra',hosk,hdab,hFab⟩:=A4.1 hok
 obtain⟨os1,oX,os2,rfl,hl1,hXe,hXa⟩:∃os1 oX os2,os=os1++oX::os2/\os1.length=Ds1.length/\oX.er=out/\oX.Al=Dx.Al:=by
  have hlen1:aZ9.length=Ds1.length:=by rw[← p1];simp
  have hlen:os.length=Ds1.length+(Ds2.length+1):=by have:=congrArg List.length hoa;simpa using this
  have hlt:Ds1.length<os.length:=by omega
  refine⟨os.take Ds1.length,os[Ds1.length],os.drop (Ds1.length+1),?_,by simp;omega,?_,?_⟩
  . rw[← List.drop_eq_getElem_cons hlt,List.take_append_drop]
  . have:=congrArg (·[Ds1.length]?) hoe
    simp only[List.getElem?_map,List.getElem?_eq_getElem hlt,Option.map_some]at this
    rw[List.getElem?_append_right (by simp[hlen1])]at this
    simpa[hlen1]using this
  . have:=congrArg (·[Ds1.length]?) hoa
    simp only[List.getElem?_map,List.getElem?_eq_getElem hlt,Option.map_some]at this
    simpa using this
 obtain⟨FX,hoX,hFX⟩:=rE hosk
 obtain⟨oD,Fc,hoe',hoa',hoD,hFcX⟩:=hbk w' S' FX oX ou hXa (by rw[hXe];exact hba) hoX
 have hlt:∀s x,Fr s x->x<w.heap.size:=λs x hx=>(hst.ok s).lt x hx
 have hFcB:∀x,Fc x->Fb x:=λx hx=>hFX x (hFcX x hx)
 have hFc:∀x,Fc x->Fo x∨w.heap.size≤x:=λx hx=>hF' x ((hFab x).2 (.inr (hFcB x hx)))
 have hFa:∀x,Fa x->Fo x∨w.heap.size≤x:=λx hx=>hF' x ((hFab x).2 (.inl hx))
 have hwS:∀b,S b->w'.heap[b]? =w.heap[b]? :=λb hb=>hext.block b (hSlt b hb) (λhf=>hokD.D6 b hf hb)
 have hwF:∀s b,Fr s b->¬Fo b->w'.heap[b]? =w.heap[b]? :=λs b hb hno=>hext.block b (hlt s b hb) hno
 have hS'n:∀s b,Fr s b->¬Fo b->¬S' b:=by
  intro s b hb hno h'
  rcases hS' b h' with h1|h1|h1
  . exact(hst.ok s).D6 b hb h1
  . exact hno h1
  . have:=hlt s b hb;omega
 have hnoFo:∀s,s≠r->∀x,Fr s x->¬Fo x:=λs hs' x hx hf=>hs' (hst.I0 s r x hx (hsub x hf))
 obtain⟨tD,F2,htD,hokt,hiff,hann⟩:=hrep w' S' oD Fc (by rw[hoa'];simp) hoD (λx hx hr=>(hFc x hx).elim id λhge=>absurd (hlt r x hr) (by omega)) hwS (λb hb hno=>hwF r b hb hno) hSS (λb hb hno=>hS'n r b hb hno)
 have hte:tD.er=t:=by
  obtain⟨t',h1,h2⟩:=Gu (d:=δ r) (p:=p) (a:=t) oD (hst.ok r).Hw (by rw[hoe'];exact hput)
  rw[htD]at h1
  obtain rfl:=Option.some.inj h1
  exact h2
 have hdisr:∀s,s≠r->∀x,F2 x->¬Fr s x:=by
  intro s hs' x hx hy
  rcases(hiff x).1 hx with⟨h1,_⟩|h1
  . exact hs' (hst.I0 s r x hy h1)
  . rcases hFc x h1 with h2|h2
    . exact hnoFo s hs' x hy h2
    . have:=hlt s x hy;omega
 have hb':HJ oD.er=true:=by rw[hoe'];exact hback
 have hal:Cd δ oD:=Yb hb'
 have hrin:∀L,D9 L oD.er=true:=λL=>QN hb'
 generalize hN:Tv ou b k p=N at hK
 have hab:∀q v' bx k' rows',q.length<N->Ai (δ r) q=some (.own v' bx k' rows')->∃rows2,Ai tD q=some (.own v' bx k' rows2):=by
  intro q v' bx k' rows' hq hsq
  subst hN
  unfold Tv at hq
  split at hq
  . rename_i b1 k1 rows1
    split at hq
    . rename_i e
      obtain⟨rfl,rfl⟩:=e
      refine OZ q p (by omega) htD (λ_ v2 bx2 k2 rows2 h2=> ?_) hsq
      rw[hD]at h2
      cases h2
      cases oD with
      |own hh b2 k2 rows2=>
       simp only[DL,AV.own.injEq]at hoe'
       obtain⟨rfl,rfl,_⟩:=hoe'
       simp only[Hs]at hoa'
       exact⟨rows2,by rw[hoa']⟩
      |lf a v=>simp only[Dj]at hoe';subst hoe';cases hoD with|lf _ _ _ h=>exact h.elim
      |agg=>simp at hoe'
      |A9=>simp at hoe'
    . omega
  . omega
 have hst1:St G w' S' (DF (Ec G N r δ) r tD) (DF Fr r F2):=
  hst.sO N r tD F2 hwS (λs hs' x hx=>hwF s x hx (hnoFo s hs' x hx)) hSS (λs hs' x hx=>hS'n s x hx (hnoFo s hs' x hx)) hokt hdisr (Kf p htD (hst.rt r) (hrin _)) (LH p htD (hst.al r) hal) hab
 have her1:(λs=>(DF (Ec G N r δ) r tD s).er)=DF (Fq G N r λs=>(δ s).er) r t:=by
  funext s
  unfold DF
  split
  . exact hte
  . exact hst.S8 N r s
 have hann1:∀s,(DF (Ec G N r δ) r tD s).Al=(δ s).Al:=by
  intro s;unfold DF;split
  . rename_i e;rw[e,hann]
  . exact hst.MV N r s
 have hF1:∀s x,DF Fr r F2 s x->(Fr s x/\¬Fo x)∨(s=r/\Fc x):=by
  intro s x hx
  by_cases hs':s=r
  . subst hs';rw[A8]at hx
    exact((hiff x).1 hx).imp id λh=>⟨rfl,h⟩
  . rw[BK _ _ hs']at hx;exact .inl ⟨hx,hnoFo s hs' x hx⟩
 have hdisD:∀s x,DF Fr r F2 s x->¬Fa x:=by
  intro s x hx hy
  rcases hF1 s x hx with⟨h1,h2⟩|⟨_,h1⟩
  . rcases hFa x hy with h3|h3
    . exact h2 h3
    . have:=hlt s x h1;omega
  . exact hdab x hy (hFcB x h1)
 have hOwn1:∀x,A3 (DF Fr r F2) x->A3 Fr x∨w.heap.size≤x:=by
  rintro x ⟨s,hx⟩
  rcases hF1 s x hx with⟨h1,_⟩|⟨_,h1⟩
  . exact .inl ⟨s,h1⟩
  . exact(hFc x h1).imp (λh=>⟨r,hsub x h⟩) id
 have hstep:∀F3:Nat->Nat->Prop,(∀x,A3 F3 x->A3 (DF Fr r F2) x∨Fa x)->Nx w0 S0 U0 w' S' (A3 F3):=by
  intro F3 hF3
  refine hnx.trans ⟨hext.os,hext.tape,hext.output,hext.size,λb hb hno=>hext.block b hb λhf=>hno ⟨r,hsub b hf⟩,hSS,λb hb=>(hS' b hb).imp id (Or.imp (λh=>⟨r,hsub b h⟩) id),λ_=>hS'lt,λx hx=> ?_⟩
  rcases hF3 x hx with h1|h1
  . exact hOwn1 x h1
  . exact(hFa x h1).imp (λh=>⟨r,hsub x h⟩) id
 rw[← her1]at hK
 have ha1:Rd (DF (Ec G N r δ) r tD) a:=λs=>(ha s).trans (hann1 s).symm
 simp only
 cases d with
 |none=>
  have h0:o.dst=none:=hd
  refine⟨_,⟨S',_,_,?_,?_,?_,rfl,hst1,hstep _ (λx hx=>.inl hx),hS'lt⟩,hK⟩
  . rw[h0];exact hn
  . rw[h0];exact hdef
  . rw[h0];exact ha1
 |some d=>
  simp only[CJ]at hK
  split at hK
  . rename_i τ' hwr
    obtain⟨h1,h2,h3,h4⟩:=hd
    rw[← hre]at hwr
    obtain⟨δ',F3,hst',her,hann',hown⟩:=hst1.wr h2 h3 (λ_ _=>rfl) (λ_ _ _=>rfl) (λ_ h=>h) (λs x hx=>(hst1.ok s).D6 x hx) hra' hdisD (Uy hra' (by rw[hre];exact hcl)) hwr
    refine⟨τ',⟨S',δ',F3,?_,?_,?_,her,hst',hstep F3 hown,hS'lt⟩,hK⟩
    . rw[h1];simpa[Act.put]using hn
    . rw[h1];simpa[Act.put]using hdef
    . intro s
      rw[h1,GJ a d.d rD.Al h4 s,hann' s]
      split
      . rfl
      . exact ha1 s
  . exact hK.elim
end Go.Abs
namespace Go.Abs
variable {w w':World} {S S':Nat->Prop} {G:Gi} {δ:Nat->DV} {Fr:Nat->Nat->Prop} {P:Program}
def HY (n:Nat) (ops:Array Oper) (g:Option (Nat×Bool)) (h:Option (Nat×Bool)):Bool:=
 match g,h with
 |none,none=>true
 |some (j,b),some (s,b')=>(ops[j]?).bind (·.dst)==some s&&b==b'&&decide (s<n)
 |_,_=>false
def Eo (P:Program) (G:Gi) (n:Nat) (ops:Array Oper) (o:Oper) (io:A7):Bool:=
 C6 G n o.dst io.dst&&HY n ops o.guard io.guard&&(match io.op with
  | .call f args m=>Hu P o.op f args m
  | .EK f pre x _ post=>Hu P o.op f (pre++x::post) 0
  |op=>Gn P o.op op)
theorem MI {n:Nat} {w0:World} {S0 U0:Nat->Prop} (hG:Sa w0 S0 U0) {a:Act} {σ:Sg} (h:Rel G n w0 S0 U0 a w σ) {ops:Array Oper} {o:Oper} {io:A7} (hc:Eo P G n ops o io=true) {K:Sg->Prop} (hrun:C5 P G io K σ) (Q:Exit->Act->World->Prop):
 o.wp P a w (λa' w'=>∃σ',Rel G n w0 S0 U0 a' w' σ'/\K σ') Q:=by
 simp only[Eo,Bool.and_eq_true]at hc
 obtain⟨⟨h1,_⟩,h3⟩:=hc
 have h0:=h
 obtain⟨S,δ,Fr,hn,hdef,ha,rfl,hst,hnx,hSlt⟩:=h
 have hd:=DH h1 hn
 have plain:∀{op:Rq},io.op=op->(match ES G op io.dst (λs=>(δ s).er)with|some τ=>K τ|none=>False)->Gn P o.op op=true->o.wp P a w (λa' w'=>∃σ',Rel G n w0 S0 U0 a' w' σ'/\K σ') Q:=by
  intro op _ he hk
  split at he
  . rename_i τ heff
    obtain⟨nx,v,w',S',δ',F',hr,hnv,hrd,her,hst',hnx'⟩:=dX hst hSlt ha hd hk heff
    have key:∃σ',Rel G n w0 S0 U0 (a.put o.dst v) w' σ'/\K σ':=by
     refine⟨τ,⟨S',δ',F',?_,?_,hrd,her,hst',hnx.trans hnx',hnx'.lt hSlt⟩,he⟩
     . cases ho:o.dst<;>simp[Act.put,hn]
     . cases ho:o.dst<;>simp[Act.put,hdef]
    unfold Oper.wp
    rw[hr]
    rcases hnv with rfl|⟨rfl,rfl⟩
    . rw[Oper.upon_value];exact key
    . rw[Oper.upon_skip];exact key
  . exact he.elim
 cases hop:io.op with
 |call f args m=>
  rw[hop]at h3
  exact WQ hG h0 hop h3 hd hrun Q
 |EK f pre x c post=>
  rw[hop]at h3
  unfold C5 at hrun
  rw[hop]at hrun
  simp only at hrun h3
  split at hrun
  . rename_i r p aZ9 bs hp hpre hpost
    split at hrun
    . rename_i b kk rows hs
      obtain⟨res,out,ou,hsays,hba,hback,hcl,hr⟩:=hrun
      split at hr
      . rename_i t hput
        exact ZI hG h0 h3 h1 hp hpre hpost hs hsays hba hback hcl hput hr Q
      . exact hr.elim
    . exact hrun.elim
  . exact hrun.elim
 |_=>
  rw[hop]at h3
  unfold C5 at hrun
  rw[hop]at hrun
  exact plain hop hrun h3
theorem F9 {n:Nat} {w0:World} {S0 U0:Nat->Prop} (hG:Sa w0 S0 U0) {a:Act} {σ:Sg} (h:Rel G n w0 S0 U0 a w σ) {ops:Array Oper} {o:Oper} {io:A7} (hc:Eo P G n ops o io=true) {K:Sg->Prop} (hrun:HU P G io K σ) (Q:Exit->Act->World->Prop) {i:Nat} (hi:ops[i]? =some o):
 wpOp P ops Q i (λa' w'=>∃σ',Rel G n w0 S0 U0 a' w' σ'/\K σ') a w:=by
 unfold wpOp
 rw[hi]
 simp only
 have hc':=hc
 simp only[Eo,Bool.and_eq_true]at hc'
 obtain⟨⟨h1,h2⟩,_⟩:=hc'
 have skip:(match io.dst with|some d=>K (DF (Fh d.kl d.d σ) d.d .un)|none=>K σ)->∃σ',Rel G n w0 S0 U0 (a.put o.dst undef) w σ'/\K σ':=by
  intro hk
  obtain⟨S,δ,Fr,hn,hdef,ha,rfl,hst,hnx,hSlt⟩:=h
  have hd:=DH h1 hn
  cases hdd:io.dst with
  |none=>
   rw[hdd]at hk hd
   have h0:o.dst=none:=hd
   rw[h0]
   exact⟨_,⟨S,δ,Fr,hn,hdef,ha,rfl,hst,hnx,hSlt⟩,hk⟩
  |some d=>
   rw[hdd]at hk hd
   obtain⟨g1,g2,g3,g4⟩:=hd
   have hwr:wr d (DV.lf .un undef).er (λs=>(δ s).er)=some (DF (Fh d.kl d.d λs=>(δ s).er) d.d .un):=by simp[wr]
   obtain⟨δ',F',hst',her,hann,hown⟩:=hst.wr (D:=.lf .un undef) (Ff:=λ_=>False) g2 g3 (λ_ _=>rfl) (λ_ _ _=>rfl) (λ_ h=>h) (λs x hx=>(hst.ok s).D6 x hx) (.lf _ _ _ rfl (λ_ h=>h)) (λ_ _ _ h=>h) (.lf _ _ trivial) hwr
   refine⟨_,⟨S,δ',F',?_,?_,?_,her,hst',hnx.trans (Nx.less λx hx=>(hown x hx).elim id False.elim),hSlt⟩,hk⟩
   . rw[g1];simpa[Act.put]using hn
   . rw[g1];simpa[Act.put]using hdef
   . intro s
     rw[g1,GJ a d.d undef g4 s,hann s]
     split
     . rfl
     . exact ha s
 unfold HU at hrun
 split at hrun
 . rename_i hg
   have hog:o.guard=none:=by
    unfold HY at h2
    split at h2
    . assumption
    . rename_i hh;rw[hg]at hh;cases hh
    . cases h2
   have hw:Region.wanted o (yielded ops a.tmps)=true:=by simp[Region.wanted,hog]
   rw[if_pos hw]
   exact .inl (MI hG h hc hrun Q)
 . rename_i s want hg
   obtain⟨j,hog,hjs,hsn⟩:∃j,o.guard=some (j,want)/\(ops[j]?).bind (·.dst)=some s/\s<n:=by
    unfold HY at h2
    split at h2
    . rename_i hh;rw[hg]at hh;cases hh
    . rename_i j b s' b' ho hh
      rw[hg]at hh
      simp only[Option.some.injEq,Prod.mk.injEq]at hh
      obtain⟨rfl,rfl⟩:=hh
      simp only[Bool.and_eq_true,beq_iff_eq,decide_eq_true_eq]at h2
      exact⟨j,by rw[ho,h2.1.2],h2.1.1,h2.2⟩
    . cases h2
   have hy:yielded ops a.tmps j=match a.tmps.getD s undef with| .bool b=>some b|_=>none:=by
    obtain⟨S,δ,Fr,hn,_⟩:=h
    have hs:s<a.tmps.size:=by rw[hn];exact hsn
    unfold yielded
    rw[hjs]
    simp only[Option.bind_some,Array.getElem?_eq_getElem hs,Array.getD_eq_getD_getElem?,Option.getD_some]
    cases a.tmps[s]<;>rfl
   have hval:a.tmps.getD s undef=match σ s with| .sc v=>v| .un=>undef|_=>a.tmps.getD s undef:=by
    obtain⟨S,δ,Fr,hn,hdef,ha,rfl,hst,_⟩:=h
    simp only
    cases hs:(δ s).er with
    |sc v=>rw[ha s];exact(hst.leaf hs rfl).2.1.1
    |un=>rw[ha s];exact(hst.leaf hs rfl).2.1
    |_=>rfl
   split at hrun
   . rename_i b hb
     rw[hb]at hval
     simp only at hval
     have hwd:Region.wanted o (yielded ops a.tmps)=(some b==some want):=by simp only[Region.wanted,hog,hy,hval]
     split at hrun
     . rename_i hbw
       subst hbw
       rw[if_pos (by rw[hwd];simp)]
       exact .inl (MI hG h hc hrun Q)
     . rename_i hbw
       rw[if_neg (by rw[hwd];simp[hbw])]
       exact skip hrun
   . rename_i hb
     rw[hb]at hval
     simp only at hval
     have hwd:Region.wanted o (yielded ops a.tmps)=false:=by simp only[Region.wanted,hog,hy,hval];rfl
     rw[if_neg (by rw[hwd];simp)]
     exact skip hrun
   . exact hrun.elim
def IG (P:Program) (G:Gi) (n:Nat) (ops:Array Oper):List Oper->List A7->Bool
 |[],[]=>true
 |o::os,io::ios=>Eo P G n ops o io&&IG P G n ops os ios
 |_,_=>false
theorem WD {n:Nat} {w0:World} {S0 U0:Nat->Prop} (hG:Sa w0 S0 U0) {ops:Array Oper} {K:Sg->Prop} (Q:Exit->Act->World->Prop) (hQ:∀a w σ,Rel G n w0 S0 U0 a w σ->K σ->Q .normal a w) (ios:List A7):
 ∀(k:Nat) {a:Act} {w:World} {σ:Sg},Rel G n w0 S0 U0 a w σ->IG P G n ops (ops.toList.drop k) ios=true->KH P G ios K σ->wpOps P ops Q (List.range' k (ops.size-k)) a w:=by
 induction ios with
 |nil=>
  intro k a w σ h hc hr
  have hk:ops.toList.drop k=[]:=by cases hd:ops.toList.drop k with|nil=>rfl|cons o os=>rw[hd]at hc;simp[IG]at hc
  have hlen:ops.size≤k:=by simpa using hk
  rw[show ops.size-k=0 from by omega]
  exact hQ a w σ h hr
 |cons io ios ih=>
  intro k a w σ h hc hr
  cases hd:ops.toList.drop k with
  |nil=>rw[hd]at hc;simp[IG]at hc
  |cons o os=>
   rw[hd]at hc
   simp only[IG,Bool.and_eq_true]at hc
   have hk:k<ops.size:=by
    have:(ops.toList.drop k).length=os.length+1:=by rw[hd];rfl
    simp at this;omega
   have ho:ops[k]? =some o:=by
    have:(ops.toList.drop k)[0]? =some o:=by rw[hd];rfl
    simpa using this
   have hos:ops.toList.drop (k+1)=os:=by
    have:(ops.toList.drop k).drop 1=os:=by rw[hd];rfl
    rw[List.drop_drop]at this;exact this
   rw[show ops.size-k=(ops.size-(k+1))+1 from by omega,List.range'_succ,wpOps_cons]
   refine wpOp_mono ?_ (F9 hG h hc.1 hr Q ho)
   rintro a' w' ⟨σ',h',hK'⟩
   exact ih (k+1) h' (by rw[hos];exact hc.2) hK'
end Go.Abs
namespace Go.Abs
variable {w w':World} {S S':Nat->Prop} {G:Gi} {δ:Nat->DV} {Fr:Nat->Nat->Prop} {P:Program}
theorem Jn (d:Nat) (t e:TypeId) (a:Option Addr) (n c:Nat) (h:P.underlying t=some (.slice e)):(Op.equalIn (d+1) t (.slice a n c) (.slice none 0 0)).run P w= .ok a.isNone w:=by
 have hu:(underlying t).run P w= .ok (.slice e) w:=run_underlying h w
 cases a<;>simp[Op.equalIn,hu]
theorem Vc (t e:TypeId) (a:Option Addr) (n c:Nat) (h:P.underlying t=some (.slice e)):(binOp .eql t (.slice a n c) (.slice none 0 0)).run P w= .ok (.bool a.isNone) w:=by
 simp only[binOp]
 have:(Op.equal t (.slice a n c) (.slice none 0 0)).run P w= .ok a.isNone w:=Jn 9999 t e a n c h
 simp[this]
theorem Vd (t e:TypeId) (a:Option Addr) (n c:Nat) (h:P.underlying t=some (.slice e)):(binOp .neq t (.slice a n c) (.slice none 0 0)).run P w= .ok (.bool (!a.isNone)) w:=by
 simp only[binOp]
 have:(Op.equal t (.slice a n c) (.slice none 0 0)).run P w= .ok a.isNone w:=Jn 9999 t e a n c h
 simp[this]
def Wc (P:Program) (o:Op) (neg:Bool) (y:Ar):Bool:=match o with
 | .binOp op t x (.const (.slice none 0 0)) _=>(match op with| .eql=> !neg| .neq=>neg|_=>false)&&(match P.underlying t with|some (.slice _)=>true|_=>false)&&Bf x y
 |_=>false
theorem W3 {n:Nat} {w0:World} {S0 U0:Nat->Prop} {a:Act} {σ:Sg} (h:Rel G n w0 S0 U0 a w σ) {o:Oper} {d:DU} {neg:Bool} {x:Ar} {K:Sg->Prop} {rows:List (List AV)} {hv:AV} {pl:Option (Nat×List Step)} (hc:Wc P o.op neg x=true) (hdt:C6 G n o.dst (some d)=true)
 (hh:hd σ x=some (hv,pl)) (hrows:rowsOf hv=some rows) (hK:∀b:Bool,(b=true->rows=[])->CJ (some d) (.sc (.bool (if neg=true then !b else b))) K σ) (Q:Exit->Act->World->Prop):
 o.wp P a w (λa' w'=>∃σ',Rel G n w0 S0 U0 a' w' σ'/\K σ') Q:=by
 obtain⟨S,δ,Fr,hn,hdef,ha,rfl,hst,hnx,hSlt⟩:=h
 unfold Wc at hc
 split at hc
 . rename_i op t x' u ho
   simp only[Bool.and_eq_true]at hc
   obtain⟨⟨h1,h2⟩,h3⟩:=hc
   obtain⟨hx,ex⟩:=Aa h3 ha
   obtain⟨e,he⟩:∃e,P.underlying t=some (.slice e):=by
    split at h2
    . exact⟨_,‹_›⟩
    . cases h2
   -- the slice's own value
   obtain⟨ad,l,c,hval,hnil⟩:∃ad l c,CY δ x= .slice ad l c/\(ad.isNone=true->rows=[]):=by
    obtain⟨g1,g2⟩:=hst.Xp hx hh
    cases hv with
    |own b k rows'=>
     cases b with
     |true=>simp[rowsOf]at hrows
     |false=>
      simp only[rowsOf,Option.some.injEq]at hrows
      subst hrows
      obtain⟨rowsD,F,e1,hok,_⟩:=g1 _ _ _ rfl
      generalize CY δ x=v at hok
      cases hok with
      |nil=>exact⟨none,0,0,rfl,λ_=>by rw[← e1];rfl⟩
      |own _ _ _ b c arr E Fs _ hb hk hcap hSb hvv hr hdd hval hbF hF=>exact⟨_,_,_,by simp[Gs];exact⟨rfl,rfl,rfl⟩,by simp⟩
    |sl e' k rows'=>
     simp only[rowsOf,Option.some.injEq]at hrows
     subst hrows
     obtain⟨s,hs1,hs2⟩:=hst.rU hx hh
     have hfz:=g2 _ _ _ rfl ⟨s,hs1,hs2⟩
     generalize CY δ x=v at hfz
     cases hfz with
     |nil=>exact⟨_,_,_,rfl,λ_=>rfl⟩
     |sl=>exact⟨_,_,_,rfl,by simp⟩
    |_=>simp[rowsOf]at hrows
   have hb:(execOp a.eval o).run P w= .ok (.value (.bool (if neg=true then !ad.isNone else ad.isNone))) w:=by
    have hg:∀op,(eqGuard op t x' (.const (.slice none 0 0)) (.slice ad l c) (.slice none 0 0)).run P w= .ok () w:=by intro op;cases op<;>simp[eqGuard]
    have hev:a.eval (.const (.slice none 0 0))= .slice none 0 0:=rfl
    cases op<;>simp only[Bool.false_eq_true]at h1
    . have:neg=false:=by simpa using h1
      subst this
      simp only[execOp,ho,ex,hval,hev,Sem.run_bind,hg,Result.andThen_ok,Vc t e ad l c he,Sem.run_pure,Bool.false_eq_true,if_false]
    . subst h1
      simp only[execOp,ho,ex,hval,hev,Sem.run_bind,hg,Result.andThen_ok,Vd t e ad l c he,Sem.run_pure,if_true]
   have hk:=hK ad.isNone hnil
   have hdd:=DH hdt hn
   unfold Oper.wp
   rw[hb,Oper.upon_value]
   exact ID (S2:=S) (D:=.lf (.sc (.bool (if neg=true then !ad.isNone else ad.isNone))) (.bool (if neg=true then !ad.isNone else ad.isNone))) (FD:=λ_=>False) hst hn hdef ha hdd (by simp) (λ_ _=>rfl) hSlt (λ_ h=>h) (λ_ h=>.inl h) hSlt (.lf _ _ _ ⟨rfl,rfl⟩ (λ_ h=>h)) (λ_ h=>h.elim) (.lf _ _ trivial) hnx rfl rfl rfl (Nat.le_refl _) hk
 . cases hc
theorem WT (h:St G w S δ Fr) (rs:List (Nat×List Step)):∀{vs:List Value} {bs:List AV},vs.length=rs.length->(∀(i:Nat) r p u,rs[i]? =some (r,p)->vs[i]? =some u->∃bx k rows,Ai (δ r) p=some (.own u bx k rows))->Yf (λs=>(δ s).er) rs=some bs->
 ∃Ds:List DV,Ds.map DV.er=bs/\Ds.map DV.Al=vs/\∀D∈Ds,Ok w (λx=>S x∨A3 Fr x) D (λ_=>False):=by
 induction rs with
 |nil=>
  intro vs bs hl _ hr
  cases vs with
  |nil=>simp only[Yf,Option.some.injEq]at hr;subst hr;exact⟨[],rfl,rfl,by simp⟩
  |cons=>simp at hl
 |cons x rs ih=>
  obtain⟨r,p⟩:=x
  intro vs bs hl hv hr
  cases vs with
  |nil=>simp at hl
  |cons v vs=>
   simp only[Yf]at hr
   split at hr
   . rename_i a aZ9 h1 h2
     simp only[Option.some.injEq]at hr
     subst hr
     obtain⟨bx,k,rows,hs⟩:=hv 0 r p v rfl rfl
     obtain⟨D,k1,k2,k3⟩:=Gv h (d:=.lf (.al r p) v) (F:=λ_=>False) (.lf _ _ _ trivial (λ_ h=>h)) (λ_ h=>h.elim) (.lf _ _ ⟨bx,k,rows,hs⟩) (by simpa using h1)
     obtain⟨Ds,m1,m2,m3⟩:=ih (by simpa using hl) (λi r p u hi hu=>hv (i+1) r p u (by simpa using hi) (by simpa using hu)) h2
     refine⟨D::Ds,by simp[k1,m1],by simpa[m2]using k2,?_⟩
     intro e he
     rcases List.mem_cons.1 he with rfl|he
     . exact k3
     . exact m3 e he
   . cases hr
def WX (P:Program) (o:Op) (f:Nat) (y:Ar) (ys:List Ar):Bool:=match o with
 | .call c=>(match c.callee with
  | .value x=>Bf x y&&FU c.args.toList ys&&(match P.funcs[f]? with|some fn=>fn.body.isSome&&fn.name != "runtime.NumGoroutine" |none=>false)
  |_=>false)
 |_=>false
theorem jZ {a:Act} {o:Oper} {c:Call} {x:Operand} {f:Nat} {fn:Func} {vs:List Value} (ho:o.op= .call c) (hc:c.callee= .value x) (hx:a.eval x= .func (.func f) #[] vs.toArray) (hf:P.funcs[f]? =some fn) (hb:fn.body.isSome=true) (hn:(fn.name != "runtime.NumGoroutine")=true):
 (execOp a.eval o).run P w= .ok (.enter f (c.args.toList.map a.eval++vs).toArray) w:=by
 have hbn:fn.body.isNone=false:=by cases h:fn.body<;>simp_all
 have hnm:(fn.name== "runtime.NumGoroutine")=false:=by simpa using hn
 have harr:c.args.map a.eval=(c.args.toList.map a.eval).toArray:=by apply Array.ext';simp
 simp only[execOp,ho,resolve,hc,hx,Deferred.ofValue,Sem.run_bind,Sem.run_pure,Result.andThen_ok,invoke,callFunc,harr]
 have hp:(program).run P w= .ok P w:=rfl
 rw[hp]
 simp only[Result.andThen_ok,hf,hnm,hbn,Bool.false_eq_true,if_false,Sem.run_pure]
 simp
theorem Yj {n:Nat} {w0:World} {S0 U0:Nat->Prop} (hG:Sa w0 S0 U0) {a:Act} {σ:Sg} (h:Rel G n w0 S0 U0 a w σ) {o:Oper} {d:Option DU} {f:Nat} {x:Ar} {args:List Ar} {K:Sg->Prop} {aZ9:List AV} {res v:AV}
 (hchk:WX P o.op f x args=true) (hdt:C6 G n o.dst d=true) (hca:iR σ f x args=some aZ9) (hsays:Says P f aZ9 res) (hres:Oi 0 res=some v) (hK:CJ d v K σ) (Q:Exit->Act->World->Prop):
 o.wp P a w (λa' w'=>∃σ',Rel G n w0 S0 U0 a' w' σ'/\K σ') Q:=by
 obtain⟨S,δ,Fr,hn,hdef,ha,rfl,hst,hnx,hSlt⟩:=h
 have hd:=DH hdt hn
 have hgi:=hG.now hnx
 unfold WX at hchk
 split at hchk
 . rename_i c ho
   split at hchk
   . rename_i x0 hcal
     simp only[Bool.and_eq_true]at hchk
     obtain⟨⟨h1,h2⟩,h3⟩:=hchk
     split at h3
     . rename_i fn hf
       simp only[Bool.and_eq_true]at h3
       obtain⟨hx,ex⟩:=Aa h1 ha
       unfold iR at hca
       split at hca
       . rename_i f' rs hcl
         split at hca
         . rename_i e
           subst e
           split at hca
           . rename_i as1 bs hr1 hr2
             simp only[Option.some.injEq]at hca
             subst hca
             obtain⟨vs,hval,hvl,hvs⟩:Ip δ (.cl f' rs) (CY δ x):=by
              cases x with
              |t s=>exact(hst.leaf hcl rfl).2.2
              |c c0=>
               obtain⟨D0,hD0⟩:=hx
               simp only[ar]at hcl
               subst hcl
               simp[GR]at hD0
             obtain⟨Ds1,p1,p2,p3⟩:=Ni hst ha args h2 hr1
             obtain⟨Ds2,q1,q2,q3⟩:=WT hst rs hvl hvs hr2
             have hcalls:=hsays w (λx=>S x∨A3 Fr x) (Ds1++Ds2) (λ_=>False) (hgi.mono λ_ h=>.inl h) (by simp[p1,q1]) (A4.2 (B4 λD hD=>(List.mem_append.1 hD).elim (p3 D) (q3 D))) (by
              rintro b (hb|⟨s,hs⟩)
              . exact hSlt b hb
              . exact(hst.ok s).lt b hs)
             have harg:(List.map DV.Al (Ds1++Ds2))=c.args.toList.map a.eval++vs:=by simp[p2,q2]
             simp only[Oi]at hres
             split at hres
             . rename_i hfl
               simp only[Option.some.injEq]at hres
               have hfr:=Qa hfl
               unfold Oper.wp
               rw[jZ ho hcal (by rw[ex,hval]) hf h3.1 h3.2,Oper.upon_enter,← harg]
               refine hcalls.mono ?_
               rintro e w' ⟨r,os,S',F',rfl,hre,hoe,hoa,hok,hext,hSS,hS',hS'lt,hF'⟩
               obtain⟨Fa,Fb,hra,_,_,hFab⟩:=A4.1 hok
               have hfa:∀x,Fa x->w.heap.size≤x:=λx hx=>(hF' x ((hFab x).2 (.inl hx))).resolve_left id
               have hok':Ok w' S r Fa:=NK hra (by rw[hre];exact hfr) (λx hx hs=>by have:=hSlt x hs;have:=hfa x hx;omega)
               simp only
               exact ID (S2:=S) hst hn hdef ha hd (hre.trans hres) (λb hb=>hext.block b hb id) hSlt (λ_ h=>h) (λ_ h=>.inl h) (λb hb=>Nat.lt_of_lt_of_le (hSlt b hb) hext.size) hok' hfa (NJ hra (by rw[hre];exact hfr)) hnx hext.os hext.tape hext.output hext.size hK
             . cases hres
           . cases hca
         . cases hca
       . cases hca
     . cases h3
   . cases hchk
 . cases hchk
def WW (P:Program) (o:Op) (n s:Nat):Bool:=match o with
 | .box t (.tmp s')=>s==s'&&EV P t==some n
 |_=>false
theorem Ye {n:Nat} {w0:World} {S0 U0:Nat->Prop} {a:Act} {σ:Sg} (h:Rel G n w0 S0 U0 a w σ) {o:Oper} {d:DU} {m s:Nat} {K:Sg->Prop} {cs:List AV} (hc:WW P o.op m s=true) (hdt:C6 G n o.dst (some d)=true)
 (hs:σ s= .agg cs) (hl:cs.length=m) (hK:∀us:List Value,us.length=m->CJ (some d) (.vb s 0 us) K σ) (Q:Exit->Act->World->Prop):
 o.wp P a w (λa' w'=>∃σ',Rel G n w0 S0 U0 a' w' σ'/\K σ') Q:=by
 obtain⟨S,δ,Fr,hn,hdef,ha,rfl,hst,hnx,hSlt⟩:=h
 have hd:=DH hdt hn
 unfold WW at hc
 split at hc
 . rename_i t s' ho
   simp only[Bool.and_eq_true,beq_iff_eq]at hc
   obtain⟨rfl,_⟩:=hc
   obtain⟨ds,hd',hm⟩:=K3 (hst.ok s) hs
   have hann:(δ s).Al= .agg (ds.map DV.Al).toArray:=by rw[hd'];simp
   have hev:a.eval (.tmp s)= .agg (ds.map DV.Al).toArray:=by simp only[Act.eval];rw[ha s,hann]
   have hlen:(ds.map DV.Al).length=m:=by rw[← hl,← hm];simp
   have hr:(execOp a.eval o).run P w= .ok (.value (.pointer (some ⟨w.heap.size,0,none⟩))) (w.alloc (.cells (ds.map DV.Al).toArray t)):=by
    simp only[execOp,ho,hev,Sem.run_bind,Xx,Result.andThen_ok,Sem.run_pure,Value.cells]
   unfold Oper.wp
   rw[hr,Oper.upon_value]
   have hsz:(w.alloc (.cells (ds.map DV.Al).toArray t)).heap.size=w.heap.size+1:=by
    show(w.heap.push _).size=_
    exact Array.size_push _
   have hlt2:∀b,(S b∨b=w.heap.size)->b<(w.alloc (.cells (ds.map DV.Al).toArray t)).heap.size:=by
    intro b hb
    rw[hsz]
    rcases hb with hb|hb
    . have:=hSlt b hb;omega
    . omega
   have:=ID (w':=w.alloc (.cells (ds.map DV.Al).toArray t)) (S2:=λx=>S x∨x=w.heap.size) (D:=.lf (.vb s 0 (ds.map DV.Al)) (.pointer (some ⟨w.heap.size,0,none⟩))) (FD:=λ_=>False) (v:=.vb s 0 (ds.map DV.Al)) (K:=K) hst hn hdef ha hd (by simp)
    (λb hb=>alloc_old w _ b hb) hSlt (λ_ h=>.inl h) (λb hb=>hb.imp id (λe=>by omega)) hlt2
    (.lf _ _ _ ⟨w.heap.size,rfl,.inr rfl,λj u hj=>by simp only[World.cell?,Sd];simpa using hj⟩ (λ_ h=>h)) (λ_ h=>h.elim) (.lf _ _ hann) hnx rfl rfl rfl (by omega) (hK _ hlen)
   simpa using this
 . cases hc
def Wa (P:Program) (o:Op) (g n:Nat):Bool:=match o with
 | .load t (.global g')=>g==g'&&EV P t==some n&&Gk P t==some true
 |_=>false
theorem Y2 {n:Nat} {w0:World} {S0 U0:Nat->Prop} (hG:Sa w0 S0 U0) {a:Act} {σ:Sg} (h:Rel G n w0 S0 U0 a w σ) {o:Oper} {d:DU} {g m:Nat} {cs:List Value} {K:Sg->Prop} (hc:Wa P o.op g m=true) (hdt:C6 G n o.dst (some d)=true)
 (hg:U9 g m=some cs) (hK:CJ (some d) (.agg (cs.map .sc)) K σ) (Q:Exit->Act->World->Prop):
 o.wp P a w (λa' w'=>∃σ',Rel G n w0 S0 U0 a' w' σ'/\K σ') Q:=by
 obtain⟨S,δ,Fr,hn,hdef,ha,rfl,hst,hnx,hSlt⟩:=h
 have hgi:=hG.now hnx
 have hd:=DH hdt hn
 unfold U9 at hg
 split at hg
 . rename_i x hx
   split at hg
   . rename_i hx2
     obtain rfl:=Option.some.inj hg
     have hmem:=List.mem_of_find?_eq_some hx
     have hxg:x.1=g:=by have:=List.find?_some hx;simpa using this
     obtain⟨_,arr,E,fz,hb,hcell⟩:=hgi x hmem
     unfold Wa at hc
     split at hc
     . rename_i t g' ho
       simp only[Bool.and_eq_true,beq_iff_eq]at hc
       obtain⟨⟨rfl,h2⟩,h3⟩:=hc
       have hrun:=Hi (P:=P) (w:=w) (b:=g) (off:=0) (vs:=x.2) h2 h3 (.inl rfl) hx2.1 (by
        intro j v hj
        have:=hcell j v hj
        simp only[World.cell?]
        rw[← hxg,hb]
        simpa using this)
       simp only[if_true]at hrun
       have hr:(execOp a.eval o).run P w= .ok (.value (.agg x.2.toArray)) w:=by
        simp only[execOp,ho,Act.eval,Instr.loadAt,Instr.sureAddr,Sem.run_bind,Sem.run_pure,Result.andThen_ok,hrun]
       unfold Oper.wp
       rw[hr,Oper.upon_value]
       have hDs:∀D∈x.2.map (λv=>DV.lf (.sc v) v),Ok w S D (λ_=>False)/\Cd δ D:=by
        intro D hD
        obtain⟨v,hv,rfl⟩:=List.mem_map.1 hD
        exact⟨.lf _ _ _ ⟨rfl,List.all_eq_true.1 hx2.2 v hv⟩ (λ_ h=>h),.lf _ _ trivial⟩
       have:=ID (S2:=S) (D:=.agg (x.2.map λv=>DV.lf (.sc v) v)) (FD:=λ_=>False) (v:=.agg (x.2.map .sc)) (K:=K) hst hn hdef ha hd (by simp[Function.comp_def]) (λ_ _=>rfl) hSlt (λ_ h=>h) (λ_ h=>.inl h) hSlt (BQ.2 (B4 λD hD=>(hDs D hD).1)) (λ_ h=>h.elim) (.agg _ λi D hD=>(hDs D (List.mem_of_getElem? hD)).2) hnx rfl rfl rfl (Nat.le_refl _) hK
       simpa[Function.comp_def]using this
     . cases hc
   . cases hg
 . cases hg
end Go.Abs
namespace Go.Abs
variable {G:Gi} {A:Nat->Prop} {σ σ' τ τ':Sg}
structure Ag (G:Gi) (A:Nat->Prop) (σ σ':Sg):Prop where
 eq:∀s,A s->σ' s=σ s
 ri:∀s,A s->D9 (G.Ee s) (σ s)=true
structure Mv (G:Gi) (A:Nat->Prop) (σ σ' τ τ':Sg):Prop where
 ag:Ag G A τ τ'
 off:∀s,¬A s->τ' s=σ' s/\τ s=σ s
structure Cl (G:Gi) (A:Nat->Prop) (s:Nat):Prop where
 own:A s
 JG:∀x∈G.JG s,A x
 rt:∀r∈G.Ee s,A r/\∀x∈G.JG r,A x
def XT (G:Gi) (A:Nat->Prop):Ar->Prop
 | .t s=>Cl G A s
 | .c a=>D9 [] a=true
theorem Mv.refl (h:Ag G A σ σ'):Mv G A σ σ' σ σ':=⟨h,λ_ _=>⟨rfl,rfl⟩⟩
theorem Mv.trans {υ υ':Sg} (h:Mv G A σ σ' τ τ') (h':Mv G A τ τ' υ υ'):Mv G A σ σ' υ υ':=
 ⟨h'.ag,λs hs=>⟨(h'.off s hs).1.trans (h.off s hs).1,(h'.off s hs).2.trans (h.off s hs).2⟩⟩
theorem JS (L:List Nat) (d:Nat):∀(a:AV),D9 L a=true->D9 L (Cb d a)=true
 | .al r p,h=>by
  rw[Qp];split
  . simp
  . exact h
 | .HX r p i j k,h=>by
  rw[OU];split
  . simp
  . exact h
 | .agg cs,h=>by
  rw[HA,List.all_eq_true]at h
  rw[TC,HA,List.all_map,List.all_eq_true]
  intro c hc
  exact JS L d c (h c hc)
 | .A9 cs,h=>by
  rw[JT,List.all_eq_true]at h
  rw[TD,JT,List.all_map,List.all_eq_true]
  intro c hc
  exact JS L d c (h c hc)
 | .sc _,_=>by simp
 | .sl ..,_=>by simp
 | .own ..,_=>by simp
 | .fp _,_=>by simp
 | .dead,_=>by simp
 | .un,_=>by simp
 | .Wn ..,_=>by simp[Cb,D9]
 | .vb s o us,h=>by
  rw[Qq];split
  . simp
  . exact h
 | .cl f rs,h=>by
  rw[NQ];split
  . exact h
  . simp
theorem P0 {L:List Nat} (p:List Step):∀{t x t':AV},put t p x=some t'->D9 L t=true->D9 L x=true->D9 L t'=true:=by
 induction p with
 |nil=>
  intro t x t' h _ hx
  have:t'=x:=by cases t<;>simp[put]at h<;>exact h.symm
  subst this;exact hx
 |cons s p ih=>
  obtain⟨i,j,k⟩:=s
  intro t x t' h ht hx
  cases t with
  |own b k rows=>
   simp only[put]at h
   split at h
   . split at h
     . split at h
       . cases h;simp
       . cases h
     . cases h
   . cases h
  |agg cs=>
   simp only[put]at h
   split at h
   . rename_i c hc
     split at h
     . rename_i c' hc'
       cases h
       rw[HA,List.all_eq_true]at ht ⊢
       intro e he
       rcases List.mem_or_eq_of_mem_set he with he|rfl
       . exact ht e he
       . exact ih hc' (ht c (List.mem_of_getElem? hc)) hx
     . cases h
   . cases h
  |A9 cs=>
   simp only[put]at h
   split at h
   . rename_i c hc
     split at h
     . rename_i c' hc'
       cases h
       rw[JT,List.all_eq_true]at ht ⊢
       intro e he
       rcases List.mem_or_eq_of_mem_set he with he|rfl
       . exact ht e he
       . exact ih hc' (ht c (List.mem_of_getElem? hc)) hx
     . cases h
   . cases h
  |_=>simp[put]at h
theorem Ag.uE (h:Ag G A σ σ') {r:Nat} {t:AV} (hr:A r) (ha:∀x∈G.JG r,A x) (ht:D9 (G.Ee r) t=true):Mv G A σ σ' (DF (Gt G r σ) r t) (DF (Gt G r σ') r t):=by
 refine⟨⟨λs hs=> ?_,λs hs=> ?_⟩,λs hs=> ?_⟩
 . simp only[DF,Gt,h.eq s hs]
 . simp only[DF,Gt]
   split
   . rename_i e;subst e;exact ht
   . split
     . exact JS _ _ _ (h.ri s hs)
     . exact h.ri s hs
 . have h1:s≠r:=λe=>hs (e▸hr)
   have h2:s∉G.JG r:=λe=>hs (ha s e)
   simp[DF,Gt,h1,h2]
theorem Ag.up (h:Ag G A σ σ') {r:Nat} {t:AV} (hr:A r) (ht:D9 (G.Ee r) t=true):Mv G A σ σ' (DF σ r t) (DF σ' r t):=by
 refine⟨⟨λs hs=> ?_,λs hs=> ?_⟩,λs hs=> ?_⟩
 . simp only[DF,h.eq s hs]
 . simp only[DF]
   split
   . rename_i e;subst e;exact ht
   . exact h.ri s hs
 . have h1:s≠r:=λe=>hs (e▸hr)
   simp[DF,h1]
theorem Ag.kupn (h:Ag G A σ σ') (n:Nat) {r:Nat} {t:AV} (hr:A r) (ha:∀x∈G.JG r,A x) (ht:D9 (G.Ee r) t=true):Mv G A σ σ' (DF (Fq G n r σ) r t) (DF (Fq G n r σ') r t):=by
 refine⟨⟨λs hs=> ?_,λs hs=> ?_⟩,λs hs=> ?_⟩
 . simp only[DF,Fq,h.eq s hs]
 . simp only[DF,Fq]
   split
   . rename_i e;subst e;exact ht
   . split
     . exact LC _ _ _ _ (h.ri s hs)
     . exact h.ri s hs
 . have h1:s≠r:=λe=>hs (e▸hr)
   have h2:s∉G.JG r:=λe=>hs (ha s e)
   simp[DF,Fq,h1,h2]
theorem P2 (h:Ag G A σ σ') {r:Nat} {p:List Step} {v:AV} (hr:A r) (ha:∀x∈G.JG r,A x) (ht:XL G r p σ=some (v,τ)):∃τ',XL G r p σ'=some (v,τ')/\Mv G A σ σ' τ τ':=by
 unfold XL at ht ⊢
 rw[h.eq r hr]
 split at ht
 . rename_i b k rows hs
   split at ht
   . rename_i t hp
     cases ht
     exact⟨_,rfl,h.kupn _ hr ha (P0 p hp (h.ri r hr) (by simp))⟩
   . cases ht
 . cases ht
theorem NL (h:Ag G A σ σ') {r:Nat} {p:List Step} {v:AV} (hr:A r) (ha:∀x∈G.JG r,A x) (ht:LP G r p σ=some (v,τ)):∃τ',LP G r p σ'=some (v,τ')/\Mv G A σ σ' τ τ':=by
 unfold LP at ht ⊢
 rw[h.eq r hr]
 split at ht
 . rename_i b k rows hs
   split at ht
   . rename_i t hp
     cases ht
     refine⟨_,rfl,h.uE hr ha (P0 p hp (h.ri r hr) ?_)⟩
     cases b<;>simp
   . cases ht
 . cases ht
theorem kH (cs:List AV):∀{σ σ' τ:Sg} {l:List AV},Ag G A σ σ'->(∀r p,AV.al r p∈cs->A r/\∀x∈G.JG r,A x)->Vv G cs σ=some (l,τ)->∃τ',Vv G cs σ'=some (l,τ')/\Mv G A σ σ' τ τ':=by
 induction cs with
 |nil=>intro σ σ' τ l h _ ht;simp only[Vv,Option.some.injEq,Prod.mk.injEq]at ht ⊢;obtain⟨rfl,rfl⟩:=ht;exact⟨σ',⟨rfl,rfl⟩,.refl h⟩
 |cons a cs ih=>
  intro σ σ' τ l h hc ht
  have hc':∀r p,AV.al r p∈cs->A r/\∀x∈G.JG r,A x:=λr p hm=>hc r p (by simp[hm])
  have plain:(∀r p,a≠ .al r p)->∃τ',Vv G (a::cs) σ'=some (l,τ')/\Mv G A σ σ' τ τ':=by
   intro hna
   have e:∀σ,Vv G (a::cs) σ=if D3 a=true then(match Vv G cs σ with|some (l,τ)=>some (a::l,τ)|none=>none)else none:=by
    intro σ;cases a<;>first|rfl|exact absurd rfl (hna _ _)
   rw[e]at ht ⊢
   split at ht
   . rename_i hca
     rw[if_pos hca]
     split at ht
     . rename_i l' τ1 h1
       cases ht
       obtain⟨τ',g1,g2⟩:=ih h hc' h1
       exact⟨τ',by rw[g1],g2⟩
     . cases ht
   . cases ht
  cases a with
  |al r p=>
   obtain⟨hr,ha⟩:=hc r p (by simp)
   simp only[Vv]at ht ⊢
   split at ht
   . rename_i n τ1 h1
     obtain⟨τ1',g1,g2⟩:=P2 h hr ha h1
     rw[g1]
     simp only
     split at ht
     . rename_i l' τ2 h2
       cases ht
       obtain⟨τ2',g3,g4⟩:=ih g2.ag hc' h2
       exact⟨τ2',by rw[g3],g2.trans g4⟩
     . cases ht
   . cases ht
  |_=>exact plain (by simp)
theorem Ku (h:Ag G A σ σ') {x:Ar} {v:AV} (hx:XT G A x) (ht:tk G x σ=some (v,τ)):∃τ',tk G x σ'=some (v,τ')/\Mv G A σ σ' τ τ':=by
 cases x with
 |c a=>simp only[tk,Option.some.injEq,Prod.mk.injEq]at ht ⊢;obtain⟨rfl,rfl⟩:=ht;exact⟨σ',⟨rfl,rfl⟩,.refl h⟩
 |t s=>
  have hcl:Cl G A s:=hx
  have hs:=h.eq s hcl.own
  have hri:=h.ri s hcl.own
  simp only[tk]at ht ⊢
  rw[hs]
  cases hv:σ s with
  |al r p=>
   rw[hv]at ht hri
   simp only[HB,List.contains_iff_mem]at hri
   obtain⟨h1,h2⟩:=hcl.rt r hri
   exact P2 h h1 h2 ht
  |own b k rows=>
   rw[hv]at ht
   cases ht
   exact⟨_,rfl,h.uE hcl.own hcl.JG (by simp)⟩
  |agg cs=>
   rw[hv]at ht hri
   simp only at ht ⊢
   split at ht
   . rename_i hp
     cases ht
     rw[if_pos hp]
     exact⟨σ',rfl,.refl h⟩
   . rename_i hp
     rw[if_neg hp]
     split at ht
     . rename_i l τ1 h1
       cases ht
       have hm:=h.uE (t:=.dead) hcl.own hcl.JG (by simp)
       obtain⟨τ',g1,g2⟩:=kH cs hm.ag (by
        intro r p hrp
        rw[HA,List.all_eq_true]at hri
        have:=hri _ hrp
        simp only[HB,List.contains_iff_mem]at this
        exact hcl.rt r this) h1
       exact⟨τ',by rw[g1],hm.trans g2⟩
     . cases ht
  |sc=>rw[hv]at ht;cases ht;exact⟨σ',rfl,.refl h⟩
  |sl=>rw[hv]at ht;cases ht;exact⟨σ',rfl,.refl h⟩
  |HX=>rw[hv]at ht;cases ht;exact⟨σ',rfl,.refl h⟩
  |fp=>rw[hv]at ht;cases ht;exact⟨σ',rfl,.refl h⟩
  |_=>rw[hv]at ht;cases ht
theorem XM (xs:List Ar):∀{σ σ' τ:Sg} {l:List AV},Ag G A σ σ'->(∀x∈xs,XT G A x)->Iu G xs σ=some (l,τ)->∃τ',Iu G xs σ'=some (l,τ')/\Mv G A σ σ' τ τ':=by
 induction xs with
 |nil=>intro σ σ' τ l h _ ht;simp only[Iu,Option.some.injEq,Prod.mk.injEq]at ht ⊢;obtain⟨rfl,rfl⟩:=ht;exact⟨σ',⟨rfl,rfl⟩,.refl h⟩
 |cons x xs ih=>
  intro σ σ' τ l h hx ht
  simp only[Iu]at ht ⊢
  split at ht
  . rename_i a τ1 h1
    obtain⟨τ1',g1,g2⟩:=Ku h (hx x (by simp)) h1
    rw[g1]
    simp only
    split at ht
    . rename_i l' τ2 h2
      cases ht
      obtain⟨τ2',g3,g4⟩:=ih g2.ag (λy hy=>hx y (by simp[hy])) h2
      exact⟨τ2',by rw[g3],g2.trans g4⟩
    . cases ht
  . cases ht
theorem Zi (xs:List Ar):∀{σ σ' τ:Sg} {l:List AV},Ag G A σ σ'->(∀x∈xs,XT G A x)->Lz G xs σ=some (l,τ)->∃τ',Lz G xs σ'=some (l,τ')/\Mv G A σ σ' τ τ':=by
 induction xs with
 |nil=>intro σ σ' τ l h _ ht;simp only[Lz,Option.some.injEq,Prod.mk.injEq]at ht ⊢;obtain⟨rfl,rfl⟩:=ht;exact⟨σ',⟨rfl,rfl⟩,.refl h⟩
 |cons x xs ih=>
  intro σ σ' τ l h hx ht
  simp only[Lz]at ht ⊢
  split at ht
  . rename_i a τ1 h1
    obtain⟨τ1',g1,g2⟩:=Ku h (hx x (by simp)) h1
    rw[g1]
    simp only
    split at ht
    . rename_i l' τ2 h2
      cases ht
      obtain⟨τ2',g3,g4⟩:=ih g2.ag (λy hy=>hx y (by simp[hy])) h2
      exact⟨τ2',by rw[g3],g2.trans g4⟩
    . cases ht
  . cases ht
theorem bP (ps:List (Nat×Nat×Ar)):∀{σ σ' τ:Sg} {cs l:List AV},Ag G A σ σ'->(∀p∈ps,XT G A p.2.2)->PJ G ps cs σ=some (l,τ)->∃τ',PJ G ps cs σ'=some (l,τ')/\Mv G A σ σ' τ τ':=by
 induction ps with
 |nil=>intro σ σ' τ cs l h _ ht;simp only[PJ,Option.some.injEq,Prod.mk.injEq]at ht ⊢;obtain⟨rfl,rfl⟩:=ht;exact⟨σ',⟨rfl,rfl⟩,.refl h⟩
 |cons p ps ih=>
  obtain⟨off,n,x⟩:=p
  intro σ σ' τ cs l h hx ht
  simp only[PJ]at ht ⊢
  split at ht
  . rename_i a τ1 h1
    obtain⟨τ1',g1,g2⟩:=Ku h (hx _ (List.mem_cons_self ..)) h1
    rw[g1]
    simp only
    split at ht
    . rename_i hc
      rw[if_pos hc]
      obtain⟨τ2',g3,g4⟩:=ih g2.ag (λy hy=>hx y (by simp[hy])) ht
      exact⟨τ2',g3,g2.trans g4⟩
    . cases ht
  . cases ht
theorem bR (k:Nat) (ps:List (Nat×Ar)):∀{σ σ' τ:Sg} {cs l:List (List AV)},Ag G A σ σ'->(∀p∈ps,XT G A p.2)->PK G k ps cs σ=some (l,τ)->∃τ',PK G k ps cs σ'=some (l,τ')/\Mv G A σ σ' τ τ':=by
 induction ps with
 |nil=>intro σ σ' τ cs l h _ ht;simp only[PK,Option.some.injEq,Prod.mk.injEq]at ht ⊢;obtain⟨rfl,rfl⟩:=ht;exact⟨σ',⟨rfl,rfl⟩,.refl h⟩
 |cons p ps ih=>
  obtain⟨i,x⟩:=p
  intro σ σ' τ cs l h hx ht
  simp only[PK]at ht ⊢
  split at ht
  . rename_i a τ1 h1
    obtain⟨τ1',g1,g2⟩:=Ku h (hx _ (List.mem_cons_self ..)) h1
    rw[g1]
    simp only
    split at ht
    . rename_i hc
      rw[if_pos hc]
      obtain⟨τ2',g3,g4⟩:=ih g2.ag (λy hy=>hx y (by simp[hy])) ht
      exact⟨τ2',g3,g2.trans g4⟩
    . cases ht
  . cases ht
theorem aK {k:Nat} {y:Ar} {rows:List (List AV)} (h:Ag G A σ σ') (hy:XT G A y) (ht:QK G k y σ=some (rows,τ)):∃τ',QK G k y σ'=some (rows,τ')/\Mv G A σ σ' τ τ':=by
 cases y with
 |c a=>
  simp only[QK]at ht ⊢
  split at ht
  . cases ht;exact⟨σ',rfl,.refl h⟩
  . cases ht
 |t s=>
  have hcl:Cl G A s:=hy
  have hs:=h.eq s hcl.own
  have hri:=h.ri s hcl.own
  simp only[QK]at ht ⊢
  rw[hs]
  cases hv:σ s with
  |own b k' rows'=>
   rw[hv]at ht
   cases b with
   |true=>cases ht
   |false=>
    simp only at ht ⊢
    split at ht
    . rename_i hc;cases ht;rw[if_pos hc];exact⟨_,rfl,h.uE hcl.own hcl.JG (by simp)⟩
    . cases ht
  |sl e k' rows'=>
   rw[hv]at ht
   simp only at ht ⊢
   split at ht
   . rename_i hc;cases ht;rw[if_pos hc];exact⟨_,rfl,.refl h⟩
   . cases ht
  |al r p=>
   rw[hv]at ht hri
   simp only[HB,List.contains_iff_mem]at hri
   obtain⟨h1,h2⟩:=hcl.rt r hri
   simp only at ht ⊢
   split at ht
   . rename_i hf
     obtain⟨τ1',g1,g2⟩:=NL h h1 h2 hf
     rw[g1]
     simp only
     split at ht
     . rename_i hc;cases ht;rw[if_pos hc];exact⟨_,rfl,g2⟩
     . cases ht
   . cases ht
  |_=>rw[hv]at ht;cases ht
theorem Uj {k:Nat} {x:Ar} {v:AV} (h:Ag G A σ σ') (hy:XT G A x) (ht:PG G k x σ=some (v,τ)):∃τ',PG G k x σ'=some (v,τ')/\Mv G A σ σ' τ τ':=by
 cases x with
 |c a=>
  simp only[PG]at ht ⊢
  split at ht
  . cases ht;exact⟨σ',rfl,.refl h⟩
  . cases ht
 |t s=>
  have hcl:Cl G A s:=hy
  have hs:=h.eq s hcl.own
  have hri:=h.ri s hcl.own
  simp only[PG]at ht ⊢
  rw[hs]
  cases hv:σ s with
  |own b k' rows'=>
   rw[hv]at ht
   cases b with
   |true=>cases ht
   |false=>
    simp only at ht ⊢
    split at ht
    . rename_i hc;cases ht;rw[if_pos hc];exact⟨_,rfl,h.uE hcl.own hcl.JG (by simp)⟩
    . cases ht
  |sl e k' rows'=>
   rw[hv]at ht
   cases e with
   |false=>cases ht
   |true=>
    simp only at ht ⊢
    split at ht
    . rename_i hc;cases ht;rw[if_pos hc];exact⟨_,rfl,.refl h⟩
    . cases ht
  |al r p=>
   rw[hv]at ht hri
   simp only[HB,List.contains_iff_mem]at hri
   obtain⟨h1,h2⟩:=hcl.rt r hri
   simp only at ht ⊢
   split at ht
   . rename_i hf
     obtain⟨τ1',g1,g2⟩:=P2 h h1 h2 hf
     rw[g1]
     simp only
     split at ht
     . rename_i hc;cases ht;rw[if_pos hc];exact⟨_,rfl,g2⟩
     . cases ht
   . cases ht
  |_=>rw[hv]at ht;cases ht
end Go.Abs
namespace Go.Abs
variable {G:Gi} {A:Nat->Prop} {σ σ' τ τ':Sg} {P:Program}
def PD (G:Gi) (A:Nat->Prop):Ar->Prop
 | .t s=>A s/\∀r∈G.Ee s,A r
 | .c a=>D9 [] a=true
theorem Cl.look {s:Nat} (h:Cl G A s):PD G A (.t s):=⟨h.own,λr hr=>(h.rt r hr).1⟩
theorem XT.look {x:Ar} (h:XT G A x):PD G A x:=by
 cases x with
 |t s=>exact Cl.look h
 |c=>exact h
theorem Ag.ar (h:Ag G A σ σ') {x:Ar} (hx:PD G A x):ar σ' x=ar σ x:=by
 cases x with
 |t s=>exact h.eq s hx.1
 |c=>rfl
theorem Ag.root (h:Ag G A σ σ') {s r:Nat} {p:List Step} (hx:PD G A (.t s)) (hs:σ s= .al r p):A r:=by
 have:=h.ri s hx.1
 rw[hs]at this
 simp only[HB,List.contains_iff_mem]at this
 exact hx.2 r this
theorem Ag.jY (h:Ag G A σ σ') {s r:Nat} {p:List Step} {i j k:Nat} (hx:PD G A (.t s)) (hs:σ s= .HX r p i j k):A r:=by
 have:=h.ri s hx.1
 rw[hs]at this
 simp only[Pz,List.contains_iff_mem]at this
 exact hx.2 r this
theorem Ag.hd (h:Ag G A σ σ') {x:Ar} (hx:PD G A x):hd σ' x=hd σ x:=by
 cases x with
 |c=>rfl
 |t s=>
  unfold Abs.hd
  simp only
  rw[h.eq s hx.1]
  cases hs:σ s with
  |al r p=>simp only;rw[h.eq r (h.root hx hs)]
  |_=>rfl
theorem Ag.C3 (h:Ag G A σ σ') {x:Ar} (hx:PD G A x):C3 σ' x=C3 σ x:=by
 cases x with
 |c=>rfl
 |t s=>
  unfold Abs.C3
  simp only
  rw[h.eq s hx.1]
  cases hs:σ s with
  |al r p=>simp only;rw[h.eq r (h.root hx hs)]
  |own b k rows=>cases b<;>rfl
  |_=>rfl
theorem Ag.JF (h:Ag G A σ σ') {x:Ar} (hx:PD G A x) {r:Nat} {p:List Step} {i j k:Nat} (ha:Abs.C3 σ x=some (r,p,i,j,k)):A r:=by
 cases x with
 |c=>cases ha
 |t s=>
  unfold Abs.C3 at ha
  simp only at ha
  cases hs:σ s with
  |al r' p'=>
   rw[hs]at ha
   simp only at ha
   split at ha
   . cases ha;exact h.root hx hs
   . cases ha
  |HX r' p' i' j' k'=>rw[hs]at ha;cases ha;exact h.jY hx hs
  |own b k' rows=>rw[hs]at ha;cases b<;>cases ha;exact hx.1
  |_=>rw[hs]at ha;cases ha
theorem Ag.I7 (h:Ag G A σ σ') {x:Option Ar} (hx:∀y,x=some y->PD G A y) (d:Nat):I7 σ' x d=I7 σ x d:=by
 cases x with
 |none=>rfl
 |some y=>simp only[Abs.I7];rw[h.ar (hx y rfl)]
theorem Ag.Zz (h:Ag G A σ σ') {x:Option Ar} (hx:∀y,x=some y->PD G A y) (d:Nat):Zz σ' x d=Zz σ x d:=by
 cases x with
 |none=>rfl
 |some y=>simp only[Abs.Zz];rw[h.I7 hx]
def reads:Rq->List Ar
 | .cp x=>[x]
 | .pick c a b=>[c,a,b]
 | .ld _ _ a=>[a]
 | .PL _ x=>[x]
 | .fld _ _ _ x=>[x]
 | .Lr _ x i=>[x,i]
 | .kP _ _ x i=>[x,i]
 | .idx _ _ _ x i=>[x,i]
 | .bin _ x y=>[x,y]
 | .beq _ x y=>[x,y]
 | .un _ x=>[x]
 | .Xk _ x=>[x]
 | .mm _ x y=>[x,y]
 | .len x=>[x]
 | .Pk x=>[x]
 | .UE x i=>[x,i]
 | .Vm _ _ x y=>[x,y]
 | .ext x _=>[x]
 | .jA x _=>[x]
 | .mk _ _ _ l c=>[l,c]
 | .FF x=>[x]
 | .q9 x=>[x]
 | .fM _ xs=>xs
 | .Qt a=>[a]
 | .VE r _ _ _ i=>[.t r,i]
 | .UM _ _ _ lo hi mx=>lo.toList++hi.toList++mx.toList
 | .call _ args m=>if m=1∨m=3∨m=4 then[]else args
 | .EK _ pre _ _ post=>pre++post
 |_=>[]
def takes:Rq->List Ar
 | .mv x=>[x]
 | .fz x=>[x]
 | .bx _ x=>[x]
 | .Dc _ ps=>ps.map (·.2.2)
 | .Eg _ _ ps=>ps.map (·.2)
 | .st _ a v=>[a,v]
 | .P1 a v=>[a,v]
 | .app _ _ x y=>[x,y]
 | .UM _ _ x _ _ _=>[x]
 | .call _ args m=>if m=1∨m=3∨m=4 then args else[]
 | .EK _ _ x _ _=>[x]
 |_=>[]
theorem Ag.valOf (h:Ag G A σ σ') (o:Rq) (hx:∀x∈reads o,PD G A x):valOf o σ'=valOf o σ:=by
 cases o with
 |cp x=>
  cases x with
  |c=>rfl
  |t s=>simp only[Abs.valOf];rw[h.eq s (hx (.t s) (by simp[reads])).1]
 |pick c a b=>
  have h1:=h.ar (hx c (by simp[reads]))
  have h2:=h.ar (hx a (by simp[reads]))
  have h3:=h.ar (hx b (by simp[reads]))
  simp only[Abs.valOf]
  rw[h1]
  cases Abs.ar σ c with
  |sc v=>
   cases v with
   |bool x=>cases x<;>simp[h2,h3]
   |_=>rfl
  |_=>rfl
 |ld agg n a=>
  cases a with
  |c=>rfl
  |t s=>
   have hl:=hx (.t s) (by simp[reads])
   simp only[Abs.valOf]
   rw[h.eq s hl.1]
   cases hs:σ s with
   |fp=>rfl
   |vb q o us=>
    have hq:A q:=by
     have:=h.ri s hl.1
     rw[hs]at this
     simp only[sJ,List.contains_iff_mem]at this
     exact hl.2 q this
    simp only
    rw[h.eq q hq]
   |_=>
    simp only
    rw[h.C3 hl]
    cases ha:Abs.C3 σ (.t s)with
    |none=>rfl
    |some q=>obtain⟨r,p,i,j,k⟩:=q;simp only;rw[h.eq r (h.JF hl ha)]
 |PL off x=>
  cases x with
  |c=>rfl
  |t s=>
   have hl:=hx (.t s) (by simp[reads])
   simp only[Abs.valOf]
   rw[h.eq s hl.1,h.C3 hl]
 |fld agg off n x=>
  cases x with
  |c=>rfl
  |t s=>
   have hl:=hx (.t s) (by simp[reads])
   simp only[Abs.valOf]
   rw[h.eq s hl.1]
 |Lr k x i=>
  simp only[Abs.valOf]
  rw[h.hd (hx x (by simp[reads])),h.ar (hx i (by simp[reads]))]
 |kP len k x i=>
  cases x with
  |c=>rfl
  |t s=>
   have hl:=hx (.t s) (by simp[reads])
   simp only[Abs.valOf]
   rw[h.ar (hx i (by simp[reads]))]
   cases WG (Abs.ar σ i)with
   |none=>rfl
   |some n=>simp only;rw[h.eq s hl.1,h.C3 hl]
 |idx agg len k x i=>
  cases x with
  |c=>rfl
  |t s=>
   have hl:=hx (.t s) (by simp[reads])
   simp only[Abs.valOf]
   rw[h.ar (hx i (by simp[reads]))]
   cases WG (Abs.ar σ i)with
   |none=>rfl
   |some n=>simp only;rw[h.eq s hl.1]
 |bin op x y=>simp only[Abs.valOf];rw[h.ar (hx x (by simp[reads])),h.ar (hx y (by simp[reads]))]
 |beq op x y=>simp only[Abs.valOf];rw[h.ar (hx x (by simp[reads])),h.ar (hx y (by simp[reads]))]
 |un op x=>simp only[Abs.valOf];rw[h.ar (hx x (by simp[reads]))]
 |Xk op x=>simp only[Abs.valOf];rw[h.ar (hx x (by simp[reads]))]
 |mm mx x y=>simp only[Abs.valOf];rw[h.ar (hx x (by simp[reads])),h.ar (hx y (by simp[reads]))]
 |len x=>simp only[Abs.valOf];rw[h.hd (hx x (by simp[reads]))]
 |Pk x=>simp only[Abs.valOf];rw[h.ar (hx x (by simp[reads]))]
 |Vm neg kd x y=>simp only[Abs.valOf];rw[h.ar (hx x (by simp[reads])),h.ar (hx y (by simp[reads]))]
 |UE x y=>simp only[Abs.valOf];rw[h.ar (hx x (by simp[reads])),h.ar (hx y (by simp[reads]))]
 |ext x i=>
  cases x with
  |c=>rfl
  |t s=>simp only[Abs.valOf];rw[h.eq s (hx (.t s) (by simp[reads])).1]
 |fM f xs=>
  have key:∀l:List Ar,(∀x∈l,PD G A x)->M8 σ' l=M8 σ l:=by
   intro l
   induction l with
   |nil=>intro _;rfl
   |cons x l ih=>
    intro hl
    have h1:=hl x (by simp)
    have h2:=ih λy hy=>hl y (by simp[hy])
    cases x with
    |c=>rfl
    |t s=>
     simp only[M8]
     rw[h.eq s h1.1,h2]
     cases hs:σ s with
     |al r p=>cases M8 σ l<;>first|rfl| (simp only;rw[h.eq r (h.root h1 hs)])
     |own b k rows=>cases b<;>cases M8 σ l<;>rfl
     |_=>cases M8 σ l<;>rfl
  simp only[Abs.valOf]
  rw[key xs (λx hx'=>hx x (by simpa[reads]using hx'))]
 |fl=>rfl
 |jA x i=>
  cases x with
  |c=>rfl
  |t s=>simp only[Abs.valOf];rw[h.eq s (hx (.t s) (by simp[reads])).1]
 |VE r off kb k i=>simp only[Abs.valOf];rw[h.eq r (hx (.t r) (by simp[reads])).1,h.ar (hx i (by simp[reads]))]
 |Qt a=>
  have hl:=hx a (by simp[reads])
  simp only[Abs.valOf]
  rw[h.C3 hl]
  cases ha:Abs.C3 σ a with
  |none=>rfl
  |some q=>obtain⟨r,p,i,j,k⟩:=q;simp only;rw[h.eq r (h.JF hl ha)]
 |FF x=>
  have hl:=hx x (by simp[reads])
  simp only[Abs.valOf]
  rw[h.ar hl]
  cases x with
  |c a=>
   cases a with
   |al r p=>simp[PD]at hl
   |own b k rows=>cases b<;>rfl
   |_=>rfl
  |t s=>
   simp only[Abs.ar]
   cases hs:σ s with
   |al r p=>simp only;rw[h.eq r (h.root hl hs)]
   |own b k rows=>cases b<;>rfl
   |_=>rfl
 |_=>rfl
variable {W:Nat->Prop}
theorem NR (kl:List Nat) (d:Nat) (σ:Sg) (s:Nat):Fh kl d σ s=if s∈kl then Cb d (σ s)else σ s:=by
 cases kl<;>simp[Fh]
theorem Ag.mono {R:Nat->Prop} (h:Ag G R σ σ') (hs:∀s,A s->R s):Ag G A σ σ':=⟨λs a=>h.eq s (hs s a),λs a=>h.ri s (hs s a)⟩
theorem Mv.wr {d:DU} {v:AV} {υ:Sg} (h:Mv G W σ σ' τ τ') (hd:W d.d/\d.rs=G.Ee d.d) (hk:∀x∈d.kl,W x) (hw:wr d v τ=some υ):∃υ',wr d v τ'=some υ'/\Mv G W σ σ' υ υ':=by
 unfold Abs.wr at hw ⊢
 split at hw
 . rename_i hr
   cases hw
   rw[if_pos hr]
   refine⟨_,rfl,⟨λs hs=> ?_,λs hs=> ?_⟩,λs hs=> ?_⟩
   . simp only[DF,NR,h.ag.eq s hs]
   . simp only[DF,NR]
     split
     . rename_i e;subst e;rw[← hd.2];exact hr
     . split
       . exact JS _ _ _ (h.ag.ri s hs)
       . exact h.ag.ri s hs
   . have h1:s≠d.d:=λe=>hs (e▸hd.1)
     have h2:s∉d.kl:=λe=>hs (hk s e)
     simp only[DF,h1,if_false,NR,h2]
     exact h.off s hs
 . cases hw
theorem X5 {L:List Nat} (p:List Step) (i k:Nat) (cs:List AV):∀{j:Nat} {t t':AV},eR p i k j cs t=some t'->D9 L t=true->cs.all D3=true->D9 L t'=true:=by
 induction cs with
 |nil=>intro j t t' h ht _;simp only[eR,Option.some.injEq]at h;subst h;exact ht
 |cons c cs ih=>
  intro j t t' h ht hc
  simp only[List.all_cons,Bool.and_eq_true]at hc
  simp only[eR]at h
  split at h
  . rename_i t1 h1
    exact ih h (P0 _ h1 ht (Ut hc.1)) hc.2
  . cases h
def fR (G:Gi) (W:Nat->Prop) (d:Option DU):Prop:=∀x,d=some x->(W x.d/\x.rs=G.Ee x.d)/\∀y∈x.kl,W y
theorem iX {R:Nat->Prop} (h:Ag G R σ σ') (hWR:∀s,W s->R s) {o:Rq} {d:Option DU} (ht:∀x∈takes o,XT G W x) (hr:∀x∈reads o,PD G R x) (hd:fR G W d) (he:ES G o d σ=some τ):
 ∃τ',ES G o d σ'=some τ'/\Mv G W σ σ' τ τ':=by
 have hW:Ag G W σ σ':=h.mono hWR
 have val:∀d',d=some d'->(match Abs.valOf o σ with|some v=>Abs.wr d' v σ|none=>none)=some τ->∃τ',(match Abs.valOf o σ' with|some v=>Abs.wr d' v σ'|none=>none)=some τ'/\Mv G W σ σ' τ τ':=by
  intro d' hd' he
  rw[h.valOf o hr]
  cases hv:Abs.valOf o σ with
  |none=>rw[hv]at he;cases he
  |some v=>rw[hv]at he;exact(Mv.refl hW).wr (hd d' hd').1 (hd d' hd').2 he
 cases d with
 |none=>
  cases o with
  |st n a v=>
   simp only[ES]at he ⊢
   split at he
   . rename_i x τ1 h1
     obtain⟨τ1',g1,g2⟩:=Ku hW (ht v (by simp[takes])) h1
     rw[g1]
     simp only
     have hla:=(ht a (by simp[takes])).look
     rw[g2.ag.C3 hla]
     split at he
     . rename_i r p i j k ha
       have hAr:W r:=g2.ag.JF hla ha
       have hals:∀x∈G.JG r,W x:=by
        have hca:=ht a (by simp[takes])
        cases a with
        |c=>cases ha
        |t s=>
         have hcl:Cl G W s:=hca
         simp only[Abs.C3]at ha
         have hri:=g2.ag.ri s hcl.own
         cases hs:τ1 s with
         |al r' p'=>
          rw[hs]at ha hri
          simp only at ha
          simp only[HB,List.contains_iff_mem]at hri
          split at ha
          . cases ha;exact(hcl.rt _ hri).2
          . cases ha
         |HX r' p' i' j' k'=>
          rw[hs]at ha hri;cases ha
          simp only[Pz,List.contains_iff_mem]at hri
          exact(hcl.rt _ hri).2
         |own b k' rows=>rw[hs]at ha;cases b<;>cases ha;exact hcl.JG
         |_=>rw[hs]at ha;cases ha
       rw[g2.ag.eq r hAr]
       split at he
       . rename_i b0 k0 rows hsub
         split at he
         . rename_i row hrow
           split at he
           . rename_i hc
             rw[if_pos hc]
             split at he
             . rename_i t hst
               have hrt:D9 (G.Ee r) t=true:=X5 p i k _ hst (g2.ag.ri r hAr) hc.2.1
               split at he
               . rename_i hl
                 cases he
                 rw[if_pos hl]
                 exact⟨_,rfl,(g2.trans (g2.ag.up hAr hrt))⟩
               . rename_i hl
                 cases he
                 rw[if_neg hl]
                 exact⟨_,rfl,(g2.trans (g2.ag.uE hAr hals hrt))⟩
             . cases he
           . cases he
         . cases he
       . cases he
     . cases he
   . cases he
  |P1 a v=>
   have hla:=(ht a (by simp[takes])).look
   simp only[ES]at he ⊢
   rw[hW.ar (ht v (by simp[takes])).look,hW.C3 hla]
   split at he
   . rename_i u hu
     split at he
     . rename_i r p i j k ha
       have hAr:W r:=hW.JF hla ha
       rw[hW.eq r hAr]
       split at he
       . rename_i b0 k0 rows hsub
         split at he
         . rename_i row hrow
           split at he
           . rename_i u0 hc0
             split at he
             . rename_i t hst
               have hrt:D9 (G.Ee r) t=true:=X5 p i k [.sc u] (j:=j) (by simp only[eR];rw[hst]) (hW.ri r hAr) (by simp[D3])
               cases he
               exact⟨_,rfl,hW.up hAr hrt⟩
             . cases he
           . cases he
         . cases he
       . cases he
     . cases he
   . cases he
  |q9 a=>
   simp only[ES]at he ⊢
   have hla:=hr a (by simp[reads])
   rw[h.C3 hla]
   split at he
   . rename_i r p i j k ha
     rw[h.eq r (h.JF hla ha)]
     split at he
     . cases he;exact⟨σ',rfl,Mv.refl hW⟩
     . cases he
   . cases he
  |_=>simp[ES]at he
 |some d=>
  obtain⟨hd1,hd2⟩:=hd d rfl
  cases o with
  |mv x=>
   simp only[ES]at he ⊢
   split at he
   . rename_i v τ1 h1
     obtain⟨τ1',g1,g2⟩:=Ku hW (ht x (by simp[takes])) h1
     rw[g1]
     exact g2.wr hd1 hd2 he
   . cases he
  |fz x=>
   cases x with
   |c=>simp[ES]at he
   |t s=>
    have hcl:Cl G W s:=ht (.t s) (by simp[takes])
    have hri:=hW.ri s hcl.own
    simp only[ES]at he ⊢
    rw[hW.eq s hcl.own]
    cases hs:σ s with
    |al r p=>
     rw[hs]at he hri
     simp only[HB,List.contains_iff_mem]at hri
     simp only at he ⊢
     split at he
     . rename_i v τ1 h1
       obtain⟨τ1',g1,g2⟩:=NL hW (hcl.rt r hri).1 (hcl.rt r hri).2 h1
       rw[g1]
       exact g2.wr hd1 hd2 he
     . cases he
    |own b k rows=>
     rw[hs]at he
     simp only at he ⊢
     split at he
     . rename_i v τ1 h1
       obtain⟨τ1',g1,g2⟩:=NL hW hcl.own hcl.JG h1
       rw[g1]
       exact g2.wr hd1 hd2 he
     . cases he
    |sc v=>rw[hs]at he;exact(Mv.refl hW).wr hd1 hd2 he
    |sl e k rows=>rw[hs]at he;exact(Mv.refl hW).wr hd1 hd2 he
    |_=>rw[hs]at he;cases he
  |bx n x=>
   simp only[ES]at he ⊢
   split at he
   . rename_i v τ1 h1
     obtain⟨τ1',g1,g2⟩:=Ku hW (ht x (by simp[takes])) h1
     rw[g1]
     simp only
     split at he
     . rename_i hc;rw[if_pos hc];exact g2.wr hd1 hd2 he
     . cases he
   . cases he
  |Dc z ps=>
   simp only[ES]at he ⊢
   split at he
   . rename_i v τ1 h1
     obtain⟨τ1',g1,g2⟩:=bP ps hW (λp hp=>ht _ (by simp only[takes,List.mem_map];exact⟨p,hp,rfl⟩)) h1
     rw[g1]
     exact g2.wr hd1 hd2 he
   . cases he
  |Eg k z ps=>
   simp only[ES]at he ⊢
   split at he
   . rename_i v τ1 h1
     obtain⟨τ1',g1,g2⟩:=bR k ps hW (λp hp=>ht _ (by simp only[takes,List.mem_map];exact⟨p,hp,rfl⟩)) h1
     rw[g1]
     exact g2.wr hd1 hd2 he
   . cases he
  |mk k bytes z l c=>
   simp only[ES]at he ⊢
   rw[h.ar (hr l (by simp[reads])),h.ar (hr c (by simp[reads]))]
   split at he
   . rename_i l' c' h1 h2
     split at he
     . rename_i hc;rw[if_pos hc];exact(Mv.refl hW).wr hd1 hd2 he
     . cases he
   . cases he
  |UM k fr x lo hi mx=>
   have hcx:=ht x (by simp[takes])
   have hlo:∀y,lo=some y->PD G R y:=λy hy=>hr y (by simp[reads,hy])
   have hhi:∀y,hi=some y->PD G R y:=λy hy=>hr y (by simp[reads,hy])
   have hmx:∀y,mx=some y->PD G R y:=λy hy=>hr y (by simp[reads,hy])
   simp only[ES]at he ⊢
   rw[hW.hd hcx.look]
   have eo:∀d,Abs.I7 σ' lo d=Abs.I7 σ lo d:=h.I7 hlo
   have eh:∀d,Abs.I7 σ' hi d=Abs.I7 σ hi d:=h.I7 hhi
   have em:∀d,Abs.Zz σ' mx d=Abs.Zz σ mx d:=h.Zz hmx
   simp only[eo,eh,em]
   split at he
   . rename_i e k' rows q hhd
     try rw[hhd]
     try simp only
     split at he
     . rename_i l hh h1 h2
       try rw[h1,h2]
       try simp only
       split at he
       . rename_i rs m h3 h4
         try rw[h3,h4]
         try simp only
         split at he
         . rename_i hc;rw[if_pos hc];exact(Mv.refl hW).wr hd1 hd2 he
         . cases he
       . cases he
     . cases he
   . rename_i k' rows r p hhd
     have hroot:W r/\∀x∈G.JG r,W x:=by
      cases x with
      |c a=>cases a<;>cases hhd
      |t s=>
       have hcl:Cl G W s:=hcx
       have hri:=hW.ri s hcl.own
       simp only[Abs.hd]at hhd
       cases hs:σ s with
       |al r' p'=>
        rw[hs]at hhd hri
        simp only[HB,List.contains_iff_mem]at hri
        simp only at hhd
        split at hhd
        . cases hhd;exact hcl.rt _ hri
        . cases hhd
       |own b k rows=>rw[hs]at hhd;cases hhd;exact⟨hcl.own,hcl.JG⟩
       |sl=>rw[hs]at hhd;cases hhd
       |_=>rw[hs]at hhd;cases hhd
     try rw[hhd]
     try simp only
     split at he
     . rename_i l hh h1 h2
       try rw[h1,h2]
       try simp only
       split at he
       . rename_i rs m h3 h4
         try rw[h3,h4]
         try simp only
         split at he
         . rename_i hc
           rw[if_pos hc]
           split at he
           . rename_i hf
             rw[if_pos hf]
             split at he
             . rename_i v τ1 h5
               obtain⟨τ1',g1,g2⟩:=NL hW hroot.1 hroot.2 h5
               rw[g1]
               exact g2.wr hd1 hd2 he
             . cases he
           . rename_i hf
             rw[if_neg hf]
             split at he
             . rename_i hl
               rw[if_pos hl]
               split at he
               . rename_i v τ1 h5
                 obtain⟨τ1',g1,g2⟩:=P2 hW hroot.1 hroot.2 h5
                 rw[g1]
                 exact g2.wr hd1 hd2 he
               . cases he
             . cases he
         . cases he
       . cases he
     . cases he
   . cases he
  |app k bytes x y=>
   simp only[ES]at he ⊢
   split at he
   . rename_i ys τ1 h1
     obtain⟨τ1',g1,g2⟩:=aK hW (ht y (by simp[takes])) h1
     rw[g1]
     simp only
     split at he
     . rename_i b k' rows τ2 h2
       obtain⟨τ2',g3,g4⟩:=Uj g2.ag (ht x (by simp[takes])) h2
       rw[g3]
       simp only
       split at he
       . rename_i hc;rw[if_pos hc];exact(g2.trans g4).wr hd1 hd2 he
       . cases he
     . rename_i e k' rows τ2 h2
       obtain⟨τ2',g3,g4⟩:=Uj g2.ag (ht x (by simp[takes])) h2
       rw[g3]
       simp only
       split at he
       . exact(g2.trans g4).wr hd1 hd2 he
       . split at he
         . rename_i hc;rw[if_pos hc];exact(g2.trans g4).wr hd1 hd2 he
         . cases he
     . cases he
   . cases he
  |st=>simp[ES,Abs.valOf]at he
  |call=>simp[ES,Abs.valOf]at he
  |bad=>simp[ES,Abs.valOf]at he
  |_=>exact val d rfl he
end Go.Abs
namespace Go.Abs
variable {G:Gi} {A:Nat->Prop} {σ σ' τ τ':Sg} {P:Program}
theorem JX {d:Option DU} {v:AV} {K:Sg->Prop} {τ:Sg}:CJ d v K τ↔∃υ,CJ d v (· =υ) τ/\K υ:=by
 cases d with
 |none=>simp[CJ]
 |some d=>
  simp only[CJ]
  split<;>simp
theorem Si {o:A7} {K:Sg->Prop}:C5 P G o K σ↔∃τ,C5 P G o (· =τ) σ/\K τ:=by
 unfold C5
 split
 . split
   . constructor
     . rintro⟨res,h1,h2⟩
       split at h2
       . obtain⟨υ,g1,g2⟩:=JX.1 h2
         rename_i v hv
         exact⟨υ,⟨res,h1,by rw[hv];exact g1⟩,g2⟩
       . exact h2.elim
     . rintro⟨υ,⟨res,h1,h2⟩,h3⟩
       refine⟨res,h1,?_⟩
       split at h2
       . rename_i v hv
         exact JX.2 ⟨υ,h2,h3⟩
       . exact h2.elim
   . simp
 . split
   . split
     . constructor
       . rintro⟨res,out,u,h1,h2,h3,h4,h5⟩
         split at h5
         . obtain⟨υ,g1,g2⟩:=JX.1 h5
           rename_i t ht
           exact⟨υ,⟨res,out,u,h1,h2,h3,h4,by rw[ht];exact g1⟩,g2⟩
         . exact h5.elim
       . rintro⟨υ,⟨res,out,u,h1,h2,h3,h4,h5⟩,h6⟩
         refine⟨res,out,u,h1,h2,h3,h4,?_⟩
         split at h5
         . exact JX.2 ⟨υ,h5,h6⟩
         . exact h5.elim
     . simp
   . simp
 . split<;>simp
theorem KG {o:A7} {K:Sg->Prop}:HU P G o K σ↔∃τ,HU P G o (· =τ) σ/\K τ:=by
 unfold HU
 split
 . exact Si
 . split
   . split
     . exact Si
     . split<;>simp
   . split<;>simp
   . simp
theorem MG (ios:List A7):∀{σ:Sg} {K:Sg->Prop},KH P G ios K σ->∃q:Nat->Sg,q 0=σ/\(∀i io,ios[i]? =some io->HU P G io (· =q (i+1)) (q i))/\K (q ios.length):=by
 induction ios with
 |nil=>intro σ K h;exact⟨λ_=>σ,rfl,by simp,h⟩
 |cons o os ih=>
  intro σ K h
  obtain⟨τ,h1,h2⟩:=KG.1 h
  obtain⟨q,g1,g2,g3⟩:=ih h2
  refine⟨λi=>match i with|0=>σ|i+1=>q i,rfl,?_,g3⟩
  intro i io hi
  cases i with
  |zero=>simp only[List.getElem?_cons_zero,Option.some.injEq]at hi;subst hi;simp only[g1];exact h1
  |succ i=>simp only[List.getElem?_cons_succ]at hi;exact g2 i io hi
theorem Ag.Nj (h:Ag G A σ σ') {a:AV} (ha:∀r p,a= .al r p->A r):Nj σ' a=Nj σ a:=by
 cases a with
 |al r p=>simp only[Abs.Nj];rw[h.eq r (ha r p rfl)]
 |own b k rows=>cases b<;>first|rfl| (match rows with|[]=>rfl|[_]=>rfl|_::_::_=>rfl)
 |_=>rfl
theorem Ag.Z0 (h:Ag G A σ σ') (cs:List AV):(∀r p,AV.al r p∈cs->A r)->Z0 σ' cs=Z0 σ cs:=by
 induction cs with
 |nil=>intro _;rfl
 |cons a cs ih=>
  intro ha
  simp only[Abs.Z0]
  rw[h.Nj (a:=a) (λr p e=>ha r p (by simp[e])),ih (λr p hm=>ha r p (by simp[hm]))]
theorem Ag.VV (h:Ag G A σ σ') {x:Ar} (hx:PD G A x):VV σ' (Abs.ar σ' x)=VV σ (Abs.ar σ x):=by
 rw[h.ar hx]
 cases x with
 |c a=>
  simp only[Abs.ar]
  cases a with
  |agg cs=>
   simp only[Abs.VV]
   rw[h.Z0 cs (λr p hm=>by
    have hx':D9 [] (.agg cs)=true:=hx
    rw[HA,List.all_eq_true]at hx'
    have:=hx' _ hm
    simp at this)]
  |al r p=>have hx':D9 [] (.al r p)=true:=hx;simp at hx'
  |own b k rows=>cases b<;>first|rfl| (match rows with|[]=>rfl|[_]=>rfl|_::_::_=>rfl)
  |_=>rfl
 |t s=>
  simp only[Abs.ar]
  cases hs:σ s with
  |agg cs=>
   simp only[Abs.VV]
   rw[h.Z0 cs (λr p hm=>by
    have:=h.ri s hx.1
    rw[hs,HA,List.all_eq_true]at this
    have:=this _ hm
    simp only[HB,List.contains_iff_mem]at this
    exact hx.2 r this)]
  |al r p=>simp only[Abs.VV];exact h.Nj (λr' p' e=>by cases e;exact h.root hx hs)
  |own b k rows=>cases b<;>first|rfl| (match rows with|[]=>rfl|[_]=>rfl|_::_::_=>rfl)
  |_=>rfl
theorem Ag.G5 (h:Ag G A σ σ') (xs:List Ar):(∀x∈xs,PD G A x)->G5 σ' xs=G5 σ xs:=by
 induction xs with
 |nil=>intro _;rfl
 |cons x xs ih=>
  intro hx
  simp only[Abs.G5]
  rw[h.VV (hx x (by simp)),ih (λy hy=>hx y (by simp[hy]))]
theorem Ag.QP (h:Ag G A σ σ') (rs:List (Nat×List Step)):(∀x∈rs,A x.1)->QP σ' rs=QP σ rs:=by
 induction rs with
 |nil=>intro _;rfl
 |cons x rs ih=>
  obtain⟨r,p⟩:=x
  intro hx
  simp only[Abs.QP]
  rw[h.Nj (a:=.al r p) (λr' p' e=>by cases e;exact hx (r,p) (by simp)),ih (λy hy=>hx y (by simp[hy]))]
theorem eZ (ys:List Ar):∀{σ σ' τ:Sg} {aZ9:List AV},Ag G A σ σ'->(∀x∈ys,XT G A x)->Pn G ys σ=some (aZ9,τ)->∃τ',Pn G ys σ'=some (aZ9,τ')/\Mv G A σ σ' τ τ':=by
 induction ys with
 |nil=>intro σ σ' τ aZ9 _ _ ht;simp[Pn]at ht
 |cons y ys ih=>
  intro σ σ' τ aZ9 h hx ht
  have hy:=hx y (by simp)
  cases ys with
  |nil=>
   simp only[Pn]at ht ⊢
   rw[h.ar hy.look]
   split at ht
   . rename_i f rs hcl
     have hroots:∀x∈rs,A x.1:=by
      intro x hxr
      cases y with
      |c c0=>simp only[Abs.ar]at hcl;subst hcl;have hy':D9 [] (.cl f rs)=true:=hy;simp only[XF,List.all_eq_true]at hy';have:=hy' x hxr;simp at this
      |t s=>
       simp only[Abs.ar]at hcl
       have hcl':Cl G A s:=hy
       have:=h.ri s hcl'.own
       rw[hcl,XF,List.all_eq_true]at this
       exact(hcl'.rt x.1 (by simpa using this x hxr)).1
     rw[h.QP rs hroots]
     split at ht
     . rename_i css hc
       simp only[Option.some.injEq,Prod.mk.injEq]at ht
       obtain⟨rfl,rfl⟩:=ht
       exact⟨σ',rfl,Mv.refl h⟩
     . cases ht
   . cases ht
  |cons y2 ys=>
   simp only[Pn]at ht ⊢
   split at ht
   . rename_i v τ1 h1
     obtain⟨τ1',g1,g2⟩:=Ku h hy h1
     rw[g1]
     simp only
     split at ht
     . rename_i l τ2 h2
       simp only[Option.some.injEq,Prod.mk.injEq]at ht
       obtain⟨rfl,rfl⟩:=ht
       obtain⟨τ2',g3,g4⟩:=ih g2.ag (λx hx'=>hx x (by simp[hx'])) h2
       rw[g3]
       exact⟨τ2',rfl,g2.trans g4⟩
     . cases ht
   . cases ht
theorem TU {W:Nat->Prop} {d:Option DU} {v:AV} {υ:Sg} (h:Mv G W σ σ' τ τ') (hd:fR G W d) (ht:CJ d v (· =υ) τ):∃υ',CJ d v (· =υ') τ'/\Mv G W σ σ' υ υ':=by
 cases d with
 |none=>cases ht;exact⟨τ',rfl,h⟩
 |some d=>
  simp only[CJ]at ht ⊢
  split at ht
  . rename_i x hx
    subst ht
    obtain⟨υ',g1,g2⟩:=h.wr (hd d rfl).1 (hd d rfl).2 hx
    exact⟨υ',by rw[g1],g2⟩
  . exact ht.elim
theorem Ag.fN (h:Ag G A σ σ') {x:Ar} (hx:PD G A x):fN σ' x=fN σ x:=by
 cases x with
 |c a=>rfl
 |t s=>simp only[Abs.fN];rw[h.eq s hx.1]
theorem Ag.Kg (h:Ag G A σ σ') (xs:List Ar):(∀x∈xs,PD G A x)->Kg σ' xs=Kg σ xs:=by
 induction xs with
 |nil=>intro _;rfl
 |cons x xs ih=>
  intro hx
  simp only[Abs.Kg]
  rw[h.fN (hx x (by simp)),ih (λy hy=>hx y (by simp[hy]))]
theorem Ag.Ke (h:Ag G A σ σ') {x:Ar} (hx:XT G A x) {c:Option Nat} {r:Nat} {p:List Step} (hp:Ke σ x c=some (r,p)):Ke σ' x c=some (r,p)/\(∀n,NV σ' x c n=NV σ x c n)/\A r/\∀y∈G.JG r,A y:=by
 cases x with
 |c a=>cases c<;>simp[Abs.Ke,sF]at hp
 |t s=>
  have hcl:Cl G A s:=hx
  have hri:=h.ri s hcl.own
  have e:σ' s=σ s:=h.eq s hcl.own
  have e1:Abs.Ke σ' (.t s) c=Abs.Ke σ (.t s) c:=by cases c<;>simp only[Abs.Ke,sF,e]
  refine⟨by rw[e1];exact hp,λn=>by cases c<;>simp only[NV,Abs.ar,e],?_⟩
  cases c with
  |none=>
   simp only[Abs.Ke,sF]at hp
   split at hp
   . rename_i r' p' hs
     cases hp
     rw[hs]at hri
     simp only[HB,List.contains_iff_mem]at hri
     exact⟨(hcl.rt _ hri).1,(hcl.rt _ hri).2⟩
   . cases hp;exact⟨hcl.own,hcl.JG⟩
   . cases hp
  |some j=>
   simp only[Abs.Ke]at hp
   split at hp
   . rename_i cs hs
     rw[hs]at hri
     split at hp
     . rename_i r' p' hj
       cases hp
       have:=(by rw[HA,List.all_eq_true]at hri;exact hri _ (List.mem_of_getElem? hj):D9 (G.Ee s) (.al r p)=true)
       simp only[HB,List.contains_iff_mem]at this
       exact⟨(hcl.rt _ this).1,(hcl.rt _ this).2⟩
     . cases hp;exact⟨hcl.own,hcl.JG⟩
     . cases hp
   . cases hp
theorem Ul {R W:Nat->Prop} (h:Ag G R σ σ') (hWR:∀s,W s->R s) {o:A7} (ht:∀x∈takes o.op,XT G W x) (hr:∀x∈reads o.op,PD G R x) (hd:fR G W o.dst) (he:C5 P G o (· =τ) σ):
 ∃τ',C5 P G o (· =τ') σ'/\Mv G W σ σ' τ τ':=by
 have hW:Ag G W σ σ':=h.mono hWR
 have plain:∀op,o.op=op->(match ES G op o.dst σ with|some υ=>υ=τ|none=>False)->∃τ',(match ES G op o.dst σ' with|some υ=>υ=τ'|none=>False)/\Mv G W σ σ' τ τ':=by
  intro op hop he
  split at he
  . rename_i υ hu
    subst he
    obtain⟨τ',g1,g2⟩:=iX h hWR (by rw[← hop];exact ht) (by rw[← hop];exact hr) hd hu
    exact⟨τ',by rw[g1],g2⟩
  . exact he.elim
 cases hop:o.op with
 |call f args m=>
  unfold C5 at he ⊢
  rw[hop]at he ht hr ⊢
  simp only at he ⊢
  split at he
  . rename_i aZ9 τ1 hca
    obtain⟨res,h1,h2⟩:=he
    have key:∃τ1',ER G m args σ'=some (aZ9,τ1')/\Mv G W σ σ' τ1 τ1':=by
     by_cases hm:m=1
     . subst hm
       simp only[ER]at hca ⊢
       obtain⟨τ1',g1,g2⟩:=XM args hW (by simpa[takes]using ht) hca
       exact⟨τ1',g1,g2⟩
     . by_cases hm3:m=3
       . subst hm3
         simp only[ER]at hca ⊢
         obtain⟨τ1',g1,g2⟩:=Zi args hW (by simpa[takes]using ht) hca
         exact⟨τ1',g1,g2⟩
       by_cases hm4:m=4
       . subst hm4
         simp only[ER]at hca ⊢
         obtain⟨τ1',g1,g2⟩:=eZ args hW (by simpa[takes]using ht) hca
         exact⟨τ1',g1,g2⟩
       have e:∀σ,ER G m args σ=match Abs.G5 σ args with|some l=>some (l,σ)|none=>none:=by
        intro σ
        unfold ER
        split
        . exact absurd rfl hm
        . exact absurd rfl hm3
        . exact absurd rfl hm4
        . rfl
       rw[e]at hca ⊢
       rw[h.G5 args (by simpa[reads,hm,hm3,hm4]using hr)]
       split at hca
       . cases hca;exact⟨σ',rfl,Mv.refl hW⟩
       . cases hca
    obtain⟨τ1',g1,g2⟩:=key
    rw[g1]
    simp only
    split at h2
    . rename_i v hv
      obtain⟨υ',g3,g4⟩:=TU g2 hd h2
      exact⟨υ',⟨res,h1,by rw[hv];exact g3⟩,g4⟩
    . exact h2.elim
  . exact he.elim
 |EK f pre x c post=>
  unfold C5 at he ⊢
  rw[hop]at he ht hr ⊢
  simp only at he ⊢
  split at he
  . rename_i r p aZ9 bs hp hpre hpost
    obtain⟨e1,e2,hAr,hals⟩:=hW.Ke (ht x (by simp[takes])) hp
    rw[e1,h.Kg pre (λy hy=>hr y (by simp[reads,hy])),h.Kg post (λy hy=>hr y (by simp[reads,hy])),hpre,hpost]
    simp only[e2]
    rw[hW.eq r hAr]
    split at he
    . rename_i b k rows hs
      obtain⟨res,out,u,h1,h2,h3,h4,h5⟩:=he
      split at h5
      . rename_i t hput
        have hrt:D9 (G.Ee r) t=true:=P0 _ hput (hW.ri r hAr) (QN h3)
        obtain⟨υ',g3,g4⟩:=TU (hW.kupn _ hAr hals hrt) hd h5
        exact⟨υ',⟨res,out,u,h1,h2,h3,h4,by rw[hput];exact g3⟩,g4⟩
      . exact h5.elim
    . exact he.elim
  . exact he.elim
 |_=>
  unfold C5 at he ⊢
  rw[hop]at he ⊢
  exact plain _ hop he
theorem gE {R W:Nat->Prop} (h:Ag G R σ σ') (hWR:∀s,W s->R s) {o:A7} (ht:∀x∈takes o.op,XT G W x) (hr:∀x∈reads o.op,PD G R x) (hd:fR G W o.dst) (hg:∀g,o.guard=some g->R g.1) (he:HU P G o (· =τ) σ):
 ∃τ',HU P G o (· =τ') σ'/\Mv G W σ σ' τ τ':=by
 have hW:Ag G W σ σ':=h.mono hWR
 have skip:(match o.dst with|some d=>DF (Fh d.kl d.d σ) d.d .un=τ|none=>σ=τ)->∃τ',(match o.dst with|some d=>DF (Fh d.kl d.d σ') d.d .un=τ'|none=>σ'=τ')/\Mv G W σ σ' τ τ':=by
  intro he
  cases hdd:o.dst with
  |none=>rw[hdd]at he;subst he;exact⟨σ',rfl,Mv.refl hW⟩
  |some d=>
   rw[hdd]at he
   subst he
   obtain⟨h1,h2⟩:=hd d hdd
   have hw:Abs.wr d .un σ=some (DF (Fh d.kl d.d σ) d.d .un):=by simp[Abs.wr]
   obtain⟨υ',g1,g2⟩:=(Mv.refl hW).wr h1 h2 hw
   have hw':Abs.wr d .un σ'=some (DF (Fh d.kl d.d σ') d.d .un):=by simp[Abs.wr]
   rw[hw']at g1
   cases g1
   exact⟨_,rfl,g2⟩
 unfold HU at he ⊢
 cases hgd:o.guard with
 |none=>rw[hgd]at he;exact Ul h hWR ht hr hd he
 |some g=>
  obtain⟨g,want⟩:=g
  rw[hgd]at he
  simp only at he ⊢
  rw[h.eq g (hg _ hgd)]
  split at he
  . rename_i b hb
    split at he
    . rename_i hbw;simp only[if_pos hbw];exact Ul h hWR ht hr hd he
    . rename_i hbw;simp only[if_neg hbw];exact skip he
  . exact skip he
  . exact he.elim
end Go.Abs
namespace Go.Abs
variable {G:Gi} {P:Program}
def TQ (G:Gi):Ar->List Nat
 | .t s=>s::G.JG s++(G.Ee s).flatMap (λr=>r::G.JG r)
 | .c _=>[]
def EL (G:Gi):Ar->List Nat
 | .t s=>s::G.Ee s
 | .c _=>[]
def Mr (G:Gi) (o:A7):List Nat:=(takes o.op).flatMap (TQ G)++(match o.dst with|some d=>d.d::d.kl|none=>[])
def T9 (G:Gi) (o:A7):List Nat:=Mr G o++(reads o.op).flatMap (EL G)++(match o.guard with|some g=>[g.1]|none=>[])
def cOK:Ar->Bool
 | .t _=>true
 | .c a=>D9 [] a
def KI (o:A7):Bool:=(takes o.op).all cOK&&(reads o.op).all cOK
theorem Se {σ σ' τ:Sg} {o:A7} (hc:KI o=true) (hrs:∀d,o.dst=some d->d.rs=G.Ee d.d) (h:Ag G (· ∈T9 G o) σ σ') (he:HU P G o (· =τ) σ):∃τ',HU P G o (· =τ') σ'/\Mv G (· ∈Mr G o) σ σ' τ τ':=by
 simp only[KI,Bool.and_eq_true,List.all_eq_true]at hc
 refine gE h (λs hs=>by simp only[T9,List.mem_append];exact .inl (.inl hs)) ?_ ?_ ?_ ?_ he
 . intro x hx
   cases x with
   |c a=>exact hc.1 _ hx
   |t s=>
    have key:∀y∈TQ G (.t s),y∈Mr G o:=λy hy=>by simp only[Mr,List.mem_append,List.mem_flatMap];exact .inl ⟨_,hx,hy⟩
    refine⟨key _ (by simp[TQ]),λx hx=>key _ (by simp[TQ,hx]),λr hr=>⟨key _ ?_,λx hx=>key _ ?_⟩⟩
    . simp only[TQ,List.cons_append,List.mem_cons,List.mem_append,List.mem_flatMap];exact .inr (.inr ⟨r,hr,.inl rfl⟩)
    . simp only[TQ,List.cons_append,List.mem_cons,List.mem_append,List.mem_flatMap];exact .inr (.inr ⟨r,hr,.inr hx⟩)
 . intro x hx
   cases x with
   |c a=>exact hc.2 _ hx
   |t s=>
    have key:∀y∈EL G (.t s),y∈T9 G o:=λy hy=>by simp only[T9,List.mem_append,List.mem_flatMap];exact .inl (.inr ⟨_,hx,hy⟩)
    exact⟨key _ (by simp[EL]),λr hr=>key _ (by simp[EL,hr])⟩
 . intro d hd
   refine⟨⟨?_,hrs d hd⟩,λy hy=> ?_⟩
   . simp only[Mr,hd,List.mem_append];exact .inr (List.mem_cons_self ..)
   . simp only[Mr,hd,List.mem_append,List.mem_cons];exact .inr (.inr hy)
 . intro g hg
   simp only[T9,hg,List.mem_append];exact .inr (List.mem_cons_self ..)
theorem gF {σ τ:Sg} {o:A7} (hc:KI o=true) (hrs:∀d,o.dst=some d->d.rs=G.Ee d.d) (hri:∀s,D9 (G.Ee s) (σ s)=true) (he:HU P G o (· =τ) σ):(∀s,s∉Mr G o->τ s=σ s)/\∀s,D9 (G.Ee s) (τ s)=true:=by
 obtain⟨τ',_,h⟩:=Se hc hrs (⟨λ_ _=>rfl,λs _=>hri s⟩:Ag G (· ∈T9 G o) σ σ) he
 refine⟨λs hs=>(h.off s hs).2,λs=> ?_⟩
 by_cases hs:s∈Mr G o
 . exact h.ag.ri s hs
 . rw[(h.off s hs).2];exact hri s
def Dv (L:Nat->Bool) (W:Nat->List Nat) (s:Nat):Nat->Nat
 |0=>0
 |m+1=>if L m=true/\s∈W m then m+1 else Dv L W s m
theorem Qr (L:Nat->Bool) (W:Nat->List Nat) (s m:Nat):Dv L W s m≤m:=by
 induction m with
 |zero=>simp[Dv]
 |succ m ih=>simp only[Dv];split<;>omega
section
variable {q:Nat->Sg} {L L':Nat->Bool} {W R:Nat->List Nat} {n i:Nat}
theorem dD (hi:L i=false) (hin:i<n) (hoff:∀j s,j<n->s∉W j->q (j+1) s=q j s)
 (hpre:∀j s,j<i->s∈W j->s∈R i->L j=true) (hpost:∀j s,i<j->j<n->s∈W j->s∈R i->L j=true->L i=true) {s:Nat} (hs:s∈R i):q (Dv L W s n) s=q i s:=by
 have:∀m,m≤n->q (Dv L W s m) s=q (min m i) s:=by
  intro m
  induction m with
  |zero=>intro _;simp[Dv]
  |succ m ih=>
   intro hm
   simp only[Dv]
   by_cases h1:m<i
   . rw[show min (m+1) i=m+1 from by omega]
     by_cases h2:s∈W m
     . rw[if_pos ⟨hpre m s h1 h2 hs,h2⟩]
     . rw[if_neg (λh=>h2 h.2),ih (by omega),show min m i=m from by omega,hoff m s (by omega) h2]
   . rw[if_neg,ih (by omega),show min m i=i from by omega,show min (m+1) i=i from by omega]
     rintro⟨h3,h4⟩
     by_cases h5:m=i
     . subst h5;rw[hi]at h3;cases h3
     . have:=hpost m s (by omega) (by omega) h4 hs h3
       rw[hi]at this;cases this
 rw[this n (Nat.le_refl _),show min n i=i from by omega]
theorem dF (hin:i<n) (hL:∀j,L' j=(L j||j==i)) (hi:L i=false) (hpost:∀j s,i<j->j<n->s∈W j->s∈W i->L j=true->L i=true) {s:Nat} (hs:s∈W i):Dv L' W s n=i+1:=by
 have:∀m,i<m->m≤n->Dv L' W s m=i+1:=by
  intro m
  induction m with
  |zero=>intro h;omega
  |succ m ih=>
   intro h1 h2
   simp only[Dv]
   by_cases h3:m=i
   . subst h3;rw[if_pos ⟨by simp[hL],hs⟩]
   . rw[if_neg,ih (by omega) (by omega)]
     rintro⟨h4,h5⟩
     rw[hL]at h4
     have h6:L m=true:=by simpa[h3]using h4
     have:=hpost m s (by omega) (by omega) h5 hs h6
     rw[hi]at this;cases this
 exact this n hin (Nat.le_refl _)
theorem ZG (hL:∀j,L' j=(L j||j==i)) {s:Nat} (hs:s∉W i) (m:Nat):Dv L' W s m=Dv L W s m:=by
 induction m with
 |zero=>rfl
 |succ m ih=>
  simp only[Dv,ih,hL]
  by_cases h:m=i
  . subst h;simp[hs]
  . simp[h]
theorem ZF (hall:∀j,j<n->L j=true) (hoff:∀j s,j<n->s∉W j->q (j+1) s=q j s) (s:Nat):∀m,m≤n->q (Dv L W s m) s=q m s:=by
 intro m
 induction m with
 |zero=>intro _;rfl
 |succ m ih=>
  intro hm
  simp only[Dv]
  by_cases h:s∈W m
  . rw[if_pos ⟨hall m (by omega),h⟩]
  . rw[if_neg (λx=>h x.2),ih (by omega),hoff m s (by omega) h]
end
end Go.Abs
