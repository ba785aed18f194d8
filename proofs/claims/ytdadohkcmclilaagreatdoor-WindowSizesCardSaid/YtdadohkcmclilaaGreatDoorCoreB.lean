/- A calculus of abstract states of Go memory, and that it is sound. -/
import Derived.Test.YtdadohkcmclilaaGreatDoorCoreA
import Derived.Laws.MakeOwn
set_option linter.unusedSimpArgs false
set_option linter.unusedVariables false
namespace Go.Abs
variable {w w':World} {S S':Nat->Prop} {G:Gi} {δ:Nat->DV} {Fr:Nat->Nat->Prop} {P:Program}
theorem YM (place:Nat->ABp (Nat×Nat)) (cells:List Value) (i off n:Nat) (v:Value) (rest:List (Nat×Value)) (vs:List Value) (hp:place i=some (off,n)) (hv:v.cells=vs.toArray) (hn:vs.length=n) (hb:off+n≤cells.length):
 Instr.fill place cells.toArray ((i,v)::rest)=Instr.fill place (cells.take off++vs++cells.drop (off+vs.length)).toArray rest:=by
 have hc:(decide (v.cells.size≠n)||decide (off+v.cells.size>cells.toArray.size))=false:=by
  simp[hv,hn];omega
 have hf:=vM vs off cells.toArray (by simp;omega) 0
 simp only[Nat.add_zero]at hf
 rcases hf with hf|hf
 . have:(v.cells.zipIdx.foldl (λcs (x:Value×Nat)=>cs.setIfInBounds (off+x.2) x.1) cells.toArray)=(cells.take off++vs++cells.drop (off+vs.length)).toArray:=by
    apply ABT
    rw[hv,← hf]
    have e:vs.toArray.zipIdx=vs.zipIdx.toArray:=by simp
    rw[e]
    simp
   simp only[Instr.fill,hp,hc]
   simp only[AAW,AAe]
   exact congrArg (λz=>Instr.fill place z rest) this
 . simp at hf;omega
def K2 (place:Nat->ABp (Nat×Nat)):List (Nat×Operand)->List (Nat×Nat×Ar)->Bool
 |[],[]=>true
 | (i,x)::qs,(off,n,y)::ps=>(match place i with|some (o',n')=>o'==off&&n'==n|none=>false)&&Bt x y&&K2 place qs ps
 |_,_=>false
theorem St.UL {a:Act} {place:Nat->ABp (Nat×Nat)} (ps:List (Nat×Nat×Ar)):∀(qs:List (Nat×Operand)) {δ:Nat->DV} {Fr:Nat->Nat->Prop} {ds:List DV} {Fd:Nat->Prop} {u6:List AV} {τ:Sg},St G w S δ Fr->Rd δ a->
 K2 place qs ps=true->JF w S ds Fd->(∀s x,Fr s x->¬Fd x)->(ds.map DV.er).all Ex=true->Abs.UL G ps (ds.map DV.er) (λs=>(δ s).er)=some (u6,τ)->
 ∃δ' F' P9 eG,St G w S δ' F'/\(λs=>(δ' s).er)=τ/\(∀s,(δ' s).Aq=(δ s).Aq)/\JF w S P9 eG/\P9.map DV.er=u6/\Instr.fill place (ds.map DV.Aq).toArray (qs.map λ(i,x)=>(i,a.eval x))=some (P9.map DV.Aq).toArray/\
  (∀s x,F' s x->¬eG x)/\(∀x,A2 F' x∨eG x->A2 Fr x∨Fd x)/\u6.all Ex=true:=by
 induction ps with
 |nil=>
  intro qs δ Fr ds Fd u6 τ h ha hc CH CS BR hb
  cases qs with
  |cons q qs=>simp[K2]at hc
  |nil=>
   simp only[Abs.UL,AAN,AAc]at hb
   obtain⟨rfl,rfl⟩:=hb
   exact⟨δ,Fr,ds,Fd,h,rfl,λ_=>rfl,CH,rfl,by simp[Instr.fill],CS,λx hx=>hx,BR⟩
 |cons p ps ih=>
  obtain⟨off,n,y⟩:=p
  intro qs δ Fr ds Fd u6 τ h ha hc CH CS BR hb
  cases qs with
  |nil=>simp[K2]at hc
  |cons q qs=>
   obtain⟨i,x⟩:=q
   simp only[K2,AAP]at hc
   obtain⟨⟨hp,hcx⟩,hcr⟩:=hc
   have xH:place i=some (off,n):=by
    split at hp
    . rename_i o' n' TK;simp only[AAP,AAd]at hp;rw[TK,hp.1,hp.2]
    . cases hp
   obtain⟨hy,Ku⟩:=Ah hcx ha
   simp only[Abs.UL]at hb
   split at hb
   . rename_i v τ1 ht
     split at hb
     . rename_i E7
       obtain⟨hn,Rk,Hm⟩:=E7
       obtain⟨δ1,F1,D,Ff,Et,Iw,Er,Qc⟩:=h.tk hy ht
       subst Iw
       subst Er
       have hm:=Kt D Et.ok.KQ
       have hl:(Eh D).length=n:=by rw[← hn,← hm];simp
       have S5:=Kz Et.ok Hm
       have hdF:∀x,Fd x->¬Ff x:=by
        intro x hx hf
        obtain⟨t,ht⟩:=Et.own x (.inr hf)
        exact CS t x ht hx
       have hoff':off+(Eh D).length≤ds.length:=by rw[hl];simpa using Rk
       obtain⟨F2,Xi,bH⟩:=VR off CH (MR Et.ok) hdF hoff'
       have LW:∀s x,F1 s x->¬F2 x:=by
        intro s x hx h2
        rcases bH x h2 with h3|h3
        . obtain⟨t,ht⟩:=Et.own x (.inl ⟨s,hx⟩)
          exact CS t x ht h3
        . exact Et.LF s x hx h3
       have hsp:=jB ds (Eh D) off
       have hcell2:((ds.take off++Eh D++ds.drop (off+(Eh D).length)).map DV.er).all Ex=true:=by
        rw[AAU]at BR Hm ⊢
        intro c hc
        simp only[AA9,AAj]at hc
        rcases hc with(hc|hc)|hc
        . exact BR c (by rw[ABY]at hc;exact ABc hc)
        . rw[hm]at hc;exact Hm c hc
        . exact BR c (by rw[ABl]at hc;exact List.mem_of_mem_drop hc)
       rw[← hm]at hb
       rw[← hsp]at hb
       obtain⟨δ2,F2',P9,eG,Jf,Qd,LU,hokk,OV,Vz,wJ,xG,hcell3⟩:=ih qs Et.st (λs=>(ha s).trans (Et.Aq s).symm) hcr Xi LW hcell2 hb
       refine⟨δ2,F2',P9,eG,Jf,Qd,λs=>(LU s).trans (Et.Aq s),hokk,OV,?_,wJ,?_,hcell3⟩
       . simp only[AAg]
         rw[YM place (ds.map DV.Aq) i off n (a.eval x) _ ((Eh D).map DV.Aq) xH (by rw[Ku,← Qc];exact S5) (by simpa using hl) (by simpa using Rk)]
         rw[← Vz]
         congr 2
         simp[ABY,ABl]
       . intro x hx
         rcases xG x hx with h3|h3
         . exact .inl (Et.own x (.inl h3))
         . rcases bH x h3 with h4|h4
           . exact .inr h4
           . exact .inl (Et.own x (.inr h4))
     . cases hb
   . cases hb
theorem zH (h:St G w S δ Fr) {a:Act} (ha:Rd δ a) {o:Oper} {t:TypeId} {parts:Array (Nat×Operand)} {place:Nat->ABp (Nat×Nat)} {z:List AV} {zd:List DV} {ps:List (Nat×Nat×Ar)} {d:Dg} (hd:Ik G a o (some d)) (ho:o.op= .build t parts)
 (hz:Vm z=some zd) (hzc:z.all Ex=true) (hch:K2 place parts.toList ps=true)
 (hr:∀cells:Array Value,Instr.fill place (zd.map DV.Aq).toArray (parts.toList.map λ(i,x)=>(i,a.eval x))=some cells->(Instr.build t (parts.map λ(i,x)=>(i,a.eval x))).run P w= .ok (.agg cells) w) {σ':Sg}
 (he:Fk G (.RD z ps) (some d) (λs=>(δ s).er)=some σ'):Ph P G w S Fr a o σ':=by
 have hcst:zd.map DV.er=z/\JF w S zd (λ_=>False):=by
  have:=Hy (w:=w) (S:=S) (δ:=δ) (.agg z) (.agg zd) (by simp[IU,hz])
  exact⟨by simpa using this.1,Be.1 this.2.1⟩
 simp only[Fk]at he
 split at he
 . rename_i cs τ hb
   rw[← hcst.1]at hb hzc
   obtain⟨δ',F',P9,eG,Bs,Iw,C9,CH,OV,Vz,CS,Dh,BR⟩:=h.UL (a:=a) ps parts.toList ha hch hcst.2 (λ_ _ _ h=>h) hzc hb
   subst Iw
   subst OV
   refine JZ (D:=.agg P9) (Ff:=eG) Bs (λs=>(ha s).trans (C9 s).symm) hd ?_ (λ_ _=>rfl) (λ_ _ _=>rfl) (λ_ h=>h) (λs x hx=>(Bs.ok s).EZ x hx) (Be.2 CH) CS (.agg _ λi e hi=> ?_) (by simpa using he) (Nx.less ?_)
   . have:=hr _ Vz
     simp only[execOp,ho,Sem.run_bind,this,Result.andThen_ok,Sem.run_pure,JN]
   . exact QR (λa ha=>by rw[AAU]at BR;exact BR a ha) e (AAb hi)
   . intro x hx
     rcases Dh x hx with h1|h1
     . exact h1
     . exact h1.elim
 . cases he
theorem Tv {α:Type} {rows:List (List α)} {k i:Nat} {r:List α} (hk:∀row∈rows,row.length=k) (hi:i<rows.length) (hr:r.length=k):(rows.set i r).flatten=rows.flatten.take (i*k)++r++rows.flatten.drop (i*k+r.length):=by
 induction rows generalizing i with
 |nil=>simp at hi
 |cons x xs ih=>
  have hx:=hk x (by simp)
  cases i with
  |zero=>simp[hr,← hx]
  |succ i=>
   simp only[List.set_cons_succ,ABh]
   rw[ih (λrow DZ=>hk row (by simp[DZ])) (by simpa using hi)]
   have e1:(x++xs.flatten).take ((i+1)*k)=x++xs.flatten.take (i*k):=by
    rw[show(i+1)*k=x.length+i*k from by rw[ABa,hx];omega,List.take_length_add_append]
   have e2:(x++xs.flatten).drop ((i+1)*k+r.length)=xs.flatten.drop (i*k+r.length):=by
    rw[show(i+1)*k+r.length=x.length+(i*k+r.length)from by rw[ABa,hx];omega,List.drop_length_add_append]
   rw[e1,e2]
   simp[AA6]
def Ms (k:Nat):List (Nat×Operand)->List (Nat×Ar)->Bool
 |[],[]=>true
 | (i,x)::qs,(j,y)::ps=>i==j&&Bt x y&&Ms k qs ps
 |_,_=>false
theorem St.UM {a:Act} {k:Nat} (ps:List (Nat×Ar)):∀(qs:List (Nat×Operand)) {δ:Nat->DV} {Fr:Nat->Nat->Prop} {ds:List (List DV)} {Fd:Nat->Prop} {rs:List (List AV)} {τ:Sg},St G w S δ Fr->Rd δ a->
 Ms k qs ps=true->JF w S ds.flatten Fd->(∀r∈ds,r.length=k)->(∀s x,Fr s x->¬Fd x)->Abs.UM G k ps (ds.map (·.map DV.er)) (λs=>(δ s).er)=some (rs,τ)->
 ∃(δ':Nat->DV) (F':Nat->Nat->Prop) (P9:List (List DV)) (eG:Nat->Prop),St G w S δ' F'/\(λs=>(δ' s).er)=τ/\(∀s,(δ' s).Aq=(δ s).Aq)/\JF w S P9.flatten eG/\(∀r∈P9,r.length=k)/\P9.length=ds.length/\P9.map (·.map DV.er)=rs/\
  Instr.fill (λi=>some (i*k,k)) (ds.flatten.map DV.Aq).toArray (qs.map λ(i,x)=>(i,a.eval x))=some (P9.flatten.map DV.Aq).toArray/\(∀s x,F' s x->¬eG x)/\(∀x,A2 F' x∨eG x->A2 Fr x∨Fd x):=by
 induction ps with
 |nil=>
  intro qs δ Fr ds Fd rs τ h ha hc CH hk CS hb
  cases qs with
  |cons q qs=>simp[Ms]at hc
  |nil=>
   simp only[Abs.UM,AAN,AAc]at hb
   obtain⟨rfl,rfl⟩:=hb
   exact⟨δ,Fr,ds,Fd,h,rfl,λ_=>rfl,CH,hk,rfl,rfl,by simp[Instr.fill],CS,λx hx=>hx⟩
 |cons p ps ih=>
  obtain⟨j,y⟩:=p
  intro qs δ Fr ds Fd rs τ h ha hc CH hk CS hb
  cases qs with
  |nil=>simp[Ms]at hc
  |cons q qs=>
   obtain⟨i,x⟩:=q
   simp only[Ms,AAP,AAd]at hc
   obtain⟨⟨rfl,hcx⟩,hcr⟩:=hc
   obtain⟨hy,Ku⟩:=Ah hcx ha
   simp only[Abs.UM]at hb
   split at hb
   . rename_i v τ1 ht
     split at hb
     . rename_i E7
       obtain⟨hn,hi,Hm⟩:=E7
       obtain⟨δ1,F1,D,Ff,Et,Iw,Er,Qc⟩:=h.tk hy ht
       subst Iw
       subst Er
       have hm:=Kt D Et.ok.KQ
       have hl:(Eh D).length=k:=by rw[← hn,← hm];simp
       have S5:=Kz Et.ok Hm
       have hi':i<ds.length:=by simpa using hi
       have hdF:∀x,Fd x->¬Ff x:=by
        intro x hx hf
        obtain⟨t,ht⟩:=Et.own x (.inr hf)
        exact CS t x ht hx
       have hb2:i*k+(Eh D).length≤ds.flatten.length:=by
        rw[DF hk,hl,← ABa];exact ABN _ hi'
       obtain⟨F2,Xi,bH⟩:=VR (i*k) CH (MR Et.ok) hdF hb2
       rw[← Tv hk hi' hl]at Xi
       have LW:∀s x,F1 s x->¬F2 x:=by
        intro s x hx h2
        rcases bH x h2 with h3|h3
        . obtain⟨t,ht⟩:=Et.own x (.inl ⟨s,hx⟩)
          exact CS t x ht h3
        . exact Et.LF s x hx h3
       have V1:∀r∈ds.set i (Eh D),r.length=k:=by
        intro r hr
        rcases AAv hr with h|rfl
        . exact hk r h
        . exact hl
       rw[← hm]at hb
       rw[← List.map_set (f:=λx:List DV=>x.map DV.er)]at hb
       obtain⟨δ2,F2',P9,eG,Jf,Qd,LU,hokk,hk3,hlen,OV,Vz,wJ,xG⟩:=ih qs Et.st (λs=>(ha s).trans (Et.Aq s).symm) hcr Xi V1 LW hb
       refine⟨δ2,F2',P9,eG,Jf,Qd,λs=>(LU s).trans (Et.Aq s),hokk,hk3,by simpa using hlen,OV,?_,wJ,?_⟩
       . simp only[AAg]
         rw[YM _ (ds.flatten.map DV.Aq) i (i*k) k (a.eval x) _ ((Eh D).map DV.Aq) rfl (by rw[Ku,← Qc];exact S5) (by simpa using hl) (by rw[AAo];rw[hl]at hb2;exact hb2)]
         rw[← Vz,Tv hk hi' hl]
         congr 2
         simp[ABY,ABl]
       . intro x hx
         rcases xG x hx with h3|h3
         . exact .inl (Et.own x (.inl h3))
         . rcases bH x h3 with h4|h4
           . exact .inr h4
           . exact .inl (Et.own x (.inr h4))
     . cases hb
   . cases hb
def nR:List (List AV)->ABp (List (List DV))
 |[]=>some []
 |r::rs=>match Vm r,nR rs with
  |some d,some ds=>some (d::ds)
  |_,_=>none
theorem fS (rs:List (List AV)) (ds:List (List DV)) (h:nR rs=some ds):ds.map (·.map DV.er)=rs/\JF w S ds.flatten (λ_=>False):=by
 induction rs generalizing ds with
 |nil=>simp only[nR,AAN]at h;subst h;exact⟨rfl,λ_ h=>h⟩
 |cons r rs ih=>
  simp only[nR]at h
  split at h
  . rename_i d P9 h1 h2
    obtain rfl:=AAR h
    obtain⟨g1,g2⟩:=ih P9 h2
    have:=Hy (w:=w) (S:=S) (δ:=λ_=>default) (.agg r) (.agg d) (by simp[IU,h1])
    refine⟨by simp[g1];simpa using this.1,?_⟩
    simp only[ABh]
    exact(Kw (Be.1 this.2.1) g2 (λ_ h=>h.elim)).congr λx=>by simp
  . cases h
theorem zI (h:St G w S δ Fr) (CN:∀b,S b->b<w.heap.size) {a:Act} (ha:Rd δ a) {o:Oper} {t e:TypeId} {len k:Nat} {parts:Array (Nat×Operand)} {z:List (List AV)} {zd:List (List DV)} {ps:List (Nat×Ar)} {d:Dg} (hd:Ik G a o (some d)) (ho:o.op= .buildSlice t len parts)
 (hz:nR z=some zd) (hzk:∀r∈z,r.length=k) (hzl:z.length=len) (hch:Ms k parts.toList ps=true)
 (hr:∀cells:Array Value,Instr.fill (λi=>some (i*k,k)) (zd.flatten.map DV.Aq).toArray (parts.toList.map λ(i,x)=>(i,a.eval x))=some cells->
  (Instr.buildSlice t len (parts.map λ(i,x)=>(i,a.eval x))).run P w= .ok (.slice (some ⟨w.heap.size,0,none⟩) len len) (w.alloc (.cells cells e))) {σ':Sg}
 (he:Fk G (.Mr k z ps) (some d) (λs=>(δ s).er)=some σ'):Ph P G w S Fr a o σ':=by
 obtain⟨hzm,hzok⟩:=fS (w:=w) (S:=S) z zd hz
 have hzdk:∀r∈zd,r.length=k:=by
  intro r hr
  have:=hzk (r.map DV.er) (by rw[← hzm];exact ABP hr)
  simpa using this
 have hzdl:zd.length=len:=by rw[← hzl,← hzm];simp
 simp only[Fk]at he
 split at he
 . rename_i rs τ hb
   rw[← hzm]at hb
   obtain⟨δ',F',P9,eG,Bs,Iw,C9,CH,hk,hlen,OV,Vz,CS,Dh⟩:=h.UM (a:=a) ps parts.toList ha hch hzok hzdk (λ_ _ _ h=>h) hb
   subst Iw
   subst OV
   refine W0 (bx:=false) (k:=k) (c:=len) (rows:=P9) (Fd:=eG) (arr:=(P9.flatten.map DV.Aq).toArray) (E:=e) Bs CN (λs=>(ha s).trans (C9 s).symm) hd ?_ CH CS hk ?_ ?_ he ?_
   . have:=hr _ Vz
     simp only[execOp,ho,Sem.run_bind,this,Result.andThen_ok,Sem.run_pure,I7,AAW,AAe,hlen,hzdl]
   . simp only[AAW,AAe,ABi,AAo,DF hk,hlen,hzdl]
     exact⟨trivial,AAy _⟩
   . intro n d hn;rw[List.getElem?_toArray,AAZ,hn];rfl
   . intro x hx
     rcases Dh x hx with h1|h1
     . exact h1
     . exact h1.elim
 . cases he
theorem QX (z:List AV) (zd:List DV) (h:Vm z=some zd):zd.map DV.er=z/\∀D∈zd,Ok w S D (λ_=>False):=by
 obtain⟨h1,h2,_⟩:=Hy (w:=w) (S:=S) (δ:=λ_=>.lf .un undef) (.agg z) (.agg zd) (by simp[IU,h])
 refine⟨by simpa using h1,λD hD=> ?_⟩
 obtain⟨Fs,g1,_,_,g4⟩:=JK.1 (Be.1 h2)
 obtain⟨i,hi⟩:=AAn hD
 have:=g1 i D hi
 have e:Fs i=λ_=>False:=funext λx=>propext ⟨λhx=>(g4 x).2 ⟨i,hx⟩,False.elim⟩
 rwa [e]at this
theorem vL {α:Type} (zd:List α) (l:Nat):∀n,n<l*zd.length->(List.replicate l zd).flatten[n]? =zd[n%zd.length]? :=by
 induction l with
 |zero=>intro n h;omega
 |succ l ih=>
  intro n h
  rw[List.replicate_succ,ABh]
  by_cases hn:n<zd.length
  . rw[AAr hn,Nat.mod_eq_of_lt hn]
  . rw[AAt (by omega),ih (n-zd.length) (by rw[Nat.add_mul,Nat.one_mul]at h;omega),← Nat.mod_eq_sub_mod (by omega)]
theorem runs_mk (h:St G w S δ Fr) (CN:∀b,S b->b<w.heap.size) {a:Act} (ha:Rd δ a) {o:Oper} {t e:TypeId} {k bytes:Nat} {x y:Operand} {z:List AV} {zd:List DV} {x' y':Ar} {d:Dg} {i:TypeInfo} {zv:Value} (hd:Ik G a o (some d)) (ho:o.op= .makeSlice t x y)
 (hu:P.underlying t=some (.slice e)) (hi:P.info? e=some i) (hzv:i.zero=some zv) (Po:i.size=k) (kT:i.bytes=bytes) (rZ:0<bytes) (aZ:0<k) (hz:Vm z=some zd) (hzc:zv.cells.toList=zd.map DV.Aq) (hzk:z.length=k)
 (hcx:Bt x x'=true) (hcy:Bt y y'=true) {σ':Sg} (he:Fk G (.mk k bytes z x' y') (some d) (λs=>(δ s).er)=some σ'):Ph P G w S Fr a o σ':=by
 obtain⟨hx,ex⟩:=Ah hcx ha
 obtain⟨hy,ey⟩:=Ah hcy ha
 simp only[Fk]at he
 split at he
 . rename_i l c hl hc
   split at he
   . rename_i E7
     obtain⟨h0,RE,OX⟩:=E7
     obtain⟨kl,hl⟩:=Mp hl
     obtain⟨kc,hc⟩:=Mp hc
     obtain⟨el,_⟩:=h.Eg hx hl
     obtain⟨ec,_⟩:=h.Eg hy hc
     have hr:c.toNat*bytes≤70368744177664:=by simpa[Al]using OX
     have hcn:(c.toNat:Int)=c:=Int.toNat_of_nonneg (by omega)
     have hcle:c.toNat≤c.toNat*bytes:=Nat.le_mul_of_pos_right _ rZ
     have lE:zd.length=k:=by
      have:=congrArg List.length (QX (w:=w) (S:=S) z zd hz).1
      rw[AAo]at this
      rw[this,hzk]
     have B8:=run_make (P:=P) w t e i zv hu hi hzv kl kc l c h0 RE (by
      rw[kT,← hcn]
      have:(bytes:Int)*(c.toNat:Int)=((c.toNat*bytes:Nat):Int):=by rw[ABD];simp
      rw[this];omega) (by omega)
     have hzcs:zv.cells.size=k:=by
      have:=congrArg List.length hzc
      simp only[AAo,lE]at this
      simpa using this
     have Jm:(List.replicate l.toNat zd).length=l.toNat:=by simp
     refine W0 (bx:=false) (k:=k) (c:=c.toNat) (rows:=List.replicate l.toNat zd) (Fd:=λ_=>False) (arr:=madeCells zv.cells (c.toNat*i.size)) (E:=e) h CN ha hd ?_ ?_ (λ_ _ _ h=>h) ?_ ?_ ?_ ?_ (λx hx=>hx.elim id False.elim)
     . simp only[execOp,ho,ex,ey,el,ec,Sem.run_bind,B8,Result.andThen_ok,Sem.run_pure,I7,AAW,AAe,Jm]
     . refine B7 λD hD=> ?_
       obtain⟨row,DZ,hD'⟩:=List.mem_flatten.1 hD
       rw[List.eq_of_mem_replicate DZ]at hD'
       exact(QX z zd hz).2 D hD'
     . intro row DZ
       rw[List.eq_of_mem_replicate DZ,lE]
     . simp only[AAW,AAe,size_madeCells,Po,Jm]
       exact⟨trivial,by omega⟩
     . intro n D hn
       have hnl:n<l.toNat*zd.length:=by
        have:=(AAQ.1 hn).1
        simpa using this
       rw[vL zd l.toNat n hnl]at hn
       have hlck:l.toNat*k≤c.toNat*k:=ABN _ (by omega)
       have hnc:n<c.toNat*i.size:=by rw[Po];rw[lE]at hnl;omega
       have hmod:n%k<k:=Nat.mod_lt _ aZ
       rw[lE]at hn
       have BR:zv.cells[n%k]? =some D.Aq:=by
        rw[← Array.getElem?_toList,hzc,AAZ,hn];rfl
       simp only[madeCells,Array.getElem?_map,Array.getElem?_range,AAY hnc,AAl,hzcs]
       rw[getElem!_def,BR]
     . have:(List.replicate l.toNat zd).map (·.map DV.er)=List.replicate l.toNat z:=by
        rw[List.map_replicate,(QX (w:=w) (S:=S) z zd hz).1]
       rw[this];exact he
   . cases he
 . cases he
end Go.Abs
namespace Go.Abs
variable {w w':World} {S S':Nat->Prop} {G:Gi} {δ:Nat->DV} {Fr:Nat->Nat->Prop} {P:Program}
def Bd (v:ABp Value) (dflt n:Nat):Prop:=(v=none/\n=dflt)∨∃kk i,v=some (.int kk i)/\0≤i/\i.toNat=n
theorem St.bd (h:St G w S δ Fr) {a:Act} (ha:Rd δ a) {x:ABp Operand} {y:ABp Ar} (hc:QV x y=true) {dflt n:Nat} (ho:Md (λs=>(δ s).er) y dflt=some n):Bd (x.map a.eval) dflt n/\(x=none↔y=none):=by
 unfold QV at hc
 split at hc
 . simp only[Md,AAN]at ho;exact⟨.inl ⟨rfl,ho.symm⟩,by simp⟩
 . rename_i x y
   obtain⟨hy,he⟩:=Ah hc ha
   simp only[Md]at ho
   split at ho
   . rename_i i hi
     split at ho
     . rename_i h0
       simp only[AAN]at ho
       obtain⟨kk,hi⟩:=Mp hi
       obtain⟨e1,_⟩:=h.Eg hy hi
       exact⟨.inr ⟨kk,i,by simp[he,e1],h0,ho⟩,by simp⟩
     . cases ho
   . cases ho
 . cases hc
theorem II {kk:IntKind} {i:Int} {y n:Nat} {code:BoundsCode} (h0:0≤i) (hn:i.toNat=n) (hy:n≤y) (w:World):(Instr.sliceBound (.int kk i) y code).run P w= .ok n w:=by
 have:i≤y:=by omega
 simp[Instr.sliceBound,asIntOf,h0,this,hn]
theorem ZX {t e:TypeId} {k len cap l h m:Nat} (hu:P.underlying t=some (.slice e)) (hk:Fu P e=some k) {lo hi mx:ABp Value} (hl:Bd lo 0 l) (hh:Bd hi len h) (hm:Bd mx cap m) (hmh:mx≠none->hi≠none) (h1:l≤h) (h2:h≤m) (h3:m≤cap) (ad:ABp Addr) (w:World):
 (Instr.sliceAt t (.slice ad len cap) lo hi mx).run P w= .ok (.slice (if m=l then ad else ad.map (·.add (l*k))) (h-l) (m-l)) w:=by
 have hb:(Instr.sliceBounds true len cap lo hi mx).run P w= .ok (l,h,m) w:=by
  rcases hm with⟨rfl,rfl⟩|⟨km,im,rfl,hm0,hmn⟩<;>rcases hh with⟨rfl,rfl⟩|⟨kh,ih,rfl,hh0,hhn⟩<;>rcases hl with⟨rfl,rfl⟩|⟨kl,il,rfl,hl0,hln⟩<;>
   first
    | (simp[Instr.sliceBounds,II hm0 hmn h3,II hh0 hhn h2,II hl0 hln h1];done)
    | (simp[Instr.sliceBounds,II hm0 hmn h3,II hh0 hhn h2];done)
    | (simp[Instr.sliceBounds,II hh0 hhn h2,II hl0 hln h1];done)
    | (simp[Instr.sliceBounds,II hh0 hhn h2];done)
    | (simp[Instr.sliceBounds,II hl0 hln h1];done)
    | (simp[Instr.sliceBounds];done)
    |exact absurd rfl (hmh (by simp))
 have:(Instr.sliceAt t (.slice ad len cap) lo hi mx)=(do match ← underlying t with
  | .array n elem=>
   let a ← Instr.sureAddr (.slice ad len cap)
   let(l,h,m) ← Instr.sliceBounds false n n lo hi mx
   let size ← sizeOf elem
   pure (.slice (some (if m=l then a else a.add (l*size))) (h-l) (m-l))
  |_=>Instr.slice t (.slice ad len cap) lo hi mx):=rfl
 rw[this]
 simp only[Sem.run_bind,run_underlying hu,Result.andThen_ok]
 have h4:(Instr.slice t (.slice ad len cap) lo hi mx)=(do
  match ← underlying t,(Value.slice ad len cap)with
  | .string,.string s=>
   if mx.isSome then stuck "Slice: full slice of a string"
   let(l,h,_) ← Instr.sliceBounds false s.size s.size lo hi none
   pure (.string (s.extract l h))
  | .slice elem,.slice a len cap=>
   let(l,h,m) ← Instr.sliceBounds true len cap lo hi mx
   let size ← sizeOf elem
   pure (.slice (if m=l then a else a.map (·.add (l*size))) (h-l) (m-l))
  | .pointer arr,x=>
   let a ← asAddr x
   let .array n elem ← underlying arr|stuck "Slice: array type expected"
   let(l,h,m) ← Instr.sliceBounds false n n lo hi mx
   let size ← sizeOf elem
   pure (.slice (some (if m=l then a else a.add (l*size))) (h-l) (m-l))
  |_,_=>stuck "Slice: string, slice or pointer to array expected"):=rfl
 rw[h4]
 simp only[Sem.run_bind,run_underlying hu,Result.andThen_ok,hb,run_sizeOf hk,Sem.run_pure]
theorem Fz.cut {e:Bool} {k:Nat} {rows:List (List AV)} {ad:ABp Addr} {n cap l h m:Nat} {x:Bool} (hf:Fz w S (.sl e k rows) (.slice ad n cap)) (h1:l≤h) (h2:h≤rows.length) (h3:h≤m) (hx:x=true->m=h):
 Fz w S (.sl x k ((rows.drop l).take (h-l))) (.slice (if m=l then ad else ad.map (·.add (l*k))) (h-l) (m-l)):=by
 have hlen:((rows.drop l).take (h-l)).length=h-l:=by simp;omega
 by_cases heq:h=l
 . subst heq
   simp only[Nat.sub_self,List.take_zero]
   exact .nil x k _ _ (λhh=>by have:=hx hh;omega)
 . have hm:m≠l:=by omega
   cases hf with
   |nil=>simp at h2;omega
   |sl _ _ _ b off c vs hxe RE hS hk hc hr=>
    simp only[hm,AAe,AAl,Addr.add_lit]
    have wU:∀i row,((rows.drop l).take (h-l))[i]? =some row->rows[l+i]? =some row:=by
     intro i row hi
     rw[ABK]at hi
     split at hi
     . simpa using hi
     . cases hi
    have key:Fz w S (.sl x k ((rows.drop l).take (h-l))) (.slice (some ⟨b,off+l*k,none⟩) ((rows.drop l).take (h-l)).length (m-l)):=by
     refine .sl x k _ b (off+l*k) (m-l) (λi j=>vs (l+i) j) (λhh=>by have:=hx hh;rw[hlen];omega) (by rw[hlen];omega) hS (λrow DZ=>hk row (List.mem_of_mem_drop (ABc DZ))) ?_ ?_
     . intro i j row a hi hj
       have:=hc (l+i) j row a (wU i row hi) hj
       rw[show off+l*k+(i*k+j)=off+((l+i)*k+j)from by rw[Nat.add_mul];omega]
       exact this
     . intro i j row a hi hj
       exact hr (l+i) j row a (wU i row hi) hj
    rw[hlen]at key
    exact key
theorem Mw {rows rs:List (List AV)} {l h:Nat} (hc:RR rows l h=some rs):l≤h/\h≤rows.length/\rs=(rows.drop l).take (h-l):=by
 unfold RR at hc
 split at hc
 . rename_i hh;exact⟨hh.1,hh.2,(AAR hc).symm⟩
 . cases hc
theorem St.bdM (h:St G w S δ Fr) {a:Act} (ha:Rd δ a) {x:ABp Operand} {y:ABp Ar} (hc:QV x y=true) {hh m cap:Nat} (hm:sD (λs=>(δ s).er) y hh=some m) (hmh:m=hh) (De:hh≤cap):
 ∃m',Bd (x.map a.eval) cap m'/\hh≤m'/\m'≤cap/\(y.isSome=true->m'=hh):=by
 cases y with
 |none=>
  cases x with
  |none=>exact⟨cap,.inl ⟨rfl,rfl⟩,De,AAy _,by simp⟩
  |some x=>simp[QV]at hc
 |some y=>
  obtain⟨h1,_⟩:=h.bd ha hc (dflt:=0) (by simpa only[sD]using hm)
  subst hmh
  cases x with
  |none=>simp[QV]at hc
  |some x=>
   rcases h1 with⟨h1,_⟩|⟨kk,i,h1,h2,h3⟩
   . simp at h1
   . exact⟨m,.inr ⟨kk,i,h1,h2,h3⟩,AAy _,De,λ_=>rfl⟩
theorem cQ (h:St G w S δ Fr) {a:Act} (ha:Rd δ a) {o:Oper} {t e:TypeId} {x:Operand} {lo hi mx:ABp Operand} {k:Nat} {y:Ar} {lo' hi' bX:ABp Ar} {d:Dg} (hd:Ik G a o (some d)) (ho:o.op= .slice t x lo hi mx)
 (hu:P.underlying t=some (.slice e)) (hk:Fu P e=some k) (hc:Bt x y=true) (X6:QV lo lo'=true) (ML:QV hi hi'=true) (hc3:QV mx bX=true) (hmh:mx=none∨hi≠none) {σ':Sg}
 (he:Fk G (.sF k true y lo' hi' bX) (some d) (λs=>(δ s).er)=some σ'):Ph P G w S Fr a o σ':=by
 obtain⟨hy,Ku⟩:=Ah hc ha
 have hmh':mx.map a.eval≠none->hi.map a.eval≠none:=by
  intro h1 h2
  rcases hmh with h3|h3
  . simp[h3]at h1
  . simp at h2;exact h3 h2
 simp only[Fk]at he
 split at he
 . -- frozen already
   rename_i ee k' rows pl hh
   split at he
   . rename_i l ZE wY hhi
     split at he
     . rename_i rs m wI hm
       split at he
       . rename_i E7
         obtain⟨rfl,hmeq⟩:=E7
         obtain⟨h1,h2,rfl⟩:=Mw wI
         have Mk:=(h.kW hy hh).2 _ _ _ rfl (h.hdSl hy hh)
         obtain⟨ad,cap,hav⟩:=OQ Mk
         rw[hav]at Mk Ku
         have RE:rows.length≤cap:=by
          cases Mk with
          |nil=>simp
          |sl _ _ _ b off c vs hxe RE=>exact RE
         obtain⟨b1,_⟩:=h.bd ha X6 wY
         obtain⟨b2,_⟩:=h.bd ha ML hhi
         obtain⟨m',b3,g1,g2,g3⟩:=h.bdM ha hc3 hm hmeq (cap:=cap) (by omega)
         have B8:=ZX (P:=P) hu hk b1 b2 b3 hmh' h1 g1 g2 ad w
         have Ey:=Mk.cut (m:=m') (x:=bX.isSome) h1 h2 g1 g3
         have LJ:(DV.lf (.sl bX.isSome k' ((rows.drop l).take (ZE-l))) (.slice (if m'=l then ad else ad.map (·.add (l*k'))) (ZE-l) (m'-l))).er= .sl bX.isSome k' ((rows.drop l).take (ZE-l)):=by simp
         refine JZ (D:=.lf (.sl bX.isSome k' ((rows.drop l).take (ZE-l))) (.slice (if m'=l then ad else ad.map (·.add (l*k'))) (ZE-l) (m'-l))) (Ff:=λ_=>False) h ha hd ?_ (λ_ _=>rfl) (λ_ _ _=>rfl) (λ_ h=>h) (λs x hx=>(h.ok s).EZ x hx)
          (.lf _ _ _ Ey (λ_ h=>h)) (λ_ _ _ h=>h) (.lf _ _ trivial) (by rw[LJ];exact he) (Nx.less λx hx=>hx.elim id False.elim)
         simp only[execOp,ho,Ku,Sem.run_bind,B8,Result.andThen_ok,Sem.run_pure,KZ]
       . cases he
     . cases he
   . cases he
 . -- frozen now
   rename_i k' rows r p hh
   split at he
   . rename_i l ZE wY hhi
     split at he
     . rename_i rs m wI hm
       split at he
       . rename_i E7
         obtain⟨rfl,hmeq⟩:=E7
         obtain⟨h1,h2,rfl⟩:=Mw wI
         simp only[AAs]at he
         split at he
         . rename_i fr τ Mk
           obtain⟨δ1,F1,Fo,v,bx,kk,Aj,Bs,Iw,C9,Bb,hf,hfe,CS,Dh,_⟩:=h.Pk Mk
           subst Iw
           obtain⟨rowsD',F,U9,CH,TK⟩:=(h.kW hy hh).1 _ _ _ rfl
           have KN:=TK r p rfl
           rw[Bb]at KN
           simp only[AAN,DV.own.injEq]at KN
           obtain⟨rfl,rfl,rfl,rfl⟩:=KN
           have hfe':fr= .sl false kk (rows.map (·.map I0)):=by rw[hfe];simp only[EE,Mz,U9]
           rw[hfe']at hf
           obtain⟨ad,cap,hav⟩:=OQ hf
           rw[hav]at hf Ku
           have dY:(rows.map (·.map I0)).length=rows.length:=by simp
           have RE:rows.length≤cap:=by
            rw[← dY]
            generalize rows.map (·.map I0)=rr at*
            cases hf with
            |nil=>simp
            |sl _ _ _ b off c vs hxe RE=>exact RE
           obtain⟨b1,_⟩:=h.bd ha X6 wY
           obtain⟨b2,_⟩:=h.bd ha ML hhi
           rw[dY]at Ku
           obtain⟨m',b3,g1,g2,g3⟩:=h.bdM ha hc3 hm hmeq (cap:=cap) (by omega)
           have B8:=ZX (P:=P) hu hk b1 b2 b3 hmh' h1 g1 g2 ad w
           have Ey:=hf.cut (m:=m') (x:=bX.isSome) h1 (by rw[dY];exact h2) g1 g3
           rw[← ABl,← ABY]at Ey
           have LJ:(DV.lf (.sl bX.isSome kk (((rows.drop l).take (ZE-l)).map (·.map I0))) (.slice (if m'=l then ad else ad.map (·.add (l*kk))) (ZE-l) (m'-l))).er= .sl bX.isSome kk (((rows.drop l).take (ZE-l)).map (·.map I0)):=by simp
           refine JZ (S:=S) (S':=λx=>S x∨Fo x) (D:=.lf (.sl bX.isSome kk (((rows.drop l).take (ZE-l)).map (·.map I0))) (.slice (if m'=l then ad else ad.map (·.add (l*kk))) (ZE-l) (m'-l))) (Ff:=λ_=>False) Bs (λs=>(ha s).trans (C9 s).symm) hd ?_ (λ_ _=>rfl) (λ_ _ _=>rfl) (λ_ h=>h) (λs x hx=>(Bs.ok s).EZ x hx)
            (.lf _ _ _ Ey (λ_ h=>h)) (λ_ _ _ h=>h) (.lf _ _ trivial) (by rw[LJ];exact he) ?_
           . simp only[execOp,ho,Ku,Sem.run_bind,B8,Result.andThen_ok,Sem.run_pure,KZ]
           . refine Nx.I0 (λx hx=>Dh x (hx.imp (λh=>h.elim id False.elim) id)) λx hx=> ?_
             obtain⟨t,ht⟩:=Dh x (.inr hx)
             exact(h.ok t).lt x ht
         . cases he
       . cases he
     . cases he
   . cases he
 . cases he
theorem Ok.front {v:Value} {k:Nat} {rows:List (List DV)} {F:Nat->Prop} (h:Ok w S (.own v false k rows) F) {n:Nat} (hn:n≤rows.length):
 ∃ad c,v= .slice ad rows.length c/\rows.length≤c/\(∀q:Nat,ad.map (·.add (0*q))=ad)/\∃F',Ok w S (.own (.slice ad n c) false k (rows.take n)) F'/\∀x,F' x->F x:=by
 cases h with
 |nil _ _ hF=>
  simp only[ABR,Nat.le_zero]at hn
  subst hn
  exact⟨none,0,rfl,AAy _,λ_=>rfl,F,.nil k F hF,λ_ h=>h⟩
 |own _ _ _ b c arr E Fs _ hb hk De Ko hv hr hd BP Jb hF=>
  simp only[AAW,AAe]at De
  have hlen:(rows.take n).length=n:=by simp;omega
  have get:∀i (row:List DV),(rows.take n)[i]? =some row->rows[i]? =some row/\i<n:=by
   intro i row hi
   rw[ABK]at hi
   split at hi
   . exact⟨hi,by assumption⟩
   . cases hi
  have key:Ok w S (.own (I7 false b (rows.take n).length c) false k (rows.take n)) (λx=>x=b∨∃i j,(i<n/\Fs i j x)):=by
   refine .own false k _ b c arr E (λi j x=>i<n/\Fs i j x) _ hb (λrow DZ=>hk row (ABc DZ)) (by simp only[AAW,AAe];omega) Ko ?_ ?_ (λi j i' j' x h1 h2=>hd i j i' j' x h1.2 h2.2) ?_ (λi j h=>Jb i j h.2) (λx=>ABe)
   . exactλi j row d hi hj=>hv i j row d (get i row hi).1 hj
   . intro i j row d hi hj
     obtain⟨g1,g2⟩:=get i row hi
     have:(λx=>i<n/\Fs i j x)=Fs i j:=funext λx=>propext ⟨λh=>h.2,λh=>⟨g2,h⟩⟩
     rw[this];exact hr i j row d g1 hj
   . rintro i j x ⟨h1,h2⟩
     obtain⟨row,d,g1,g2⟩:=BP i j x h2
     exact⟨row,d,by rw[ABK,AAY h1];exact g1,g2⟩
  refine⟨some ⟨b,0,none⟩,c,by simp[I7],De.2,λq=>by simp[Addr.add],λx=>x=b∨∃i j,(i<n/\Fs i j x),?_,λx hx=>(hF x).2 (hx.elim .inl λ⟨i,j,h⟩=>.inr ⟨i,j,h.2⟩)⟩
  rw[hlen]at key
  simpa[I7]using key
theorem qJ (h:St G w S δ Fr) {a:Act} (ha:Rd δ a) {o:Oper} {t e:TypeId} {x:Operand} {lo hi mx:ABp Operand} {k:Nat} {y:Ar} {lo' hi' bX:ABp Ar} {d:Dg} (hd:Ik G a o (some d)) (ho:o.op= .slice t x lo hi mx)
 (hu:P.underlying t=some (.slice e)) (hk:Fu P e=some k) (hc:Bt x y=true) (X6:QV lo lo'=true) (ML:QV hi hi'=true) (hc3:QV mx bX=true) (hmh:mx=none∨hi≠none) {σ':Sg}
 (he:Fk G (.sF k false y lo' hi' bX) (some d) (λs=>(δ s).er)=some σ'):Ph P G w S Fr a o σ':=by
 obtain⟨hy,Ku⟩:=Ah hc ha
 have hmh':mx.map a.eval≠none->hi.map a.eval≠none:=by
  intro h1 h2
  rcases hmh with h3|h3
  . simp[h3]at h1
  . simp at h2;exact h3 h2
 by_cases hsl:∃ee k' rows pl,Abs.hd (λs=>(δ s).er) y=some (.sl ee k' rows,pl)
 . refine cQ h ha hd ho hu hk hc X6 ML hc3 hmh ?_
   obtain⟨ee,k',rows,pl,hh⟩:=hsl
   simp only[Fk,hh]at he ⊢
   exact he
 simp only[Fk]at he
 split at he
 . rename_i hh;exact absurd ⟨_,_,_,_,hh⟩ hsl
 . rename_i k' rows r p hh
   split at he
   . rename_i l ZE wY hhi
     split at he
     . rename_i rs m wI hm
       split at he
       . rename_i E7
         obtain⟨rfl,hmeq⟩:=E7
         obtain⟨h1,h2,rfl⟩:=Mw wI
         rw[AAX (by simp)]at he
         split at he
         . rename_i hl0
           obtain⟨rfl,hmx⟩:=hl0
           split at he
           . rename_i nn τ ht
             obtain⟨δ1,F1,D,Ff,Bs,Iw,C9,Xj,Er,⟨v,bx,kk,Aj,rfl⟩,Bb,CS,Dh,_⟩:=h.Zh ht
             subst Iw
             obtain⟨rowsD',F,U9,_,TK⟩:=(h.kW hy hh).1 _ _ _ rfl
             have KN:=TK r p rfl
             rw[Bb]at KN
             simp only[AAN,DV.own.injEq]at KN
             obtain⟨rfl,rfl,rfl,rfl⟩:=KN
             have dY:Aj.length=rows.length:=by rw[← U9];simp
             obtain⟨ad,c,hv,RE,hadd,F',hokT,dO⟩:=Xj.front (n:=ZE) (by omega)
             rw[hv]at Ku
             have hmn:bX=none:=by simpa using hmx
             subst hmn
             have hmxn:mx=none:=by cases mx<;>simp_all [QV]
             subst hmxn
             obtain⟨b1,_⟩:=h.bd ha X6 wY
             obtain⟨b2,_⟩:=h.bd ha ML hhi
             rw[dY]at Ku
             have B8:=ZX (P:=P) hu hk b1 b2 (mx:=none) (cap:=c) (m:=c) (.inl ⟨rfl,rfl⟩) (by simp) h1 (by omega) (AAy _) ad w
             have had:(if c=0 then ad else ad.map (·.add (0*kk)))=ad:=by
              split
              . rfl
              . exact hadd kk
             rw[had,Nat.sub_zero,Nat.sub_zero]at B8
             have LJ:(DV.own (.slice ad ZE c) false kk (Aj.take ZE)).er= .own false kk ((rows.drop 0).take (ZE-0)):=by simp[← U9,ABY]
             refine JZ (D:=.own (.slice ad ZE c) false kk (Aj.take ZE)) (Ff:=F') Bs (λs=>(ha s).trans (C9 s).symm) hd ?_ (λ_ _=>rfl) (λ_ _ _=>rfl) (λ_ h=>h) (λs x hx=>(Bs.ok s).EZ x hx)
              hokT (λs x hx KY=>CS s x hx (dO x KY)) (.own _ _ _ _) (by rw[LJ];exact he) (Nx.less λx hx=>Dh x (hx.imp id (dO x)))
             simp only[execOp,ho,Ku,Option.map_none,Sem.run_bind,Option.map_none]at B8 ⊢
             simp only[B8,Result.andThen_ok,Sem.run_pure,KA]
           . cases he
         . cases he
       . cases he
     . cases he
   . cases he
 . cases he
end Go.Abs
namespace Go.Abs
variable {w w':World} {S S':Nat->Prop} {G:Gi} {δ:Nat->DV} {Fr:Nat->Nat->Prop} {P:Program}
theorem yZ {t t' new:DV} (p:List Step) {v:Value} {bx:Bool} {k i j:Nat} {rows:List (List DV)} {row:List DV} {old:DV} (hs:Am t p=some (.own v bx k rows)) (h1:rows[i]? =some row) (h2:row[j]? =some old) (hp:DA t (p++[(i,j,k)]) new=some t'):
 Am t' p=some (.own v bx k (rows.set i (row.set j new))):=by
 induction p generalizing t t' with
 |nil=>
  simp only[Am,AAN]at hs
  subst hs
  simp only[ABI,DA,h1,h2,AAN]at hp
  subst hp
  rfl
 |cons s p ih=>
  obtain⟨i0,j0,k0⟩:=s
  cases t with
  |lf a v=>simp[Am]at hs
  |own hh b k1 JD=>
   simp only[Am]at hs
   simp only[AA5,DA]at hp
   cases hi:JD[i0]? with
   |none=>simp[hi]at hs
   |some row1=>
    simp only[hi]at hs hp
    cases hj:row1[j0]? with
    |none=>simp[hj]at hs
    |some c=>
     simp only[hj]at hs hp
     cases hc:DA c (p++[(i,j,k)]) new with
     |none=>simp[hc]at hp
     |some c'=>
      simp only[hc,AAN]at hp
      subst hp
      simp only[Am,AAS (AAQ.1 hi).1,AAS (AAQ.1 hj).1]
      exact ih hs hc
  |agg cs=>
   simp only[Am]at hs
   simp only[AA5,DA]at hp
   cases hj:cs[j0]? with
   |none=>simp[hj]at hs
   |some c=>
    simp only[hj]at hs hp
    cases hc:DA c (p++[(i,j,k)]) new with
    |none=>simp[hc]at hp
    |some c'=>
     simp only[hc,AAN]at hp
     subst hp
     simp only[Am,AAS (AAQ.1 hj).1]
     exact ih hs hc
  |BJ cs=>
   simp only[Am]at hs
   simp only[AA5,DA]at hp
   cases hj:cs[j0]? with
   |none=>simp[hj]at hs
   |some c=>
    simp only[hj]at hs hp
    cases hc:DA c (p++[(i,j,k)]) new with
    |none=>simp[hc]at hp
    |some c'=>
     simp only[hc,AAN]at hp
     subst hp
     simp only[Am,AAS (AAQ.1 hj).1]
     exact ih hs hc
theorem O7 {b off:Nat} {v u:Value} {arr:Array Value} {E:TypeId} (hb:w.heap[b]? =some (.cells arr E (0,0))) (hu:arr[off]? =some u) (hp:FW v=true):(store ⟨b,off,none⟩ v).run P w= .ok () (w.setCell ⟨b,off,none⟩ v):=by
 have hc:w.cell? ⟨b,off,none⟩=some u:=by simp[World.cell?,hb,hu]
 have hf:w.frozen? ⟨b,off,none⟩=false:=by simp[World.frozen?,hb]
 cases v<;>first
  |simp[FW]at hp;done
  |simp[store,Sem.run,hc,hf]
theorem Oj {v:Value} {bx:Bool} {k:Nat} {rows:List (List DV)} {F:Nat->Prop} {b:Nat} (h:Ok w S (.own v bx k rows) F) (hb:Rg v=some b):F b/\∃arr E,w.heap[b]? =some (.cells arr E (0,0))/\∀(i j:Nat) row d,rows[i]? =some row->row[j]? =some d->arr[i*k+j]? =some d.Aq:=by
 cases h with
 |nil=>simp[Rg]at hb
 |own _ _ _ b' c arr E Fs _ kS hk De Ko hv hr hd BP Jb hF=>
  simp only[Vw,AAN]at hb
  subst hb
  exact⟨(hF b').2 (.inl rfl),arr,E,kS,hv⟩
theorem aL {L:List Nat} {a:AV} (h:Ex a=true):E9 L a=true:=by
 cases a<;>first| (simp;done)| (simp[Ex]at h;done)
theorem Yq (ds:List DV):∀{w:World} {t:DV} {F Fd:Nat->Prop} {p:List Step} {v:Value} {bx:Bool} {k i j b:Nat} {rows:List (List DV)} {row:List DV} {t':AV},Ok w S t F->Am t p=some (.own v bx k rows)->Rg v=some b->rows[i]? =some row->j+ds.length≤row.length->
 JF w S ds Fd->(∀x,Fd x->¬F x)->(ds.map DV.er).all Ex=true->zS p i k j (ds.map DV.er) t.er=some t'->∀(m off:Nat),off+m=i*k+j->
 ∃(w':World) (td:DV) (F':Nat->Prop),(storeCells ⟨b,off,none⟩ (ds.map DV.Aq) m).run P w= .ok () w'/\Ok w' S td F'/\td.er=t'/\td.Aq=t.Aq/\(∀x,F' x->F x∨Fd x)/\(∀x,x≠b->w'.heap[x]? =w.heap[x]?)/\F b/\
  w'.os=w.os/\w'.tape=w.tape/\w'.output=w.output/\w'.heap.size=w.heap.size/\(∀δ,C3 δ t->C3 δ td)/\(∀L,E9 L t.er=true->E9 L td.er=true)/\
  ((((row.map DV.er).drop j).take ds.length).all CR=true->∀q v bx k rows,Am t q=some (.own v bx k rows)->∃rows',Am td q=some (.own v bx k rows')):=by
 induction ds with
 |nil=>
  intro w t F Fd p v bx k i j b rows row t' h hs hb hi hj CH CS BR Bs m off hm
  simp only[AA2,zS,AAN]at Bs
  obtain⟨F1,h1,h2⟩:=h.Am hs
  exact⟨w,t,F,by simp[storeCells],h,Bs,rfl,λx hx=>.inl hx,λ_ _=>rfl,h2 b (Oj h1 hb).1,rfl,rfl,rfl,rfl,λ_ h=>h,λ_ h=>h,λ_ q v bx k rows hq=>⟨rows,hq⟩⟩
 |cons d ds ih=>
  intro w t F Fd p v bx k i j b rows row t' h hs hb hi hj CH CS BR Bs m off hm
  obtain⟨Fa,Fb,hd,Jd,hab,hF⟩:=CH
  simp only[AA7]at hj
  have hjr:j<row.length:=by omega
  have hold:row[j]? =some row[j]:=AAT hjr
  obtain⟨Fn,hn1,hn2⟩:=h.Am hs
  obtain⟨QA,arr,E,kS,Pm⟩:=Oj hn1 hb
  have hFb':=hn2 b QA
  have Ko:¬S b:=h.EZ b hFb'
  have Np:∀x,Fd x->x≠b:=by rintro x hx rfl;exact CS x hx hFb'
  have hdmono:Ok (w.setCell ⟨b,i*k+j,none⟩ d.Aq) S d Fa:=by
   refine hd.mono (λx hx=>Cc _ _ _ _ _ ?_) (λx hx=>Cc _ _ _ _ _ (Np x ((hF x).2 (.inl hx)))) (λ_ h=>h) hd.EZ
   rintro rfl;exact Ko hx
  obtain⟨t1,F1,Gq,bG,hsub1,JR,_⟩:=h.store p hs hi hold hb hdmono (λx hx=>CS x ((hF x).2 (.inl hx)))
  simp only[AAg,zS]at Bs
  split at Bs
  . rename_i t'' hpt
    have oZ:t1.er=t'':=by
     obtain⟨t2,g1,g2⟩:=Gd d h.KQ hpt
     rw[Gq]at g1
     obtain rfl:=AAR g1
     exact g2
    subst oZ
    have hs1:=yZ p hs hi hold Gq
    have hi1:(rows.set i (row.set j d))[i]? =some (row.set j d):=AAS (AAQ.1 hi).1
    simp only[AAg,ABF,AAP]at BR
    have hdsmono:JF (w.setCell ⟨b,i*k+j,none⟩ d.Aq) S ds Fb:=by
     refine Jd.mono (λx hx=>Cc _ _ _ _ _ ?_) (λx hx=>Cc _ _ _ _ _ (Np x ((hF x).2 (.inr hx)))) (λ_ h=>h) (Be.2 Jd).EZ
     rintro rfl;exact Ko hx
    obtain⟨w',td,F',B8,OW,wR,QC,KN,V3,_,g1,g2,g3,g4,g5,g6,Qe⟩:=ih (off:=off) (m:=m+1) (j:=j+1) bG hs1 hb hi1 (by simp;omega) hdsmono (by
     intro x hx hx1
     rcases hsub1 x hx1 with h1|h1
     . exact CS x ((hF x).2 (.inr hx)) h1
     . exact hab x h1 hx) BR.2 Bs (by omega)
    refine⟨w',td,F',?_,OW,wR,QC.trans JR,?_,?_,hFb',g1,g2,g3,by rw[g4];simp,?_,?_,?_⟩
    . have Ed:=O7 (P:=P) (w:=w) (off:=i*k+j) (v:=d.Aq) kS (Pm i j row _ hi hold) (KD hd BR.1)
      simp only[AAg,storeCells,Sem.run_bind,Addr.add_lit,hm,Ed,Result.andThen_ok,B8]
    . intro x hx
      rcases KN x hx with h1|h1
      . rcases hsub1 x h1 with h2|h2
        . exact .inl h2
        . exact .inr ((hF x).2 (.inl h2))
      . exact .inr ((hF x).2 (.inr h1))
    . intro x hx
      rw[V3 x hx,Cc _ _ _ _ _ hx]
    . intro δ F6
      refine g5 δ (Le _ Gq F6 ?_)
      exact QR (ds:=[d]) (by simpa using BR.1) d (by simp)
    . intro L hL
      refine g6 L (K9 _ Gq hL ?_)
      exact aL BR.1
    . intro Hm q v' Zo k' rows' hq
      have hdrop:(row.map DV.er).drop j=(row[j]).er::(row.map DV.er).drop (j+1):=by
       rw[ABH (by simpa using hjr)];simp
      rw[hdrop]at Hm
      simp only[AA7,List.take_succ_cons,ABF,AAP]at Hm
      have bB:∃a v,row[j]= .lf a v:=by
       have hl:=(h.KQ.Am hs)
       cases hl with
       |own _ _ _ _ hr=>
        have:=hr i j row _ hi hold
        have h0:=Hm.1
        cases Ri:row[j]with
        |lf a v=>exact⟨a,v,rfl⟩
        |own=>rw[Ri]at h0;simp[CR]at h0
        |agg=>rw[Ri]at h0;simp[CR]at h0
        |BJ=>rw[Ri]at h0;simp[CR]at h0
      obtain⟨a0,v0,Zt⟩:=bB
      have holdsub:Am t (p++[(i,j,k)])=some (.lf a0 v0):=by rw[Hu,hs];simp[Am,hi,hold,Zt]
      obtain⟨JD,hq1⟩:=QN _ Gq holdsub (by simp) (by simp) (by simp) q v' Zo k' rows' hq
      refine Qe ?_ q v' Zo k' JD hq1
      rw[List.map_set,List.drop_set_of_lt (by omega)]
      exact Hm.2
  . cases Bs
theorem lR (h:St G w S δ Fr) {a:Act} (ha:Rd δ a) {o:Oper} {t:TypeId} {x u:Operand} {n:Nat} {y z:Ar} (hd:Ik G a o none) (ho:o.op= .store t x u) (hn:Fu P t=some n) (hc:Bt x y=true) (ML:Bt u z=true) {σ':Sg}
 (he:Fk G (.st n y z) none (λs=>(δ s).er)=some σ'):Ph P G w S Fr a o σ':=by
 obtain⟨hy,Ku⟩:=Ah hc ha
 obtain⟨hz,wS⟩:=Ah ML ha
 simp only[Fk]at he
 split at he
 . rename_i v τ ht
   obtain⟨δ1,F1,D,Ff,Et,Iw,Er,Qc⟩:=h.tk hz ht
   subst Iw
   subst Er
   split at he
   . rename_i r p i j k UN
     cases y with
     |c c=>simp[Dr]at UN
     |t s=>
      obtain⟨vh,bx,Aj,b,Fx,Bb,hb,hp,CH,_⟩:=Et.st.Dr UN
      split at he
      . rename_i Zo k' rows oP
        obtain⟨D',hD',vY⟩:=DT (Et.st.ok r).KQ oP
        rw[Bb]at hD'
        obtain rfl:=AAR hD'
        simp only[EE,AV.own.injEq]at vY
        obtain⟨rfl,rfl,rfl⟩:=vY
        split at he
        . rename_i row DZ
          rw[AAZ,AAm]at DZ
          obtain⟨IH,hrD,rfl⟩:=DZ
          split at he
          . rename_i E7
            obtain⟨hlen,BR,hjn⟩:=E7
            split at he
            . rename_i t' Bs
              have hm:=Kt D Et.ok.KQ
              have hl:(Eh D).length=n:=by rw[← hlen,← hm];simp
              have S5:=Kz Et.ok BR
              rw[← hm]at Bs BR
              obtain⟨w',td,F',B8,OW,wR,QC,KN,V3,QA,g1,g2,g3,g4,g5,g6,Qe⟩:=Yq (P:=P) (Eh D) (Et.st.ok r) Bb hb hrD (by rw[hl];simpa using hjn) (MR Et.ok) (λx hx KY=>Et.LF r x KY hx) BR Bs 0 (i*k+j) rfl
              have hS:∀x,S x->w'.heap[x]? =w.heap[x]? :=λx hx=>V3 x (by rintro rfl;exact(Et.st.ok r).EZ _ QA hx)
              have hF:∀s,s≠r->∀x,F1 s x->w'.heap[x]? =w.heap[x]? :=λs hs x hx=>V3 x (by rintro rfl;exact hs (Et.st.LF s r _ hx QA))
              have CS:∀s,s≠r->∀x,F' x->¬F1 s x:=by
               intro s hs x hx KY
               rcases KN x hx with h1|h1
               . exact hs (Et.st.LF s r x KY h1)
               . exact Et.LF s x KY h1
              have T0:(execOp a.eval o).run P w= .ok .skip w':=by
               have Po:¬((CQ δ z).cells.size≠n):=by rw[← Qc,S5];simp[hl]
               have hpt:CQ δ (.t s)= .pointer (some ⟨b,i*k+j,none⟩):=by simp only[CQ];rw[← Et.Aq s];exact hp
               have GX:(CQ δ z).cells.toList=(Eh D).map DV.Aq:=by rw[← Qc,S5]
               simp only[execOp,ho,Ku,wS,hpt,Instr.storeAt,Instr.sureAddr,storeVar,Sem.run_bind,Sem.run_pure,Result.andThen_ok,run_sizeOf hn,Sem.run_ite,Po,AAe,GX,B8]
              have RF:∀(δ':Nat->DV),(∀s,(δ' s).Aq=(δ1 s).Aq)->Rd δ' (a.put o.dst undef):=by
               intro δ' hδ s
               have h0:o.dst=none:=hd
               rw[h0]
               simp only[Act.put]
               rw[hδ,Et.Aq];exact ha s
              have EO:∀F2:Nat->Nat->Prop,(∀x,A2 F2 x->A2 F1 x∨Ff x)->Nx w S (A2 Fr) w' S (A2 F2):=by
               intro F2 Vu
               refine⟨g1,g2,g3,by omega,?_,λ_ h=>h,λ_ h=>.inl h,λhl b hb=>by rw[g4];exact hl b hb,λx hx=>.inl (Et.own x (Vu x hx))⟩
               intro x _ hU
               refine V3 x ?_
               rintro rfl
               exact hU (Et.own _ (.inl ⟨r,QA⟩))
              have Vu:∀x,A2 (C1 F1 r F') x->A2 F1 x∨Ff x:=by
               rintro x ⟨s,hx⟩
               by_cases e:s=r
               . subst e;rw[A6]at hx;exact(KN x hx).imp (λh=>⟨s,h⟩) id
               . rw[BN _ _ e]at hx;exact .inl ⟨s,hx⟩
              have halt:C3 δ1 td:=g5 δ1 (Et.st.al r)
              have Xm:E9 (G.GJ r) td.er=true:=g6 _ (Et.st.rt r)
              split at he
              . rename_i Hm
                simp only[AAN]at he
                subst he
                refine⟨.skip,undef,w',S,C1 δ1 r td,C1 F1 r F',T0,.inr ⟨rfl,rfl⟩,RF _ ?_,?_,Et.st.poke r td F' hS hF OW CS Xm halt (Qe (by rw[hl];exact Hm)) QC,EO _ Vu⟩
                . intro s'
                  by_cases e:s'=r
                  . subst e;rw[A6,QC]
                  . rw[BN _ _ e]
                . funext s'
                  by_cases e:s'=r
                  . subst e;simp only[A6,wR]
                  . simp only[BN _ _ e]
              . simp only[AAN]at he
                subst he
                refine⟨.skip,undef,w',S,C1 (Gp G r δ1) r td,C1 F1 r F',T0,.inr ⟨rfl,rfl⟩,RF _ ?_,?_,Et.st.set r td F' hS hF (λ_ h=>h) (λs _ x hx=>(Et.st.ok s).EZ x hx) OW CS Xm halt,EO _ Vu⟩
                . intro s'
                  rw[HL Et.st]
                  split
                  . rename_i e;rw[e,QC]
                  . rfl
                . rw[Hl Et.st,wR]
            . cases he
          . cases he
        . cases he
      . cases he
   . cases he
 . cases he
end Go.Abs
namespace Go.Abs
variable {w w':World} {S S':Nat->Prop} {G:Gi} {δ:Nat->DV} {Fr:Nat->Nat->Prop} {P:Program}
def Reads (w:World) (v:Value) (n:Nat) (vs:List Value):Prop:=(∃a c,v= .slice a 0 c/\n=0/\vs=[])∨∃b off c,v= .slice (some ⟨b,off,none⟩) n c/\∀(j:Nat) u,vs[j]? =some u->w.cell? ⟨b,off+j,none⟩=some u
theorem Pe {size n:Nat} {v:Value} {vs:List Value} (h:Reads w v n vs) (hl:vs.length=n*size):(Builtin.firstCells size n v).run P w= .ok vs.toArray w:=by
 rcases h with⟨a,c,rfl,rfl,rfl⟩|⟨b,off,c,rfl,hc⟩
 . cases a<;>simp[Builtin.firstCells,loadCells,loadCellsFrom]
 . exact run_firstCells_some (P:=P) w size n ⟨b,off,none⟩ n c vs hl (λj u hu=>by rw[Addr.add_lit];exact hc j u hu)
theorem Reads.drew {v:Value} {n:Nat} {vs:List Value} (h:Reads w v n vs):Reads w.drew v n vs:=h
theorem Reads.len {v:Value} {n:Nat} {vs:List Value} (h:Reads w v n vs):∃ad c,v= .slice ad n c:=by
 rcases h with⟨a,c,rfl,rfl,rfl⟩|⟨b,off,c,rfl,hc⟩
 . exact⟨a,c,rfl⟩
 . exact⟨_,c,rfl⟩
theorem Sj {t ty e:TypeId} {i:TypeInfo} {z:Value} (ht:P.underlying t=some (.slice e)) (hi:P.info? e=some i) (hz:i.zero=some z) {base:ABp Addr} {n OA m:Nat} {v:Value} {olds news:List Value}
 (hx:Reads w (.slice base n OA) n olds) (ho:olds.length=n*i.size) (hy:Reads w v m news) (hn:news.length=m*i.size) (hg:OA<n+m) (oN:(n+m)*i.bytes≤70368744177664) (h63:n+m≤9223372036854775807):
 (Builtin.append_ #[t,t] ty #[.slice base n OA,v]).run P w= .ok (.slice (some ⟨w.heap.size,0,none⟩) (n+m) (grownCap w (n+m) OA e)) (w.drew.alloc (.cells ((olds++news).toArray++Builtin.zeroCells z.cells (grownCap w (n+m) OA e-(n+m))) e)):=by
 obtain⟨ad,c,rfl⟩:=hy.len
 have hnn:¬(n+m≤OA):=by omega
 have h63':¬(9223372036854775807<((n:Int)+(m:Int))):=by omega
 have h48':¬(281474976710656<Builtin.nextslicecap (n+m) OA*i.bytes):=by have:=growslice_fits (bytes:=i.bytes) hg (by omega);omega
 have hf:=Pe (P:=P) hy.drew hn
 have hfo:=Pe (P:=P) hx.drew ho
 simp[Builtin.append_,run_underlying ht,sizeOf,typeInfo,zeroValue,hi,hz,Builtin.lenOf,hnn,h63',h48',Question.forced,hf,hfo,newRow,grownCap]
 congr 2
 apply ABT
 simp[AA6]
theorem ZW {t ty e E:TypeId} {i:TypeInfo} (ht:P.underlying t=some (.slice e)) (hi:P.info? e=some i) {g n OA m:Nat} {v:Value} {news:List Value} {cur:Array Value} (hgb:w.heap[g]? =some (.cells cur E (0,0)))
 (hy:Reads w v m news) (hn:news.length=m*i.size) (hp:∀u∈news,u.oneCell'=true) (OX:n+m≤OA) (oN:n*i.size+news.length≤cur.size):
 (Builtin.append_ #[t,t] ty #[.slice (some ⟨g,0,none⟩) n OA,v]).run P w= .ok (.slice (some ⟨g,0,none⟩) (n+m) OA) (w.setRow g (cur.toList.take (n*i.size)++news++cur.toList.drop (n*i.size+news.length)).toArray):=by
 obtain⟨ad,c,rfl⟩:=hy.len
 have hf:=Pe (P:=P) hy hn
 have Bs:=run_storeCells_at P g (n*i.size) E news 0 cur w hgb (by simpa using oN) hp
 simp only[Nat.add_zero]at Bs
 simp[Builtin.append_,run_underlying ht,sizeOf,typeInfo,hi,Builtin.lenOf,OX,hf,Addr.add_lit,Bs]
theorem p9 {v:Value} (h:FW v=true):v.oneCell'=true:=by cases v<;>simp_all [FW,Value.oneCell']
theorem Qa {x:Bool} {k:Nat} {rows:List (List AV)} {v:Value} (h:Fz w S (.sl x k rows) v):
 ∃ds:List (List DV),ds.map (·.map DV.er)=rows.map (·.map I3)/\(∀r∈ds,r.length=k)/\JF w S ds.flatten (λ_=>False)/\Reads w v ds.length (ds.flatten.map DV.Aq)/\ds.length=rows.length:=by
 cases h with
 |nil x k a c hx=>
  exact⟨[],by simp,by simp,λ_ h=>h,.inl ⟨a,c,rfl,rfl,rfl⟩,rfl⟩
 |sl x k rows b off c vs hx RE hS hk hc hr=>
  obtain⟨ds,hl,Jd⟩:=Ka rows (λi row (drow:List DV)=>drow.map DV.er=row.map I3/\drow.length=k/\(∀d∈drow,Ok w S d (λ_=>False))/\∀(j:Nat) d,drow[j]? =some d->w.cell? ⟨b,off+(i*k+j),none⟩=some d.Aq) (by
   intro i row hi
   obtain⟨dr,hl,I7⟩:=Ka row (λj a (d:DV)=>d.er=I3 a/\Ok w S d (λ_=>False)/\w.cell? ⟨b,off+(i*k+j),none⟩=some d.Aq) (by
    intro j a hj
    obtain⟨D,h1,h2,h3,_⟩:=Vp (δ:=λ_=>default) (hr i j row a hi hj)
    exact⟨D,h1,h3,by rw[h2];exact hc i j row a hi hj⟩)
   refine⟨dr,?_,by rw[hl];exact hk row (AAb hi),?_,?_⟩
   . exact map_mk hl I7 _ _ (by simp) λj a d hΦ ha=>by simp[ha,hΦ.1]
   . intro d hd;obtain⟨j,hj⟩:=AAn hd;obtain⟨a,_,hΦ⟩:=mem_mk hl I7 j d hj;exact hΦ.2.1
   . intro j d hd;obtain⟨a,_,hΦ⟩:=mem_mk hl I7 j d hd;exact hΦ.2.2)
  have hkd:∀r∈ds,r.length=k:=by
   intro r XK
   obtain⟨i,hi⟩:=AAn XK
   obtain⟨c,_,hΦ⟩:=mem_mk hl Jd i r hi
   exact hΦ.2.1
  refine⟨ds,?_,hkd,B7 ?_,.inr ⟨b,off,c,by rw[hl],?_⟩,hl⟩
  . exact map_mk hl Jd _ _ (by simp) λi row dr hΦ DZ=>by simp[DZ,hΦ.1]
  . intro d hd
    rw[List.mem_flatten]at hd
    obtain⟨r,XK,hd⟩:=hd
    obtain⟨i,hi⟩:=AAn XK
    obtain⟨c,_,hΦ⟩:=mem_mk hl Jd i r hi
    exact hΦ.2.2.1 d hd
  . intro n u hu
    rw[AAZ,AAm]at hu
    obtain⟨d,hd,rfl⟩:=hu
    have D5:n<ds.length*k:=by rw[← DF hkd];exact(AAQ.1 hd).1
    have aZ:0<k:=(Nat.eq_zero_or_pos k).elim (λh=>by subst h;simp at D5) id
    have hi:n/k<ds.length:=Nat.div_lt_of_lt_mul (by rw[ABD];exact D5)
    have hj:n%k<(ds[n/k]).length:=by rw[hkd _ (AAi hi)];exact Nat.mod_lt _ aZ
    have h1:=KK hkd (AAT hi) (AAT hj)
    rw[ABD,ABW,hd]at h1
    obtain rfl:=AAR h1
    obtain⟨c,_,hΦ⟩:=mem_mk hl Jd _ _ (AAT hi)
    have:=hΦ.2.2.2 _ _ (AAT hj)
    rw[show n/k*k+n%k=n from by rw[ABD];exact ABW n k]at this
    exact this
theorem TS {rows:List (List AV)} (h:rows.all (·.all G1)=true):rows.map (·.map I3)=rows:=by
 rw[AAU]at h
 conv=>rhs;rw[← List.map_id rows]
 apply ABk
 intro r hr
 have h1:=h r hr
 rw[AAU]at h1
 conv=>rhs;rw[id,← List.map_id r]
 apply ABk
 intro a ha
 have:=h1 a ha
 cases a<;>simp_all [G1,I3]
theorem Qn {ds:List (List DV)} {F:Nat->Prop} (h:JF w S ds.flatten F) (hc:(ds.map (·.map DV.er)).all (·.all Ex)=true):∀d∈ds.flatten,FW d.Aq=true:=by
 intro d hd
 obtain⟨Fs,h1,_,_,_⟩:=JK.1 h
 obtain⟨n,hn⟩:=AAn hd
 refine KD (h1 n d hn) ?_
 rw[List.mem_flatten]at hd
 obtain⟨r,hr,hd⟩:=hd
 rw[AAU]at hc
 have:=hc (r.map DV.er) (ABP hr)
 rw[AAU]at this
 exact this d.er (ABP hd)
theorem SH {rows:List (List AV)} (h:rows.all (·.all G1)=true):rows.all (·.all Ex)=true:=by
 rw[AAU]at h ⊢
 intro r hr
 have:=h r hr
 rw[AAU]at this ⊢
 intro a ha
 have:=this a ha
 cases a<;>simp_all [G1,Ex]
theorem Ym {v:Value} {k:Nat} {rows:List (List DV)} {F:Nat->Prop} (h:Ok w S (.own v false k rows) F):Reads w v rows.length (rows.flatten.map DV.Aq)/\(∀r∈rows,r.length=k)/\∃Fc,JF w S rows.flatten Fc/\∀x,Fc x->F x:=by
 rcases Yl h with⟨rfl,_,rfl,hF⟩|⟨b,c,arr,E,Fc,rfl,hb,hk,De,hS,CH,Jb,hF,ha⟩
 . exact⟨.inl ⟨none,0,rfl,rfl,rfl⟩,by simp,λ_=>False,λ_ h=>h,λ_ h=>h.elim⟩
 . refine⟨.inr ⟨b,0,c,by simp[I7],?_⟩,hk,Fc,CH,λx hx=>(hF x).2 (.inr hx)⟩
   intro n u hu
   rw[AAZ,AAm]at hu
   obtain⟨d,hd,rfl⟩:=hu
   simp[World.cell?,hb,ha n d hd]
theorem St.VY (h:St G w S δ Fr) {y:Ar} {k:Nat} {ys:List (List AV)} {τ:Sg} (hy:VM y) (he:Abs.VY G k y (λs=>(δ s).er)=some (ys,τ)):
 ∃(S1:Nat->Prop) (δ1:Nat->DV) (F1:Nat->Nat->Prop) (Jz:List (List DV)) (Fy:Nat->Prop),St G w S1 δ1 F1/\(λs=>(δ1 s).er)=τ/\(∀s,(δ1 s).Aq=(δ s).Aq)/\Jz.map (·.map DV.er)=ys/\(∀r∈Jz,r.length=k)/\
  JF w S1 Jz.flatten Fy/\Reads w (CQ δ y) Jz.length (Jz.flatten.map DV.Aq)/\(∀d∈Jz.flatten,FW d.Aq=true)/\(∀s x,F1 s x->¬Fy x)/\Nx w S (A2 Fr) w S1 (λx=>A2 F1 x∨Fy x):=by
 cases y with
 |c c=>
  simp only[Abs.VY]at he
  split at he
  . rename_i kk
    simp only[AAN,AAc]at he
    obtain⟨rfl,rfl⟩:=he
    exact⟨S,δ,Fr,[],λ_=>False,h,rfl,λ_=>rfl,rfl,by simp,λ_ h=>h,.inl ⟨none,0,by simp[CQ,IU],rfl,rfl⟩,by simp,λ_ _ _ h=>h,Nx.less λx hx=>hx.elim id False.elim⟩
  . cases he
 |t s=>
  simp only[Abs.VY]at he
  cases hs:(δ s).er with
  |own b k' rows=>
   cases b with
   |true=>simp[hs]at he
   |false=>
    simp only[hs]at he
    split at he
    . rename_i E7
      obtain⟨rfl,BR⟩:=E7
      simp only[AAN,AAc]at he
      obtain⟨rfl,rfl⟩:=he
      obtain⟨Aj,hd,hm⟩:=h.WQ hs
      have CH:=h.ok s
      rw[hd]at CH
      obtain⟨RF,hk,Fc,oT,Bb⟩:=Ym CH
      refine⟨S,_,_,Aj,Fc,h.empty s,by rw[Hl h];simp,?_,hm,hk,oT,RF,Qn oT (by rw[hm];exact BR),?_,Nx.less ?_⟩
      . intro t;rw[HL h];split
        . rename_i e;rw[e];simp
        . rfl
      . intro t x hx hf
        by_cases e:t=s
        . subst e;rw[A6]at hx;exact hx
        . rw[BN _ _ e]at hx;exact e (h.LF t s x hx (Bb x hf))
      . rintro x (⟨t,hx⟩|hx)
        . by_cases e:t=s
          . subst e;rw[A6]at hx;exact hx.elim
          . rw[BN _ _ e]at hx;exact⟨t,hx⟩
        . exact⟨s,Bb x hx⟩
    . cases he
  |sl ee k' rows=>
   simp only[hs]at he
   split at he
   . rename_i E7
     obtain⟨rfl,TK⟩:=E7
     simp only[AAN,AAc]at he
     obtain⟨rfl,rfl⟩:=he
     obtain⟨ds,h1,h2,h3,h4,h5⟩:=Qa (h.leaf hs rfl).2.1
     rw[TS TK]at h1
     exact⟨S,δ,Fr,ds,λ_=>False,h,rfl,λ_=>rfl,h1,h2,h3,h4,Qn h3 (by rw[h1];exact SH TK),λ_ _ _ h=>h,Nx.less λx hx=>hx.elim id False.elim⟩
   . cases he
  |al r p=>
   simp only[hs]at he
   split at he
   . rename_i ee k' rows τ' Mk
     split at he
     . rename_i E7
       obtain⟨rfl,TK⟩:=E7
       simp only[AAN,AAc]at he
       obtain⟨rfl,rfl⟩:=he
       obtain⟨δ1,F1,Fo,v,bx,kk,Aj,Bs,Iw,C9,Bb,hf,hfe,CS,Dh,_⟩:=h.Pk Mk
       obtain⟨_,_,F6⟩:=h.leaf hs rfl
       obtain⟨Zo,k2,rows',hl⟩:=F6
       rw[Bb]at hl
       simp only[AAN,DV.own.injEq]at hl
       obtain⟨ds,h1,h2,h3,h4,h5⟩:=Qa hf
       rw[TS TK]at h1
       refine⟨_,δ1,F1,ds,λ_=>False,Bs,Iw,C9,h1,h2,h3,by rw[hl.1]at h4;exact h4,Qn h3 (by rw[h1];exact SH TK),λ_ _ _ h=>h,Nx.I0 ?_ ?_⟩
       . intro x hx;exact Dh x (hx.imp (λh=>h.elim id False.elim) id)
       . intro x hx;obtain⟨t,ht⟩:=Dh x (.inr hx);exact(h.ok t).lt x ht
     . cases he
   . cases he
  |_=>simp[hs]at he
theorem St.UJ (h:St G w S δ Fr) {x:Ar} {k:Nat} {n:AV} {τ:Sg} (hx:VM x) (he:Abs.UJ G k x (λs=>(δ s).er)=some (n,τ)):
 (∃rows,n= .own false k rows/\∃(δ1:Nat->DV) (F1:Nat->Nat->Prop) (Aj:List (List DV)) (Ff:Nat->Prop),St G w S δ1 F1/\(λs=>(δ1 s).er)=τ/\(∀s,(δ1 s).Aq=(δ s).Aq)/\Aj.map (·.map DV.er)=rows/\Ok w S (.own (CQ δ x) false k Aj) Ff/\
  (∀s x,F1 s x->¬Ff x)/\(∀x,A2 F1 x∨Ff x->A2 Fr x))∨
 (∃rows,n= .sl true k rows/\τ=(λs=>(δ s).er)/\rows.all (·.all G1)=true/\Fz w S (.sl true k rows) (CQ δ x)):=by
 cases x with
 |c c=>
  simp only[Abs.UJ]at he
  split at he
  . rename_i kk
    simp only[AAN,AAc]at he
    obtain⟨rfl,rfl⟩:=he
    exact .inl ⟨[],rfl,δ,Fr,[],λ_=>False,h,rfl,λ_=>rfl,rfl,by simpa[CQ,IU]using Ok.nil k _ (λ_ h=>h),λ_ _ _ h=>h,λx hx=>hx.elim id False.elim⟩
  . cases he
 |t s=>
  simp only[Abs.UJ]at he
  cases hs:(δ s).er with
  |own b k' rows=>
   cases b with
   |true=>simp[hs]at he
   |false=>
    simp only[hs]at he
    split at he
    . rename_i hk
      subst hk
      simp only[AAN,AAc]at he
      obtain⟨rfl,rfl⟩:=he
      obtain⟨Aj,hd,hm⟩:=h.WQ hs
      have CH:=h.ok s
      rw[hd]at CH
      refine .inl ⟨rows,rfl,_,_,Aj,Fr s,h.empty s,by rw[Hl h];simp,?_,hm,by simpa[CQ]using CH,?_,?_⟩
      . intro t;rw[HL h];split
        . rename_i e;rw[e];simp
        . rfl
      . intro t x hx hf
        by_cases e:t=s
        . subst e;rw[A6]at hx;exact hx
        . rw[BN _ _ e]at hx;exact e (h.LF t s x hx hf)
      . rintro x (⟨t,hx⟩|hx)
        . by_cases e:t=s
          . subst e;rw[A6]at hx;exact hx.elim
          . rw[BN _ _ e]at hx;exact⟨t,hx⟩
        . exact⟨s,hx⟩
    . cases he
  |sl ee k' rows=>
   cases ee with
   |false=>simp[hs]at he
   |true=>
    simp only[hs]at he
    split at he
    . rename_i E7
      obtain⟨rfl,TK⟩:=E7
      simp only[AAN,AAc]at he
      obtain⟨rfl,rfl⟩:=he
      exact .inr ⟨rows,rfl,rfl,TK,(h.leaf hs rfl).2.1⟩
    . cases he
  |al r p=>
   simp only[hs]at he
   split at he
   . rename_i k' rows τ' ht
     split at he
     . rename_i hk
       subst hk
       simp only[AAN,AAc]at he
       obtain⟨rfl,rfl⟩:=he
       obtain⟨δ1,F1,D,Ff,Bs,Iw,C9,hD,Er,⟨v,bx,kk,Aj,rfl⟩,Bb,CS,Dh,_,_⟩:=h.Zh ht
       simp only[EE,AV.own.injEq]at Er
       obtain⟨rfl,rfl,hm⟩:=Er
       obtain⟨_,_,F6⟩:=h.leaf hs rfl
       obtain⟨Zo,k2,rows',hl⟩:=F6
       rw[Bb]at hl
       simp only[AAN,DV.own.injEq]at hl
       exact .inl ⟨rows,rfl,δ1,F1,Aj,Ff,Bs,Iw,C9,hm,by rw[show CQ δ (.t s)=v from hl.1.symm];exact hD,CS,Dh⟩
     . cases he
   . cases he
  |_=>simp[hs]at he
end Go.Abs
namespace Go.Abs
variable {w w':World} {S S':Nat->Prop} {G:Gi} {δ:Nat->DV} {Fr:Nat->Nat->Prop} {P:Program}
theorem Wz {S1:Nat->Prop} {U1:Nat->Prop} {δ1:Nat->DV} {F1:Nat->Nat->Prop} {a:Act} {o:Oper} {d:Dg} {σ':Sg} {k c:Nat} {rows:List (List DV)} {Fd:Nat->Prop} {arr:Array Value} {E:TypeId} (h:St G w S1 δ1 F1) (CN:∀b,S1 b->b<w.heap.size) (ha:Rd δ1 a)
 (hd:Ik G a o (some d)) (hr:(execOp a.eval o).run P w= .ok (.value (.slice (some ⟨w.heap.size,0,none⟩) rows.length c)) w') (kZ:w'.heap=w.heap.push (.cells arr E)) (xF:w'.os=w.os) (htp:w'.tape=w.tape) (hou:w'.output=w.output)
 (CH:JF w S1 rows.flatten Fd) (CS:∀s x,F1 s x->¬Fd x) (hk:∀row∈rows,row.length=k)
 (De:c*k=arr.size/\rows.length≤c) (hv:∀(n:Nat) d,rows.flatten[n]? =some d->arr[n]? =some d.Aq)
 (LY:wr d (.own false k (rows.map (·.map DV.er))) (λs=>(δ1 s).er)=some σ') (Dh:∀x,A2 F1 x∨Fd x->U1 x) (hnx0:Nx w S (A2 Fr) w S1 U1):Ph P G w S Fr a o σ':=by
 have D5:=(Be.2 CH).lt
 have hnS:=(Be.2 CH).EZ
 have hold:∀b,b<w.heap.size->w'.heap[b]? =w.heap[b]? :=λb hb=>by rw[kZ,Array.getElem?_push,AAX (by omega)]
 have oQ:w'.heap[w.heap.size]? =some (.cells arr E (0,0)):=by rw[kZ];simp
 have bD:Ok w' S1 (.own (I7 false w.heap.size rows.length c) false k rows) (λx=>x=w.heap.size∨Fd x):=by
  refine iE oQ hk (by simpa using De) (λhs=>by have:=CN _ hs;omega) ?_ (λhs=>by have:=D5 _ hs;omega) hv
  exact CH.mono (λb hb=>hold b (CN b hb)) (λb hb=>hold b (D5 b hb)) (λ_ h=>h) hnS
 refine JZ (D:=.own (I7 false w.heap.size rows.length c) false k rows) h ha hd (by simpa[I7]using hr) (λb hb=>hold b (CN b hb)) (λs x hx=>hold x ((h.ok s).lt x hx)) (λ_ h=>h) (λs x hx=>(h.ok s).EZ x hx) bD ?_ (.own _ _ _ _) (by simpa using LY) ?_
 . rintro s x hx (rfl|hf)
   . have:=(h.ok s).lt _ hx;omega
   . exact CS s x hx hf
 . refine hnx0.trans ⟨xF,htp,hou,by rw[kZ];simp,λb hb _=>hold b hb,λ_ h=>h,λ_ h=>.inl h,λhl b hb=>by rw[kZ];have:=hl b hb;simp;omega,?_⟩
   rintro x (hx|rfl|hx)
   . exact .inl (Dh x (.inl hx))
   . exact .inr (AAy _)
   . exact .inl (Dh x (.inr hx))
theorem Sk {t ty e:TypeId} {i:TypeInfo} (ht:P.underlying t=some (.slice e)) (hi:P.info? e=some i) {base:ABp Addr} {n c:Nat} (hnc:n≤c) {v:Value} (hy:Reads w v 0 []):
 (Builtin.append_ #[t,t] ty #[.slice base n c,v]).run P w= .ok (.slice base n c) w:=by
 obtain⟨ad,c',rfl⟩:=hy.len
 have hf:=Pe (P:=P) (size:=i.size) hy (by simp)
 cases base<;>simp[Builtin.append_,run_underlying ht,sizeOf,typeInfo,hi,Builtin.lenOf,hf,hnc,storeCells]
theorem Vs {z:Value} {k n m cap:Nat} {xs ys:List Value} (hz:z.cells.size=k) (hx:xs.length=n*k) (hy:ys.length=m*k) (hc:n+m≤cap):cap*k=((xs++ys).toArray++Builtin.zeroCells z.cells (cap-(n+m))).size:=by
 simp only[Array.size_append,ABi,AA1,size_zeroCells,hx,hy,hz,← Nat.add_mul]
 congr 1
 omega
theorem zG (h:St G w S δ Fr) (CN:∀b,S b->b<w.heap.size) {a:Act} (ha:Rd δ a) {o:Oper} {c:Call} {u v:Operand} {t e:TypeId} {i:TypeInfo} {z:Value} {k bytes:Nat} {x y:Ar} {d:Dg} (hd:Ik G a o (some d)) (ho:o.op= .call c) (Kp:c.callee= .builtin .append) (FK:c.args= #[u,v]) (hty:c.argTypes= #[t,t])
 (hu:P.underlying t=some (.slice e)) (hi:P.info? e=some i) (Po:i.size=k) (kT:i.bytes=bytes) (rZ:0<bytes) (hz:i.zero=some z) (hzk:z.cells.size=k) (hc:Bt u x=true) (ML:Bt v y=true) {σ':Sg}
 (he:Fk G (.app k bytes x y) (some d) (λs=>(δ s).er)=some σ'):Ph P G w S Fr a o σ':=by
 obtain⟨hx,Ku⟩:=Ah hc ha
 obtain⟨hy,wS⟩:=Ah ML ha
 subst Po
 subst kT
 have T0:∀r w',(Builtin.append_ #[t,t] o.type #[CQ δ x,CQ δ y]).run P w= .ok r w'->(execOp a.eval o).run P w= .ok (.value r) w':=by
  intro r w' hr
  simp only[execOp,ho,resolve,Kp,FK,hty,invoke,builtin,Sem.run_bind,Sem.run_pure,Result.andThen_ok,List.map_toArray,AAg,AA2,Ku,wS,hr]
 simp only[Fk]at he
 split at he
 . rename_i ys τ hY
   obtain⟨S1,δ1,F1,Jz,Fy,Ed,Vy,JR,hysm,hyk,hyok,hyr,hypl,hydis,oR⟩:=h.VY hy hY
   subst Vy
   have hSlt1:=oR.lt CN
   have hav:CQ δ1 x=CQ δ x:=by cases x<;>simp[CQ,JR]
   have xO:Jz.length=ys.length:=by rw[← hysm];simp
   split at he
   . -- a node
     rename_i b' k' rows τ' hX
     split at he
     . rename_i OX
       rcases Ed.UJ hx hX with⟨KT,hn,δ2,F2,Aj,Ff,Jf,Qd,LU,hrm,CH,LW,Jk⟩|⟨_,hn,_⟩
       . simp only[AV.own.injEq]at hn
         obtain⟨rfl,rfl,rfl⟩:=hn
         subst Qd
         have dY:Aj.length=rows.length:=by rw[← hrm];simp
         have ha2:Rd δ2 a:=λs=>(ha s).trans ((LU s).trans (JR s)).symm
         simp only[Al,AAf]at OX
         rw[← dY,← xO]at OX
         have h63:Aj.length+Jz.length≤9223372036854775807:=by
          have:=Nat.le_mul_of_pos_right (Aj.length+Jz.length) rZ
          omega
         rw[hav]at CH
         obtain⟨hxr,hxk,Fc',hxok',KN⟩:=Ym CH
         have hxl:(Aj.flatten.map DV.Aq).length=Aj.length*i.size:=by rw[AAo,DF hxk]
         have hyl:(Jz.flatten.map DV.Aq).length=Jz.length*i.size:=by rw[AAo,DF hyk]
         have hdy:∀x,A2 F2 x∨Ff x->¬Fy x:=by
          intro x hx hfy
          obtain⟨s,hs⟩:=Jk x hx
          exact hydis s x hs hfy
         have lB:(Aj++Jz).map (·.map DV.er)=rows++ys:=by rw[AA9,hrm,hysm]
         have hkk:∀r∈Aj++Jz,r.length=i.size:=by
          intro r hr
          rcases AAj.1 hr with h1|h1
          . exact hxk r h1
          . exact hyk r h1
         have hU:Nx w S (A2 Fr) w S1 (λx=>A2 F1 x∨Fy x):=oR
         have Hm:∀Fc,(∀x,Fc x->Ff x)->JF w S1 Aj.flatten Fc->JF w S1 (Aj++Jz).flatten (λx=>Fc x∨Fy x):=by
          intro Fc Bb oT
          rw[List.flatten_append]
          exact Kw oT hyok (λx hx=>hdy x (.inr (Bb x hx)))
         have grow:∀(base:ABp Addr) (n OA:Nat),CQ δ x= .slice base n OA->n=Aj.length->OA<Aj.length+Jz.length->Ph P G w S Fr a o σ':=by
          intro base n OA hv hn D5
          subst hn
          rw[hv]at hxr
          have B8:=Sj (P:=P) (ty:=o.type) hu hi hz hxr hxl hyr hyl D5 OX h63
          have l8:=grownCap_ge w (Aj.length+Jz.length) OA e
          obtain⟨W1,wC⟩:∃W1,W1=w.drew.alloc (.cells ((Aj.flatten.map DV.Aq++Jz.flatten.map DV.Aq).toArray++Builtin.zeroCells z.cells (grownCap w (Aj.length+Jz.length) OA e-(Aj.length+Jz.length))) e):=⟨_,rfl⟩
          rw[← wC]at B8
          refine Wz (w':=W1) (Fr:=Fr) (U1:=λx=>A2 F1 x∨Fy x) (rows:=Aj++Jz) (Fd:=λx=>Fc' x∨Fy x) (arr:=(Aj.flatten.map DV.Aq++Jz.flatten.map DV.Aq).toArray++Builtin.zeroCells z.cells (grownCap w (Aj.length+Jz.length) OA e-(Aj.length+Jz.length))) (E:=e) Jf hSlt1 ha2 hd
           (by rw[AA1];exact T0 _ _ (by rw[hv];exact B8)) (by rw[wC];rfl) (by rw[wC];rfl) (by rw[wC];rfl) (by rw[wC];rfl) (Hm Fc' KN hxok') ?_ hkk ⟨Vs hzk hxl hyl l8,by simpa using l8⟩ ?_ (by rw[lB];exact he) ?_ hU
          . rintro s x hx (h1|h1)
            . exact LW s x hx (KN x h1)
            . exact hdy x (.inl ⟨s,hx⟩) h1
          . intro n d hn
            rw[List.flatten_append]at hn
            have D5:n<(Aj.flatten++Jz.flatten).length:=(AAQ.1 hn).1
            rw[Array.getElem?_append_left (by rw[ABi,AA1,AAo,AAo,← AA1];exact D5),List.getElem?_toArray,← AA9,AAZ,hn]
            rfl
          . rintro x (hx|h1|h1)
            . exact .inl (Jk x (.inl hx))
            . exact .inl (Jk x (.inr (KN x h1)))
            . exact .inr h1
         rcases Yl CH with⟨hv,_,hr0,hF0⟩|⟨b,cc,arr,E,Fc,hv,hb,hk,De,hS,oT,Jb,hF,Pm⟩
         . subst hr0
           by_cases hm:Jz.length=0
           . have hy0:Jz=[]:=ABm hm
             subst hy0
             have B8:=Sk (P:=P) (w:=w) (ty:=o.type) hu hi (base:=none) (n:=0) (c:=0) (AAy 0) (by simpa using hyr)
             have hys:ys=[]:=by rw[← hysm];rfl
             have oV:rows=[]:=by rw[← hrm];rfl
             subst hys
             subst oV
             refine JZ (D:=.own (.slice none 0 0) false i.size []) (Ff:=λ_=>False) Jf ha2 hd (by simpa using T0 _ _ (by rw[hv];exact B8)) (λ_ _=>rfl) (λ_ _ _=>rfl) (λ_ h=>h) (λs x hx=>(Jf.ok s).EZ x hx) (.nil _ _ (λ_ h=>h)) (λ_ _ _ h=>h) (.own _ _ _ _) (by simpa using he) ?_
             exact hU.trans (Nx.less λx hx=>.inl (Jk x (.inl (hx.elim id False.elim))))
           . exact grow none 0 0 hv rfl (by omega)
         . by_cases oN:Aj.length+Jz.length≤cc
           . -- room
             simp only[AAW,AAe]at De
             have hsz2:Aj.length*i.size+(Jz.flatten.map DV.Aq).length≤arr.size:=by
              rw[hyl,← De.1,← Nat.add_mul];exact ABN _ oN
             have B8:=ZW (P:=P) (ty:=o.type) hu hi hb hyr hyl (by
              intro q hq
              obtain⟨dd,LJ,rfl⟩:=ABZ.1 hq
              exact p9 (hypl dd LJ)) oN hsz2
             generalize xN:w.setRow b (arr.toList.take (Aj.length*i.size)++Jz.flatten.map DV.Aq++arr.toList.drop (Aj.length*i.size+(Jz.flatten.map DV.Aq).length)).toArray=w1 at B8
             have hheapb:w1.heap[b]? =some (.cells (arr.toList.take (Aj.length*i.size)++Jz.flatten.map DV.Aq++arr.toList.drop (Aj.length*i.size+(Jz.flatten.map DV.Aq).length)).toArray E (0,0)):=by rw[← xN];exact setRow_heap w b arr _ E _ hb
             have UQ:∀x,x≠b->w1.heap[x]? =w.heap[x]? :=λx hx=>by rw[← xN];exact setRow_other w b x _ hx
             have v8:Ff b:=(hF b).2 (.inl rfl)
             have hFc:∀x,Fc x->Ff x:=λx hx=>(hF x).2 (.inr hx)
             have hnb:∀x,Fc x∨Fy x->x≠b:=by
              rintro x (h1|h1) rfl
              . exact Jb h1
              . exact hdy x (.inr v8) h1
             have wH:=Hm Fc hFc oT
             have bD:Ok w1 S1 (.own (I7 false b (Aj++Jz).length cc) false i.size (Aj++Jz)) (λx=>x=b∨(Fc x∨Fy x)):=by
              refine iE hheapb hkk ?_ hS (wH.mono (λx hx=>UQ x (by rintro rfl;exact hS hx)) (λx hx=>UQ x (hnb x hx)) (λ_ h=>h) (Be.2 wH).EZ) (λhx=>hnb b hx rfl) ?_
              . simp only[AAW,AAe,ABi,AA1,List.length_take,List.length_drop,Array.length_toList]
                refine⟨?_,by simpa using oN⟩
                rw[De.1];omega
              . intro n d hn
                rw[List.flatten_append]at hn
                have hxl':Aj.flatten.length=Aj.length*i.size:=DF hxk
                rw[List.getElem?_toArray]
                have D5:n<(Aj.flatten++Jz.flatten).length:=(AAQ.1 hn).1
                have htl:(arr.toList.take (Aj.length*i.size)).length=Aj.flatten.length:=by
                 have e0:arr.toList.length=arr.size:=Array.length_toList
                 rw[hxl',List.length_take]
                 exact Nat.min_eq_left (by omega)
                rw[AAr (by rw[AA1,htl,AAo];simpa using D5)]
                by_cases EO:n<Aj.flatten.length
                . rw[AAr (by omega)]at hn ⊢
                  rw[ABK,AAY (by omega)]
                  have:=Pm n d hn
                  simpa using this
                . rw[AAt (by omega)]at hn ⊢
                  rw[htl,AAZ,hn];rfl
             refine JZ (D:=.own (I7 false b (Aj++Jz).length cc) false i.size (Aj++Jz)) (S1:=S1) (S':=S1) Jf ha2 hd (by simpa[I7]using T0 _ _ (by rw[hv];simpa[I7]using B8)) (λx hx=>UQ x (by rintro rfl;exact hS hx))
              (λs x hx=>UQ x (by rintro rfl;exact LW s x hx v8)) (λ_ h=>h) (λs x hx=>(Jf.ok s).EZ x hx) bD ?_ (.own _ _ _ _) (by rw[EE,lB];exact he) ?_
             . rintro s x hx (rfl|h1|h1)
               . exact LW s x hx v8
               . exact LW s x hx (hFc x h1)
               . exact hdy x (.inl ⟨s,hx⟩) h1
             . refine hU.trans ⟨by rw[← xN];rfl,by rw[← xN];rfl,by rw[← xN];rfl,by rw[← xN];simp[World.setRow],?_,λ_ h=>h,λ_ h=>.inl h,λhl q hq=>by have:=hl q hq;rw[← xN];simpa[World.setRow]using this,?_⟩
               . intro x _ hUx
                 refine UQ x ?_
                 rintro rfl
                 exact hUx (.inl (Jk x (.inr v8)))
               . rintro x (hx|rfl|h1|h1)
                 . exact .inl (.inl (Jk x (.inl hx)))
                 . exact .inl (.inl (Jk x (.inr v8)))
                 . exact .inl (.inl (Jk x (.inr (hFc x h1))))
                 . exact .inl (.inr h1)
           . exact grow _ _ cc (by rw[hv];rfl) rfl (by omega)
       . cases hn
     . cases he
   . -- a frozen slice without room
     rename_i e0 k0 rows τ' hX
     rcases Ed.UJ hx hX with⟨_,hn,_⟩|⟨KT,hn,hτ,TK,Mk⟩
     . cases hn
     . simp only[AV.sl.injEq]at hn
       obtain⟨rfl,rfl,rfl⟩:=hn
       subst hτ
       rw[hav]at Mk
       have QB:Rd δ1 a:=λs=>(ha s).trans (JR s).symm
       obtain⟨ad,cap,hv⟩:=OQ Mk
       have hcapeq:cap=rows.length:=by
        rw[hv]at Mk
        cases Mk with
        |nil _ _ _ _ hx=>exact hx rfl
        |sl _ _ _ _ _ _ _ hx=>exact hx rfl
       subst hcapeq
       split at he
       . -- nothing to append
         have hy0:Jz=[]:=ABm (by rw[xO];rfl)
         subst hy0
         have B8:=Sk (P:=P) (w:=w) (ty:=o.type) hu hi (base:=ad) (n:=rows.length) (c:=rows.length) (AAy _) (by simpa using hyr)
         refine JZ (D:=.lf (.sl true i.size rows) (.slice ad rows.length rows.length)) (Ff:=λ_=>False) (S1:=S1) (S':=S1) Ed QB hd (by simpa using T0 _ _ (by rw[hv];exact B8)) (λ_ _=>rfl) (λ_ _ _=>rfl) (λ_ h=>h) (λs x hx=>(Ed.ok s).EZ x hx) (.lf _ _ _ (by rw[← hv];exact Mk) (λ_ h=>h)) (λ_ _ _ h=>h) (.lf _ _ trivial) (by rw[Ea];exact he) ?_
         exact oR.trans (Nx.less λx hx=>.inl (hx.elim id False.elim))
       . rename_i y0 ys0
         split at he
         . rename_i OX
           simp only[Al,AAf]at OX
           obtain⟨Aj,h1,h2,h3,h4,h5⟩:=Qa Mk
           rw[TS TK]at h1
           have hyl1:Jz.length=(y0::ys0).length:=xO
           rw[← h5,← hyl1]at OX
           have h63:Aj.length+Jz.length≤9223372036854775807:=by
            have:=Nat.le_mul_of_pos_right (Aj.length+Jz.length) rZ
            omega
           have hxl:(Aj.flatten.map DV.Aq).length=Aj.length*i.size:=by rw[AAo,DF h2]
           have hyl:(Jz.flatten.map DV.Aq).length=Jz.length*i.size:=by rw[AAo,DF hyk]
           rw[hv,← h5]at h4
           have D5:Aj.length<Aj.length+Jz.length:=by rw[hyl1];simp
           have B8:=Sj (P:=P) (ty:=o.type) hu hi hz h4 hxl hyr hyl D5 OX h63
           have l8:=grownCap_ge w (Aj.length+Jz.length) Aj.length e
           obtain⟨W1,wC⟩:∃W1,W1=w.drew.alloc (.cells ((Aj.flatten.map DV.Aq++Jz.flatten.map DV.Aq).toArray++Builtin.zeroCells z.cells (grownCap w (Aj.length+Jz.length) Aj.length e-(Aj.length+Jz.length))) e):=⟨_,rfl⟩
           rw[← wC]at B8
           have lB:(Aj++Jz).map (·.map DV.er)=rows++y0::ys0:=by rw[AA9,h1,hysm]
           refine Wz (w':=W1) (Fr:=Fr) (U1:=λx=>A2 F1 x∨Fy x) (rows:=Aj++Jz) (Fd:=λx=>False∨Fy x) (arr:=(Aj.flatten.map DV.Aq++Jz.flatten.map DV.Aq).toArray++Builtin.zeroCells z.cells (grownCap w (Aj.length+Jz.length) Aj.length e-(Aj.length+Jz.length))) (E:=e) Ed hSlt1 QB hd
            (by rw[AA1];exact T0 _ _ (by rw[hv,← h5];exact B8)) (by rw[wC];rfl) (by rw[wC];rfl) (by rw[wC];rfl) (by rw[wC];rfl) (by rw[List.flatten_append];exact Kw h3 hyok (λ_ h=>h.elim)) ?_ ?_ ⟨Vs hzk hxl hyl l8,by simpa using l8⟩ ?_ (by rw[lB];exact he) ?_ oR
           . rintro s x hx (h1|h1)
             . exact h1
             . exact hydis s x hx h1
           . intro r hr
             rcases AAj.1 hr with h1|h1
             . exact h2 r h1
             . exact hyk r h1
           . intro n d hn
             rw[List.flatten_append]at hn
             have D5:n<(Aj.flatten++Jz.flatten).length:=(AAQ.1 hn).1
             rw[Array.getElem?_append_left (by rw[ABi,AA1,AAo,AAo,← AA1];exact D5),List.getElem?_toArray,← AA9,AAZ,hn]
             rfl
           . rintro x (hx|h1|h1)
             . exact .inl hx
             . exact h1.elim
             . exact .inr h1
         . cases he
   . cases he
 . cases he
end Go.Abs
namespace Go.Abs
variable {w w':World} {S S':Nat->Prop} {G:Gi} {δ:Nat->DV} {Fr:Nat->Nat->Prop} {P:Program}
def placeOf (P:Program) (t:TypeId):Nat->ABp (Nat×Nat):=λi=>match P.underlying t with
 |some (.struct fs)=>match fs[i]? with
  |some f=>match Fu P f.type with
   |some n=>some (f.offset,n)
   |none=>none
  |none=>none
 |some (.array _ e)=>match Fu P e with
  |some k=>some (i*k,k)
  |none=>none
 |_=>none
def Za (P:Program) (t:TypeId):Bool:=match P.underlying t with
 |some (.struct fs)=>fs.toList.all λf=>(Fu P f.type).isSome
 |some (.array _ e)=>(Fu P e).isSome
 |_=>false
def ZU (zc:Array Value) (n:Nat):List Value:=((Array.range n).map (zc[· %zc.size]!)).toList
def I5 (P:Program):Op->XJ->Bool
 | .move x,.cp y=>Bt x y
 | .assign x,.mv y=>Bt x y
 | .assign x,.cp y=>Bt x y
 | .pick c a b,.pick c' a' b'=>Bt c c'&&Bt a a'&&Bt b b'
 | .alloc t,.bx n (.c z)=>Fu P t==some n&&(match(P.info? t).bind (·.zero),IU z with|some v,some D=>lT v D.Aq|_,_=>false)
 | .box t x,.bx n y=>Fu P t==some n&&Bt x y
 | .build t parts,.RD z ps=>(match(P.info? t).bind (·.zero),Vm z with
  |some v,some zd=>Sn v.cells.toList (zd.map DV.Aq)&&z.all Ex&&Za P t&&K2 (placeOf P t) parts.toList ps
  |_,_=>false)
 | .buildSlice t len parts,.Mr k z ps=>(match P.underlying t with
  |some (.slice e)=>Fu P e==some k&&decide (len*k≤16777216)&&(match(P.info? e).bind (·.zero),nR z with
   |some v,some zd=>Sn (ZU (if len*k=0 then #[]else v.cells) (len*k)) (zd.flatten.map DV.Aq)&&z.length==len&&z.all (·.length==k)&&Ms k parts.toList ps
   |_,_=>false)
  |_=>false)
 | .load t a,.ld g n b=>Fu P t==some n&&I1 P t==some g&&(g||n==1)&&Bt a b
 | .store t a x,.st n b y=>Fu P t==some n&&Bt a b&&Bt x y
 | .fieldAddr t x f,.Tu off y=>(match P.underlying t with
  |some (.struct fs)=>match fs[f]? with
   |some fd=>fd.offset==off&&(match Fu P fd.type with|some n=>n != 0|none=>false)
   |none=>false
  |_=>false)&&Bt x y
 | .indexAddr t x i,.VA k y j=>(match P.underlying t with|some (.slice e)=>Fu P e==some k|_=>false)&&Bt x y&&Bt i j
 | .indexAddr t x i,.aad len k y j=>(match P.underlying t with|some (.array n e)=>n==len&&Fu P e==some k|_=>false)&&Bt x y&&Bt i j
 | .makeSlice t x y,.mk k bytes z x' y'=>(match P.underlying t with
  |some (.slice e)=>match P.info? e with
   |some i=>i.size==k&&i.bytes==bytes&&decide (0<bytes)&&decide (0<k)&&z.length==k&&(match i.zero,Vm z with|some v,some zd=>Sn v.cells.toList (zd.map DV.Aq)|_,_=>false)
   |none=>false
  |_=>false)&&Bt x x'&&Bt y y'
 | .field t x f,.fld agg off n y=>(match P.underlying t with
  |some (.struct fs)=>match fs[f]? with
   |some fd=>fd.offset==off&&Fu P fd.type==some n&&I1 P fd.type==some agg&&(agg||n==1)
   |none=>false
  |_=>false)&&Bt x y
 | .index t x i,.idx agg len k y j=>(match P.underlying t with|some (.array n e)=>n==len&&Fu P e==some k&&I1 P e==some agg&&(agg||k==1)|_=>false)&&Bt x y&&Bt i j
 | .index t x i,.X4 y j=>(match P.underlying t with|some .string=>true|_=>false)&&Bt x y&&Bt i j
 | .binOp op _ x y _,.bin op' x' y'=>decide (op=op')&&Bt x x'&&Bt y y'
 | .binOp op t x y _,.beq neg x' y'=>decide (op=if neg=true then .neq else .eql)&&(match P.underlying t with|some .bool=>true|_=>false)&&Bt x x'&&Bt y y'
 | .binOp op t x y _,.Up neg kd x' y'=>decide (op=if neg=true then .neq else .eql)&&fO P t kd&&Bt x x'&&Bt y y'
 | .load t a,.WM b=>Fu P t==some 1&&I1 P t==some false&&Bt a b
 | .store t a x,.VG b y=>Fu P t==some 1&&Bt a b&&Bt x y
 | .nilCheck x,.JT y=>Bt x y
 | .makeFunc (.func f) first Y3,.yI f' ys=>f==f'&&first.isEmpty&&F8 Y3.toList ys
 | .unOp op _ x,.un op' y=>decide (op=op')&&Bt x y
 | .convert s d x,.cvt k y=>(match P.underlying s,P.underlying d with|some (.int _),some (.int k')=>decide (k=k')|_,_=>false)&&Bt x y
 | .call c,.len y=>(match c.callee,c.args.toList,c.argTypes.toList with
  | .builtin .len,[x],[t]=>(match P.underlying t with|some (.slice _)=>true|_=>false)&&Bt x y
  |_,_,_=>false)
 | .call c,.Te y=>(match c.callee,c.args.toList,c.argTypes.toList with
  | .builtin .len,[x],[t]=>(match P.underlying t with|some .string=>true|_=>false)&&Bt x y
  |_,_,_=>false)
 | .call c,.mm mx x y=>(match c.callee,c.args.toList with
  | .builtin b,[u,v]=>(match b,mx with| .max,true=>true| .min,false=>true|_,_=>false)&&Bt u x&&Bt v y
  |_,_=>false)
 | .call c,.app k bytes x y=>(match c.callee,c.args.toList,c.argTypes.toList with
  | .builtin .append,[u,v],[t,t']=>t==t'&&(match P.underlying t with
   |some (.slice e)=>match P.info? e with
    |some i=>i.size==k&&i.bytes==bytes&&decide (0<bytes)&&(match i.zero with|some z=>z.cells.size==k|none=>false)
    |none=>false
   |_=>false)&&Bt u x&&Bt v y
  |_,_,_=>false)
 | .slice t x lo hi mx,.sF k fr y lo' hi' bX=>(match P.underlying t with|some (.slice e)=>Fu P e==some k|_=>false)&&(mx.isNone||hi.isSome)&&Bt x y&&QV lo lo'&&QV hi hi'&&QV mx bX
 | .extract x i,.ext y j=>decide (i=j)&&Bt x y
 |_,.bad=>true
 |_,_=>false
theorem arr2 {α:Type} {a:Array α} {x y:α} (h:a.toList=[x,y]):a= #[x,y]:=by apply ABT;simpa using h
theorem zF {α β:Type} (l:List α) (f:α->Sem β) (g:α->β) (h:∀a∈l,(f a).run P w= .ok (g a) w):(l.mapM f).run P w= .ok (l.map g) w:=by
 induction l with
 |nil=>simp
 |cons a l ih=>
  have h1:=h a (by simp)
  have h2:=ih (λb hb=>h b (by simp[hb]))
  simp[List.mapM_cons,h1,h2]
theorem run_build {t:TypeId} {v:Value} {parts:Array (Nat×Value)} {i:TypeInfo} (hi:P.info? t=some i) (hz:i.zero=some v) (hs:Za P t=true) (cells:Array Value) (hf:Instr.fill (placeOf P t) v.cells parts.toList=some cells):
 (Instr.build t parts).run P w= .ok (.agg cells) w:=by
 unfold Za at hs
 split at hs
 . rename_i fs hu
   have hm:(fs.mapM (m:=Sem) λ(f:Field)=>Prod.mk f.offset <$> sizeOf f.type).run P w= .ok (fs.map λf=>(f.offset,(Fu P f.type).getD 0)) w:=by
    rw[Array.mapM_eq_mapM_toList]
    have:=zF (P:=P) (w:=w) fs.toList (λ(f:Field)=>(Prod.mk f.offset <$> sizeOf f.type:Sem (Nat×Nat))) (λf=>(f.offset,(Fu P f.type).getD 0)) (by
     intro f hf'
     rw[AAU]at hs
     have:=hs f hf'
     obtain⟨n,hn⟩:=Option.isSome_iff_exists.1 this
     simp[run_sizeOf hn,hn])
    simp only[Sem.run_map,this,Result.andThen_ok]
    congr 1
    apply ABT
    simp
   have hp:(λi=>Option.map (λ(f:Field)=>(f.offset,(Fu P f.type).getD 0)) fs[i]?)=placeOf P t:=by
    funext i
    simp only[placeOf,hu]
    cases hf':fs[i]? with
    |none=>rfl
    |some f=>
     rw[AAU]at hs
     have:=hs f (by rw[Array.mem_toList_iff];exact Array.mem_of_getElem? hf')
     obtain⟨n,hn⟩:=Option.isSome_iff_exists.1 this
     simp[hn]
   simp only[Instr.build,zeroValue,typeInfo,Sem.run_bind,run_underlying hu]
   simp[program,Sem.run,hi,hz,hm]
   rw[hp,hf]
   simp
 . rename_i n e hu
   obtain⟨k,hk⟩:=Option.isSome_iff_exists.1 hs
   have hp:(λi=>some (i*k,k))=placeOf P t:=by funext i;simp[placeOf,hu,hk]
   simp only[Instr.build,zeroValue,typeInfo,Sem.run_bind,run_underlying hu]
   simp[program,Sem.run,hi,hz,run_sizeOf hk]
   rw[hp,hf]
   simp
 . cases hs
theorem Wx {t e:TypeId} {v:Value} {len k:Nat} {parts:Array (Nat×Value)} {i:TypeInfo} (hu:P.underlying t=some (.slice e)) (hk:Fu P e=some k) (hle:len*k≤16777216) (hi:P.info? e=some i) (hz:i.zero=some v) (cells:Array Value)
 (hf:Instr.fill (λi=>some (i*k,k)) (ZU (if len*k=0 then #[]else v.cells) (len*k)).toArray parts.toList=some cells):
 (Instr.buildSlice t len parts).run P w= .ok (.slice (some ⟨w.heap.size,0,none⟩) len len) (w.alloc (.cells cells e)):=by
 have h24:¬(16777216<len*k):=by omega
 simp only[ZU,Array.toArray_toList]at hf
 by_cases h0:len*k=0
 . simp only[h0,AAs]at hf
   simp[Instr.buildSlice,run_underlying hu,run_sizeOf hk,h0]
   simp at hf
   rw[hf]
   simp[newRow]
 . simp only[h0,AAe]at hf
   simp[Instr.buildSlice,run_underlying hu,run_sizeOf hk,h0,h24,zeroValue,typeInfo,hi,hz]
   rw[hf]
   simp[newRow]
theorem TR {α:Type} [BEq α] [LawfulBEq α] {a:ABp α} {b:α} (h:(a==some b)=true):a=some b:=by simpa using h
theorem yX (h:St G w S δ Fr) (CN:∀b,S b->b<w.heap.size) {a:Act} (ha:Rd δ a) {o:Oper} {io:XJ} {d:ABp Dg} (hd:Ik G a o d) (hc:I5 P o.op io=true) {σ':Sg} (he:Fk G io d (λs=>(δ s).er)=some σ'):Ph P G w S Fr a o σ':=by
 have val:∀{v:AV},(∀{d},Fk G io (some d) (λs=>(δ s).er)=(match valOf io (λs=>(δ s).er)with|some v=>wr d v (λs=>(δ s).er)|none=>none))->(Fk G io none (λs=>(δ s).er)=none)->
  (∀v,valOf io (λs=>(δ s).er)=some v->Gives P w S δ a o v)->Ph P G w S Fr a o σ':=by
  intro _ h1 h2 h3
  cases d with
  |none=>rw[h2]at he;cases he
  |some d=>
   rw[h1]at he
   split at he
   . rename_i v hv;exact X3 h ha hd (h3 v hv) he
   . cases he
 have KW:∀{io:XJ},(Fk G io none (λs=>(δ s).er)=none)->Fk G io d (λs=>(δ s).er)=some σ'->∃d',d=some d':=by
  intro io h1 h2
  cases d with
  |none=>rw[h1]at h2;cases h2
  |some d=>exact⟨d,rfl⟩
 unfold I5 at hc
 split at hc
 . rename_i x y ho;exact val (v:=.dead) rfl rfl λv hv=>Re h ha (.inl ho) hc hv
 . rename_i x y ho
   obtain⟨d',rfl⟩:=KW rfl he
   exact runs_mv h ha hd ho hc he
 . rename_i x y ho;exact val (v:=.dead) rfl rfl λv hv=>Re h ha (.inr ho) hc hv
 . rename_i c x y c' x' y' ho
   simp only[AAP]at hc
   exact val (v:=.dead) rfl rfl λv hv=>gF h ha ho hc.1.1 hc.1.2 hc.2 hv
 . rename_i t n z ho
   simp only[AAP]at hc
   obtain⟨h1,h2⟩:=hc
   split at h2
   . rename_i v D hv hD
     obtain⟨i,hi,hz⟩:=Option.bind_eq_some_iff.1 hv
     obtain⟨d',rfl⟩:=KW rfl he
     refine lQ (t:=t) (y:=.c z) h CN ha hd ⟨D,hD⟩ ?_ he
     have:=qI (P:=P) t i v hi hz w
     simp only[execOp,ho,Sem.run_bind,this,Result.andThen_ok,Sem.run_pure,CQ,hD,cT h2]
   . cases h2
 . rename_i t x n y ho
   simp only[AAP]at hc
   obtain⟨hy,Ku⟩:=Ah hc.2 ha
   obtain⟨d',rfl⟩:=KW rfl he
   refine lQ (t:=t) h CN ha hd hy ?_ he
   simp only[execOp,ho,Sem.run_bind,lP,Result.andThen_ok,Sem.run_pure,Ku]
 . rename_i t parts z ps ho
   split at hc
   . rename_i v zd hv hz
     simp only[AAP]at hc
     obtain⟨⟨⟨h1,h2⟩,h3⟩,h4⟩:=hc
     obtain⟨i,hi,hz0⟩:=Option.bind_eq_some_iff.1 hv
     obtain⟨d',rfl⟩:=KW rfl he
     refine zH h ha hd ho hz h2 h4 (λcells hf=> ?_) he
     refine run_build hi hz0 h3 cells ?_
     have:=O8 h1
     have e:v.cells=(zd.map DV.Aq).toArray:=by apply ABT;simpa using this
     rw[e]
     simpa using hf
   . cases hc
 . rename_i t len parts k z ps ho
   split at hc
   . rename_i e hu
     simp only[AAP,AAf]at hc
     obtain⟨⟨h1,h2⟩,h3⟩:=hc
     split at h3
     . rename_i v zd hv hz
       simp only[AAP,AAd]at h3
       obtain⟨⟨⟨g1,g2⟩,g3⟩,g4⟩:=h3
       obtain⟨i,hi,hz0⟩:=Option.bind_eq_some_iff.1 hv
       obtain⟨d',rfl⟩:=KW rfl he
       refine zI (e:=e) h CN ha hd ho hz (λr hr=>by rw[AAU]at g3;simpa using g3 r hr) g2 g4 (λcells hf=> ?_) he
       refine Wx hu (TR h1) h2 hi hz0 cells ?_
       rw[O8 g1]
       simpa using hf
     . cases h3
   . cases hc
 . rename_i t x g n y ho
   simp only[AAP,AAx,AAd]at hc
   exact val (v:=.dead) rfl rfl λv hv=>Rf h ha ho hc.1.1.1 hc.1.1.2 hc.1.2 hc.2 hv
 . rename_i t x u n y z ho
   simp only[AAP,AAd]at hc
   cases d with
   |some d=>simp[Fk,valOf]at he
   |none=>exact lR h ha hd ho hc.1.1 hc.1.2 hc.2 he
 . rename_i t x f off y ho
   simp only[AAP]at hc
   obtain⟨h1,h2⟩:=hc
   split at h1
   . rename_i fs hu
     split at h1
     . rename_i fd hf
       simp only[AAP,AAd]at h1
       obtain⟨g1,g2⟩:=h1
       split at g2
       . rename_i n hn
         simp only[bne_iff_ne]at g2
         exact val (v:=.dead) rfl rfl λv hv=>YQ h ha ho hu hf g1 hn g2 h2 hv
       . cases g2
     . cases h1
   . cases h1
 . rename_i t x i k y j ho
   simp only[AAP]at hc
   obtain⟨⟨h1,h2⟩,h3⟩:=hc
   split at h1
   . rename_i e hu
     exact val (v:=.dead) rfl rfl λv hv=>YR h ha ho hu (TR h1) h2 h3 hv
   . cases h1
 . rename_i t x i len k y j ho
   simp only[AAP]at hc
   obtain⟨⟨h1,h2⟩,h3⟩:=hc
   split at h1
   . rename_i n e hu
     simp only[AAP,AAd]at h1
     obtain⟨rfl,g2⟩:=h1
     exact val (v:=.dead) rfl rfl λv hv=>oB h ha ho hu g2 h2 h3 hv
   . cases h1
 . rename_i t x y k bytes z x' y' ho
   simp only[AAP]at hc
   obtain⟨⟨h1,h2⟩,h3⟩:=hc
   split at h1
   . rename_i e hu
     split at h1
     . rename_i i hi
       simp only[AAP,AAd,AAf]at h1
       obtain⟨⟨⟨⟨⟨g1,g2⟩,g3⟩,g4⟩,g5⟩,g6⟩:=h1
       split at g6
       . rename_i v zd hv hz
         obtain⟨d',rfl⟩:=KW rfl he
         exact runs_mk h CN ha hd ho hu hi hv g1 g2 g3 g4 hz (O8 g6) g5 h2 h3 he
       . cases g6
     . cases h1
   . cases h1
 . rename_i t x f agg off n y ho
   simp only[AAP]at hc
   obtain⟨h1,h2⟩:=hc
   split at h1
   . rename_i fs hu
     split at h1
     . rename_i fd hf
       simp only[AAP,AAd,AAx]at h1
       obtain⟨⟨⟨g1,g2⟩,g3⟩,g4⟩:=h1
       exact val (v:=.dead) rfl rfl λv hv=>oH h ha ho hu hf g1 g2 g3 g4 h2 hv
     . cases h1
   . cases h1
 . rename_i t x i agg len k y j ho
   simp only[AAP]at hc
   obtain⟨⟨h1,h2⟩,h3⟩:=hc
   split at h1
   . rename_i n e hu
     simp only[AAP,AAd,AAx]at h1
     obtain⟨⟨⟨rfl,g2⟩,g3⟩,g4⟩:=h1
     exact val (v:=.dead) rfl rfl λv hv=>oI h ha ho hu g2 g3 g4 h2 h3 hv
   . cases h1
 . rename_i t x i y j ho
   simp only[AAP]at hc
   obtain⟨⟨h1,h2⟩,h3⟩:=hc
   split at h1
   . rename_i hu
     exact val (v:=.dead) rfl rfl λv hv=>gH h ha ho hu h2 h3 hv
   . cases h1
 . rename_i op t x y u op' x' y' ho
   simp only[AAP,AAf]at hc
   obtain⟨⟨rfl,h2⟩,h3⟩:=hc
   exact val (v:=.dead) rfl rfl λv hv=>oE h ha ho h2 h3 hv
 . rename_i op t x y u neg x' y' ho
   simp only[AAP,AAf]at hc
   obtain⟨⟨⟨h1,h2⟩,h3⟩,h4⟩:=hc
   split at h2
   . rename_i hu
     exact val (v:=.dead) rfl rfl λv hv=>oC h ha ho h1 hu h3 h4 hv
   . cases h2
 . rename_i op t x y u neg kd x' y' ho
   simp only[AAP,AAf]at hc
   obtain⟨⟨⟨h1,h2⟩,h3⟩,h4⟩:=hc
   exact val (v:=.dead) rfl rfl λv hv=>gG h ha ho h1 h2 h3 h4 hv
 . rename_i t x y ho
   simp only[AAP,AAd]at hc
   exact val (v:=.dead) rfl rfl λv hv=>Rf h ha ho hc.1.1 hc.1.2 (.inr rfl) hc.2 (x9 hv)
 . rename_i t x u y z ho
   simp only[AAP,AAd]at hc
   cases d with
   |some d=>simp[Fk,valOf]at he
   |none=>exact lR h ha hd ho hc.1.1 hc.1.2 hc.2 (sts_st he)
 . rename_i x y ho;exact val (v:=.dead) rfl rfl λv hv=>gE h ha ho hc hv
 . rename_i f first Y3 f' ys ho
   simp only[AAP,AAd]at hc
   obtain⟨⟨rfl,h1⟩,h2⟩:=hc
   exact val (v:=.dead) rfl rfl λv hv=>YS h ha ho (by simpa using h1) h2 hv
 . rename_i op t x op' y ho
   simp only[AAP,AAf]at hc
   obtain⟨rfl,h2⟩:=hc
   exact val (v:=.dead) rfl rfl λv hv=>vV h ha ho h2 hv
 . rename_i s t x k y ho
   simp only[AAP]at hc
   obtain⟨h1,h2⟩:=hc
   split at h1
   . rename_i k0 k' hs ht
     simp only[AAf]at h1
     subst h1
     exact val (v:=.dead) rfl rfl λv hv=>oF h ha ho hs ht h2 hv
   . cases h1
 . rename_i c y ho
   split at hc
   . rename_i x t g1 g2 g3
     simp only[AAP]at hc
     obtain⟨h1,h2⟩:=hc
     split at h1
     . rename_i e hu
       exact val (v:=.dead) rfl rfl λv hv=>oJ h ha ho g1 g2 g3 ⟨e,hu⟩ h2 hv
     . cases h1
   . cases hc
 . rename_i c y ho
   split at hc
   . rename_i x t g1 g2 g3
     simp only[AAP]at hc
     obtain⟨h1,h2⟩:=hc
     split at h1
     . rename_i hu
       exact val (v:=.dead) rfl rfl λv hv=>gJ h ha ho g1 g2 g3 hu h2 hv
     . cases h1
   . cases hc
 . rename_i c mx x y ho
   split at hc
   . rename_i b u v Kp FK
     simp only[AAP]at hc
     obtain⟨⟨h1,h2⟩,h3⟩:=hc
     have hb:b=(if mx=true then .max else .min):=by
      split at h1
      . rfl
      . rfl
      . cases h1
     exact val (v:=.dead) rfl rfl λv hv=>vU h ha ho (by rw[Kp,hb]) FK h2 h3 hv
   . cases hc
 . rename_i c k bytes x y ho
   split at hc
   . rename_i u v t t' g1 g2 g3
     simp only[AAP,AAd]at hc
     obtain⟨⟨⟨rfl,h1⟩,h2⟩,h3⟩:=hc
     split at h1
     . rename_i e hu
       split at h1
       . rename_i i hi
         simp only[AAP,AAd,AAf]at h1
         obtain⟨⟨⟨k1,k2⟩,k3⟩,k4⟩:=h1
         split at k4
         . rename_i z hz
           simp only[AAd]at k4
           obtain⟨d',rfl⟩:=KW rfl he
           exact zG h CN ha hd ho g1 (arr2 g2) (arr2 g3) hu hi k1 k2 k3 hz k4 h2 h3 he
         . cases k4
       . cases h1
     . cases h1
   . cases hc
 . rename_i t x lo hi mx k fr y lo' hi' bX ho
   simp only[AAP,AAx,ABC]at hc
   obtain⟨⟨⟨⟨⟨h1,h2⟩,h3⟩,h4⟩,h5⟩,h6⟩:=hc
   split at h1
   . rename_i e hu
     obtain⟨d',rfl⟩:=KW rfl he
     cases fr with
     |true=>exact cQ h ha hd ho hu (TR h1) h3 h4 h5 h6 (h2.imp id (by intro q hq;simp[hq]at q)) he
     |false=>exact qJ h ha hd ho hu (TR h1) h3 h4 h5 h6 (h2.imp id (by intro q hq;simp[hq]at q)) he
   . cases h1
 . rename_i x i y j ho
   simp only[AAP,AAf]at hc
   obtain⟨rfl,h2⟩:=hc
   exact val (v:=.dead) rfl rfl λv hv=>oG h ha ho h2 hv
 . cases d<;>simp[Fk,valOf]at he
 . cases hc
end Go.Abs
namespace Go.Abs
variable {w w':World} {S S':Nat->Prop} {G:Gi} {δ:Nat->DV} {Fr:Nat->Nat->Prop} {P:Program}
def Rel (G:Gi) (n:Nat) (w0:World) (S0 U0:Nat->Prop) (a:Act) (w:World) (σ:Sg):Prop:=
 ∃(S:Nat->Prop) (δ:Nat->DV) (F:Nat->Nat->Prop),a.tmps.size=n/\a.defers=[]/\Rd δ a/\(λs=>(δ s).er)=σ/\St G w S δ F/\Nx w0 S0 U0 w S (A2 F)/\(∀b,S b->b<w.heap.size)
def XY (w0:World) (S0 U0:Nat->Prop):Prop:=GI w0 S0/\∀b,S0 b->¬U0 b/\b<w0.heap.size
theorem GI.mono (h:GI w S) (hS:∀b,S b->S' b):GI w S':=λx hx=>⟨hS _ (h x hx).1,(h x hx).2⟩
theorem XY.now {w0:World} {S0 U0 U:Nat->Prop} (hG:XY w0 S0 U0) (EO:Nx w0 S0 U0 w S U):GI w S:=by
 intro x hx
 obtain⟨h1,arr,E,fz,h2,h3⟩:=hG.1 x hx
 obtain⟨h4,h5⟩:=hG.2 _ h1
 exact⟨EO.sub _ h1,arr,E,fz,by rw[EO.block _ h5 h4];exact h2,h3⟩
theorem JC (h:St G w S δ Fr) {d:DV} {F:Nat->Prop} (hd:Ok w S d F) (hF:∀x,F x->A2 Fr x) (F6:C3 δ d) {a:AV} (hr:SK (λs=>(δ s).er) d.er=some a):
 ∃D,D.er=a/\D.Aq=d.Aq/\Ok w (λx=>S x∨A2 Fr x) D (λ_=>False):=by
 have Ob:∀(b:AV) (v:Value),Fz w (λx=>S x∨A2 Fr x) b v->CR b=true->(∀cs,b≠ .fp cs)->(b≠ .un)->∃D:DV,D.er=b/\D.Aq=v/\Ok w (λx=>S x∨A2 Fr x) D (λ_=>False):=by
  intro b v hf hl hfp hun
  refine⟨.lf b v,by simp,by simp,.lf _ _ _ ?_ (λ_ h=>h)⟩
  cases b with
  |sc u=>cases hf with|sc _ hp=>exact⟨rfl,hp⟩
  |sl=>exact hf
  |dead=>trivial
  |cl=>trivial
  |vb=>cases hf
  |fZ=>cases hf
  |al=>trivial
  |KG=>trivial
  |fp cs=>exact absurd rfl (hfp cs)
  |un=>exact absurd rfl hun
  |own=>simp[CR]at hl
  |agg=>simp[CR]at hl
  |BJ=>simp[CR]at hl
 have jZ:∀{D:DV} {F':Nat->Prop} {k:Nat} {row:List AV},Ok w S D F'->(∀x,F' x->A2 Fr x)->D.er= .own true k [row]->∃D',D'.er= .fp (row.map I0)/\D'.Aq=D.Aq/\Ok w (λx=>S x∨A2 Fr x) D' (λ_=>False):=by
  intro D F' k row CH Dh Er
  refine⟨.lf (.fp (row.map I0)) D.Aq,by simp,by simp,.lf _ _ _ ?_ (λ_ h=>h)⟩
  cases CH with
  |lf b v _ ha _=>simp only[Ea]at Er;subst Er;exact ha.elim
  |nil=>simp at Er
  |agg=>simp at Er
  |BJ=>simp at Er
  |own bx k' rows b c arr E Fs _ hb hk De Ko hv XK LJ BP Jb dO=>
   simp only[EE,AV.own.injEq]at Er
   obtain⟨rfl,rfl,DZ⟩:=Er
   refine⟨b,0,by simp[I7],.inr (Dh b ((dO b).2 (.inl rfl))),λj a hj=> ?_⟩
   match rows,DZ with
   |[IH],DZ=>
    simp only[AAg,AA2,ABg,and_true]at DZ
    subst DZ
    simp only[List.map_map,AAZ]at hj
    cases hjd:IH[j]? with
    |none=>simp[hjd]at hj
    |some d=>
     simp only[hjd,AAl,AAN,Function.comp]at hj
     subst hj
     refine⟨d.Aq,?_,?_⟩
     . have:=hv 0 j IH d rfl hjd
       simp only[World.cell?,hb]
       simpa using this
     . exact(XK 0 j IH d rfl hjd).freeze.mono (λ_ _=>rfl) (λx hx=>hx.imp id (λhf=>Dh x ((dO x).2 (.inr ⟨0,j,hf⟩))))
 cases hd with
 |lf b v _ ha dO=>
  simp only[Ea]at hr
  cases b with
  |sc u=>simp only[SK,AAN]at hr;subst hr;obtain⟨rfl,hp⟩:=ha;exact Ob _ _ (.sc _ hp) rfl (by simp) (by simp)
  |sl e k rows=>
   simp only[SK,AAN]at hr
   subst hr
   have hf:Fz w (λx=>S x∨A2 Fr x) (.sl false k rows) v:=by
    have hf':Fz w (λx=>S x∨A2 Fr x) (.sl e k rows) v:=Fz.mono ha (λ_ _=>rfl) (λ_ h=>.inl h)
    cases hf' with
    |nil x k a c hx=>exact .nil _ _ _ _ (by simp)
    |sl x k rows b off c vs hx RE hS hk hc hr=>exact .sl _ _ _ b off c vs (by simp) RE hS hk hc hr
   exact Ob _ _ hf rfl (by simp) (by simp)
  |al r p=>
   simp only[SK]at hr
   split at hr
   . rename_i k rows hn
     simp only[AAN]at hr
     cases F6 with
     |lf _ _ hl=>
      obtain⟨bx,k',rows',hl⟩:=hl
      obtain⟨D,hD,Er⟩:=DT (h.ok r).KQ hn
      rw[hl]at hD
      obtain rfl:=AAR hD
      obtain⟨F',CH,Bb⟩:=(h.ok r).Am hl
      have Mk:=CH.freeze
      rw[Er,hr]at Mk
      subst hr
      simp only[Mz]at Mk ⊢
      exact Ob _ _ (Mk.mono (λ_ _=>rfl) (λx hx=>hx.imp id (λhf=>⟨r,Bb x hf⟩))) rfl (by simp) (by simp)
   . rename_i k row hn
     simp only[AAN]at hr
     cases F6 with
     |lf _ _ hl=>
      obtain⟨bx,k',rows',hl⟩:=hl
      obtain⟨D,hD,Er⟩:=DT (h.ok r).KQ hn
      rw[hl]at hD
      obtain rfl:=AAR hD
      obtain⟨F',CH,Bb⟩:=(h.ok r).Am hl
      subst hr
      obtain⟨D',q1,q2,q3⟩:=jZ CH (λx hx=>⟨r,Bb x hx⟩) Er
      exact⟨D',q1,by simpa using q2,q3⟩
   . cases hr
  |own=>exact ha.elim
  |fp cs=>
   simp only[SK,AAN]at hr
   subst hr
   exact⟨.lf (.fp cs) v,by simp,by simp,.lf _ _ _ (HK.mono (a:=.fp cs) ha (λ_ _=>rfl) (λ_ h=>.inl h)) (λ_ h=>h)⟩
  |_=>simp[SK]at hr
 |nil k _ dO=>
  simp only[EE,AA2,SK,AAN]at hr
  subst hr
  simp only[Mz,AA2]
  exact Ob _ _ (.nil false k none 0 (by simp)) rfl (by simp) (by simp)
 |own bx k rows b c arr E Fs _ hb hk De Ko hv XK LJ BP Jb dO=>
  have CH:=Ok.own bx k rows b c arr E Fs F hb hk De Ko hv XK LJ BP Jb dO
  have Mk:=CH.freeze
  cases bx with
  |true=>
   simp only[EE]at hr
   match rows,hr,CH with
   |[row],hr,CH=>
    simp only[AAg,AA2,SK,AAN]at hr
    subst hr
    exact jZ (k:=k) CH hF (by simp)
   |[],hr,_=>simp[SK]at hr
   |_::_::_,hr,_=>simp[SK]at hr
  |false=>
   simp only[EE,SK,AAN]at hr
   rw[EE,hr]at Mk
   subst hr
   simp only[Mz]at Mk ⊢
   exact Ob _ _ (Mk.mono (λ_ _=>rfl) (λx hx=>hx.imp id (hF x))) rfl (by simp) (by simp)
 |agg=>simp[SK]at hr
 |BJ=>simp[SK]at hr
theorem qC (h:St G w S δ Fr) (ds:List DV):∀{l:List AV},(∀d∈ds,∃F,Ok w S d F/\∀x,F x->A2 Fr x)->(∀d∈ds,C3 δ d)->sE (λs=>(δ s).er) (ds.map DV.er)=some l->
 ∃Ds:List DV,Ds.map DV.er=l/\Ds.map DV.Aq=ds.map DV.Aq/\∀D∈Ds,Ok w (λx=>S x∨A2 Fr x) D (λ_=>False):=by
 induction ds with
 |nil=>intro l _ _ hr;simp only[AA2,sE,AAN]at hr;subst hr;exact⟨[],rfl,rfl,by simp⟩
 |cons d ds ih=>
  intro l CH F6 hr
  simp only[AAg,sE]at hr
  split at hr
  . rename_i x l' h1 h2
    simp only[AAN]at hr
    subst hr
    obtain⟨F,g1,g2⟩:=CH d (by simp)
    obtain⟨D,k1,k2,k3⟩:=JC h g1 g2 (F6 d (by simp)) h1
    obtain⟨Ds,m1,m2,m3⟩:=ih (λe he=>CH e (by simp[he])) (λe he=>F6 e (by simp[he])) h2
    refine⟨D::Ds,by simp[k1,m1],by simp[k2,m2],?_⟩
    intro e he
    simp only[AAp]at he
    rcases he with rfl|he
    . exact k3
    . exact m3 e he
  . cases hr
theorem Yo (h:St G w S δ Fr) {d:DV} {F:Nat->Prop} (hd:Ok w S d F) (hF:∀x,F x->A2 Fr x) (F6:C3 δ d) {a:AV} (hr:cC (λs=>(δ s).er) d.er=some a):
 ∃D,D.er=a/\D.Aq=d.Aq/\Ok w (λx=>S x∨A2 Fr x) D (λ_=>False):=by
 cases QD:d.er with
 |agg cs=>
  obtain⟨ds,rfl⟩:∃ds,d= .agg ds:=by
   have:=hd.KQ
   cases d with
   |agg ds=>exact⟨ds,rfl⟩
   |lf c v=>cases this with|lf _ _ hl=>simp at QD;subst QD;simp[CR]at hl
   |own=>simp at QD
   |BJ=>simp at QD
  simp only[Gz,cC]at hr
  split at hr
  . rename_i l hl
    simp only[AAN]at hr
    subst hr
    cases hd with
    |agg _ Fs _ h1 h2 h3 h4=>
     cases F6 with
     |agg _ F6=>
      obtain⟨Ds,m1,m2,m3⟩:=qC h ds (λe he=>by obtain⟨i,hi⟩:=AAn he;exact⟨Fs i,h1 i e hi,λx hx=>hF x ((h4 x).2 ⟨i,hx⟩)⟩) (λe he=>by obtain⟨i,hi⟩:=AAn he;exact F6 i e hi) hl
      exact⟨.agg Ds,by simp[m1],by simp[m2],Be.2 (B7 m3)⟩
  . cases hr
 |al r p=>rw[QD]at hr;simp only[cC]at hr;rw[← QD]at hr;exact JC h hd hF F6 hr
 |own b k rows=>rw[QD]at hr;simp only[cC]at hr;rw[← QD]at hr;exact JC h hd hF F6 hr
 |sc v=>rw[QD]at hr;simp only[cC]at hr;rw[← QD]at hr;exact JC h hd hF F6 hr
 |sl e k rows=>rw[QD]at hr;simp only[cC]at hr;rw[← QD]at hr;exact JC h hd hF F6 hr
 |fp cs=>rw[QD]at hr;simp only[cC]at hr;rw[← QD]at hr;exact JC h hd hF F6 hr
 |_=>simp[QD,cC]at hr
theorem SJ (h:St G w S δ Fr) {a:Act} (ha:Rd δ a) (ys:List Ar):∀{xs:List Operand} {aZ9:List AV},F8 xs ys=true->JU (λs=>(δ s).er) ys=some aZ9->
 ∃Ds:List DV,Ds.map DV.er=aZ9/\Ds.map DV.Aq=xs.map a.eval/\∀D∈Ds,Ok w (λx=>S x∨A2 Fr x) D (λ_=>False):=by
 induction ys with
 |nil=>
  intro xs aZ9 hc hr
  cases xs with
  |cons=>simp[F8]at hc
  |nil=>simp only[JU,AAN]at hr;subst hr;exact⟨[],rfl,rfl,by simp⟩
 |cons y ys ih=>
  intro xs aZ9 hc hr
  cases xs with
  |nil=>simp[F8]at hc
  |cons x xs=>
   simp only[F8,AAP]at hc
   obtain⟨hy,Ku⟩:=Ah hc.1 ha
   simp only[JU]at hr
   split at hr
   . rename_i b l h1 h2
     simp only[AAN]at hr
     subst hr
     obtain⟨D,k1,k2,k3⟩:∃D,D.er=b/\D.Aq=CQ δ y/\Ok w (λx=>S x∨A2 Fr x) D (λ_=>False):=by
      cases y with
      |t s=>exact Yo h (h.ok s) (λx hx=>⟨s,hx⟩) (h.al s) h1
      |c c=>
       obtain⟨D0,gL⟩:=hy
       obtain⟨e1,e2,e3,_⟩:=Hy (w:=w) (S:=S) (δ:=δ) c D0 gL
       simp only[ar]at h1
       rw[← e1]at h1
       obtain⟨D,k1,k2,k3⟩:=Yo h e2 (λ_ h=>h.elim) e3 h1
       exact⟨D,k1,by rw[k2];simp[CQ,gL],k3⟩
     obtain⟨Ds,m1,m2,m3⟩:=ih hc.2 h2
     refine⟨D::Ds,by simp[k1,m1],by simp[k2,m2,Ku],?_⟩
     intro e he
     simp only[AAp]at he
     rcases he with rfl|he
     . exact k3
     . exact m3 e he
   . cases hr
theorem Qb {d:DV} {F:Nat->Prop} (h:Ok w S d F):∃D,D.er=I0 d.er/\D.Aq=d.Aq/\Ok w (λx=>S x∨F x) D (λ_=>False)/\C3 δ D:=by
 induction h with
 |lf a v F ha hF=>
  have hl:=ha.CR
  cases a with
  |sc u=>exact⟨.lf (.sc u) v,by simp,by simp,.lf _ _ _ ha (λ_ h=>h),.lf _ _ trivial⟩
  |sl e k rows=>exact⟨.lf (.sl e k rows) v,by simp,by simp,.lf _ _ _ (Fz.mono ha (λ_ _=>rfl) (λ_ h=>.inl h)) (λ_ h=>h),.lf _ _ trivial⟩
  |own=>exact ha.elim
  |agg=>exact ha.elim
  |BJ=>exact ha.elim
  |_=>exact⟨.lf .dead v,by simp[I0],by simp,.lf _ _ _ trivial (λ_ h=>h),.lf _ _ trivial⟩
 |nil k F hF=>exact⟨.lf (.sl false k []) (.slice none 0 0),by simp,by simp,.lf _ _ _ (Fz.nil false k none 0 (by simp)) (λ_ h=>h),.lf _ _ trivial⟩
 |own bx k rows b c arr E Fs F hb hk De Ko hv hr hd BP Jb hF ih=>
  have Mk:=(Ok.own bx k rows b c arr E Fs F hb hk De Ko hv hr hd BP Jb hF).freeze
  cases bx with
  |true=>exact⟨.lf .dead (I7 true b rows.length c),by simp,by simp,.lf _ _ _ trivial (λ_ h=>h),.lf _ _ trivial⟩
  |false=>
   simp only[EE,Mz,KA]at Mk ⊢
   exact⟨.lf (.sl false k (List.map (λ(x:List AV)=>List.map I0 x) (List.map (λ(x:List DV)=>List.map DV.er x) rows))) (I7 false b rows.length c),by rw[Ea],by simp,.lf _ _ _ Mk (λ_ h=>h),.lf _ _ trivial⟩
 |agg cs Fs F hr hd BP hF ih=>
  obtain⟨Ds,hl,MV⟩:=Ka cs (λi d D=>D.er=I0 d.er/\D.Aq=d.Aq/\Ok w (λx=>S x∨F x) D (λ_=>False)/\C3 δ D) (by
   intro i d hdi
   obtain⟨D,h1,h2,h3,h4⟩:=ih i d hdi
   exact⟨D,h1,h2,h3.mono (λ_ _=>rfl) (λ_ _=>rfl) (λx hx=>hx.imp id (λh=>(hF x).2 ⟨i,h⟩)) (λ_ h=>h.elim),h4⟩)
  refine⟨.agg Ds,?_,?_,Be.2 (B7 λD hD=> ?_),.agg _ λi D hD=> ?_⟩
  . simp only[Gz,kH,AV.agg.injEq,List.map_map]
    exact map_mk hl MV _ _ (by simp) λi c D hΦ hc=>by simp[hc,hΦ.1]
  . simp only[JN];congr 2
    exact map_mk hl MV _ _ (by simp) λi c D hΦ hc=>by simp[hc,hΦ.2.1]
  . obtain⟨i,hi⟩:=AAn hD;obtain⟨c,_,hΦ⟩:=mem_mk hl MV i D hi;exact hΦ.2.2.1
  . obtain⟨c,_,hΦ⟩:=mem_mk hl MV i D hD;exact hΦ.2.2.2
 |BJ cs Fs F hr hd BP hF ih=>
  obtain⟨Ds,hl,MV⟩:=Ka cs (λi d D=>D.er=I0 d.er/\D.Aq=d.Aq/\Ok w (λx=>S x∨F x) D (λ_=>False)/\C3 δ D) (by
   intro i d hdi
   obtain⟨D,h1,h2,h3,h4⟩:=ih i d hdi
   exact⟨D,h1,h2,h3.mono (λ_ _=>rfl) (λ_ _=>rfl) (λx hx=>hx.imp id (λh=>(hF x).2 ⟨i,h⟩)) (λ_ h=>h.elim),h4⟩)
  refine⟨.BJ Ds,?_,?_,A9.2 (B7 λD hD=> ?_),.BJ _ λi D hD=> ?_⟩
  . simp only[Iz,kJ,AV.BJ.injEq,List.map_map]
    exact map_mk hl MV _ _ (by simp) λi c D hΦ hc=>by simp[hc,hΦ.1]
  . simp only[Km];congr 2
    exact map_mk hl MV _ _ (by simp) λi c D hΦ hc=>by simp[hc,hΦ.2.1]
  . obtain⟨i,hi⟩:=AAn hD;obtain⟨c,_,hΦ⟩:=mem_mk hl MV i D hi;exact hΦ.2.2.1
  . obtain⟨c,_,hΦ⟩:=mem_mk hl MV i D hD;exact hΦ.2.2.2
theorem QY (l:List AV):OP l=l.all fresh:=by
 induction l with
 |nil=>rfl
 |cons a l ih=>simp[OP,ih]
theorem gC (l:List (List AV)):QZ l=l.all (·.all fresh):=by
 induction l with
 |nil=>rfl
 |cons a l ih=>simp[QZ,QY,ih]
@[simp]theorem fresh_sc (v:Value):fresh (.sc v)=true:=by simp[fresh]
@[simp]theorem oA (b:Bool) (k:Nat) (rows:List (List AV)):fresh (.own b k rows)=rows.all (·.all fresh):=by simp[fresh,gC]
@[simp]theorem TE (cs:List AV):fresh (.agg cs)=cs.all fresh:=by simp[fresh,QY]
@[simp]theorem TF (cs:List AV):fresh (.BJ cs)=cs.all fresh:=by simp[fresh,QY]
theorem RY {d:DV} {F:Nat->Prop} (h:Ok w S d F):fresh d.er=true->(∀x,F x->¬S' x)->Ok w S' d F:=by
 induction h with
 |lf a v F ha hF=>
  intro hf hn
  simp only[Ea]at hf
  cases a with
  |sc u=>exact .lf _ _ _ ha hF
  |own=>exact ha.elim
  |agg=>exact ha.elim
  |BJ=>exact ha.elim
  |_=>simp[fresh]at hf
 |nil k F hF=>intro _ _;exact .nil k F hF
 |own bx k rows b c arr E Fs F hb hk De Ko hv hr hd BP Jb hF ih=>
  intro hf hn
  simp only[EE,oA,ABG,AAU]at hf
  refine .own bx k rows b c arr E Fs F hb hk De (hn b ((hF b).2 (.inl rfl))) hv (λi j row d h1 h2=>ih i j row d h1 h2 ?_ ?_) hd BP Jb hF
  . have:=hf row (AAb h1)
    simp only[Function.comp,ABG,AAU]at this
    exact this d (AAb h2)
  . exactλx hx=>hn x ((hF x).2 (.inr ⟨i,j,hx⟩))
 |agg cs Fs F hr hd BP hF ih=>
  intro hf hn
  simp only[Gz,TE,ABG,AAU]at hf
  exact .agg cs Fs F (λi d h1=>ih i d h1 (hf d (AAb h1)) (λx hx=>hn x ((hF x).2 ⟨i,hx⟩))) hd BP hF
 |BJ cs Fs F hr hd BP hF ih=>
  intro hf hn
  simp only[Iz,TF,ABG,AAU]at hf
  exact .BJ cs Fs F (λi d h1=>ih i d h1 (hf d (AAb h1)) (λx hx=>hn x ((hF x).2 ⟨i,hx⟩))) hd BP hF
theorem Vo {a:AV} (h:YO a=true):fresh a=true:=by
 cases a with
 |sc=>simp
 |agg cs=>
  simp only[YO,AAU]at h
  simp only[TE,AAU]
  intro c hc
  have:=h c hc
  cases c<;>simp_all
 |BJ cs=>
  simp only[YO,AAU]at h
  simp only[TF,AAU]
  intro c hc
  have:=h c hc
  cases c<;>simp_all
 |_=>simp[YO]at h
theorem RX {d:DV} {F:Nat->Prop} (h:Ok w S d F):fresh d.er=true->C3 δ d:=by
 induction h with
 |lf a v F ha hF=>
  intro hf
  simp only[Ea]at hf
  refine .lf a v ?_
  cases a<;>simp_all [fresh,Lp]
 |nil=>intro _;exact .own _ _ _ _
 |own=>intro _;exact .own _ _ _ _
 |agg cs Fs F hr hd BP hF ih=>
  intro hf
  simp only[Gz,TE,ABG,AAU]at hf
  exact .agg cs λi d h1=>ih i d h1 (hf d (AAb h1))
 |BJ cs Fs F hr hd BP hF ih=>
  intro hf
  simp only[Iz,TF,ABG,AAU]at hf
  exact .BJ cs λi d h1=>ih i d h1 (hf d (AAb h1))
theorem Vh {d:DV} {F:Nat->Prop} (h:Ok w S d F) (hc:clean d.er=true):C3 δ d:=by
 have leaf:∀{e:DV},X9 e->Jo e.er=true->C3 δ e:=by
  intro e hl hc
  cases hl with
  |lf a v hl=>refine .lf _ _ ?_;simp only[Ea]at hc;cases a<;>simp_all [Jo,Lp]
  |own=>exact .own _ _ _ _
  |agg=>simp[Jo]at hc
  |BJ=>simp[Jo]at hc
 have aggc:∀{cs:List DV},(∀(i:Nat) d,cs[i]? =some d->X9 d)->(cs.map DV.er).all Jo=true->C3 δ (.agg cs):=by
  intro cs hr hc
  refine .agg _ λi e hi=>leaf (hr i e hi) ?_
  rw[AAU]at hc
  exact hc _ (ABP (AAb hi))
 have hl:=h.KQ
 cases hl with
 |lf a v hl=>
  refine leaf (.lf a v hl) ?_
  simp only[Ea]at hc ⊢
  cases a<;>simp_all [clean,Jo,CR]
 |own=>exact .own _ _ _ _
 |agg cs hr=>simp only[Gz,clean]at hc;exact aggc hr hc
 |BJ cs hr=>
  simp only[Iz,clean]at hc
  refine .BJ _ λi e hi=> ?_
  rw[AAU]at hc
  have he:=hc _ (ABP (AAb hi))
  have hle:=hr i e hi
  cases hle with
  |lf a v hl=>refine leaf (.lf a v hl) ?_;simp only[Ea]at he ⊢;cases a<;>simp_all [Jo,CR]
  |own=>exact .own _ _ _ _
  |agg cs hr=>simp only[Gz]at he;exact aggc hr he
  |BJ=>simp[Jo]at he
theorem Sl {a:Act} {o:Oper} {c:Call} {f:Nat} {fn:Func} (ho:o.op= .call c) (hc:c.callee= .value (.func f)) (hf:P.funcs[f]? =some fn) (hb:fn.body.isSome=true) (hn:(fn.name != "runtime.NumGoroutine")=true):
 (execOp a.eval o).run P w= .ok (.enter f (c.args.toList.map a.eval).toArray) w:=by
 have hbn:fn.body.isNone=false:=by cases h:fn.body<;>simp_all
 have hnm:(fn.name== "runtime.NumGoroutine")=false:=by simpa using hn
 have Pm:c.args.map a.eval=(c.args.toList.map a.eval).toArray:=by apply ABT;simp
 simp only[execOp,ho,resolve,hc,Act.eval,Deferred.ofValue,Sem.run_bind,Sem.run_pure,Result.andThen_ok,invoke,callFunc,Pm]
 have hp:(program).run P w= .ok P w:=rfl
 rw[hp]
 simp only[Result.andThen_ok,hf,hnm,hbn,AAW,AAe,Sem.run_pure]
 simp
def JO (P:Program):Op->Nat->List Ar->Nat->Bool
 | .call c,f,args,m=>(match c.callee with
  | .value (.func g)=>f==g&&(match P.funcs[f]? with|some fn=>fn.body.isSome&&fn.name != "runtime.NumGoroutine" |none=>false)&&decide (m<5)&&F8 c.args.toList args
  |_=>false)
 |_,_,_,_=>false
theorem aV {d:DV} {F:Nat->Prop} (h:Ok w S d F):∃D,D.er=rX d.er/\D.Aq=d.Aq/\Ok w (λx=>S x∨F x) D (λ_=>False):=by
 have leaf:∀{e:DV} {F1:Nat->Prop},Ok w S e F1->(∀x,F1 x->F x)->∃D:DV,D.er=fzl e.er/\D.Aq=e.Aq/\Ok w (λx=>S x∨F x) D (λ_=>False):=by
  intro e F1 he Bb
  obtain⟨D,h1,h2,h3,_⟩:=Qb (δ:=λ_=>default) he
  have h3':Ok w (λx=>S x∨F x) D (λ_=>False):=h3.mono (λ_ _=>rfl) (λ_ _=>rfl) (λx hx=>hx.imp id (Bb x)) (λ_ h=>h.elim)
  cases hee:e.er with
  |sl ee k rows=>
   rw[hee]at h1
   simp only[vR]at h1
   refine⟨.lf (.sl false k rows) D.Aq,by simp[fzl],by simpa using h2,.lf _ _ _ ?_ (λ_ h=>h)⟩
   cases h3' with
   |lf a v _ ha _=>
    simp only[Ea]at h1
    subst h1
    simp only[KZ]
    have hf:Fz w (λx=>S x∨F x) (.sl ee k rows) v:=ha
    cases hf with
    |nil x k a c hx=>exact Fz.nil _ _ _ _ (by simp)
    |sl x k rows b off c vs hx RE hS hk hc hr=>exact Fz.sl _ _ _ b off c vs (by simp) RE hS hk hc hr
   |nil=>simp at h1
   |own=>simp at h1
   |agg=>simp at h1
   |BJ=>simp at h1
  |_=>rw[hee]at h1;exact⟨D,by rw[h1];simp only[fzl],h2,h3'⟩
 cases QD:d.er with
 |agg cs=>
  obtain⟨ds,rfl⟩:∃ds,d= .agg ds:=by
   have:=h.KQ
   cases d with
   |agg ds=>exact⟨ds,rfl⟩
   |lf c v=>cases this with|lf _ _ hl=>simp at QD;subst QD;simp[CR]at hl
   |own=>simp at QD
   |BJ=>simp at QD
  simp only[Gz,AV.agg.injEq]at QD
  subst QD
  cases h with
  |agg _ Fs _ h1 h2 h3 h4=>
   obtain⟨Ds,hl,MV⟩:=Ka ds (λi d D=>D.er=fzl d.er/\D.Aq=d.Aq/\Ok w (λx=>S x∨F x) D (λ_=>False)) (λi d hd=>leaf (h1 i d hd) (λx hx=>(h4 x).2 ⟨i,hx⟩))
   refine⟨.agg Ds,?_,?_,Be.2 (B7 λD hD=> ?_)⟩
   . simp only[Gz,rX,AV.agg.injEq,List.map_map]
     exact map_mk hl MV _ _ (by simp) λi c D hΦ hc=>by simp only[AAZ,hc,AAl,Function.comp,hΦ.1]
   . simp only[JN];congr 2
     exact map_mk hl MV _ _ (by simp) λi c D hΦ hc=>by simp[hc,hΦ.2.1]
   . obtain⟨i,hi⟩:=AAn hD;obtain⟨c,_,hΦ⟩:=mem_mk hl MV i D hi;exact hΦ.2.2
 |_=>
  obtain⟨D,h1,h2,h3⟩:=leaf h (λ_ h=>h)
  refine⟨D,?_,h2,h3⟩
  rw[h1]
  simp only[QD,rX]
theorem Zi {a:Act} (ys:List Ar):∀{xs:List Operand} {δ:Nat->DV} {Fr:Nat->Nat->Prop} {aZ9:List AV} {τ:Sg},St G w S δ Fr->Rd δ a->F8 xs ys=true->MG G ys (λs=>(δ s).er)=some (aZ9,τ)->
 ∃(δ':Nat->DV) (F':Nat->Nat->Prop) (Ds:List DV) (Fd:Nat->Prop),St G w S δ' F'/\(λs=>(δ' s).er)=τ/\(∀s,(δ' s).Aq=(δ s).Aq)/\Ds.map DV.er=aZ9/\Ds.map DV.Aq=xs.map a.eval/\(∀D∈Ds,Ok w (λx=>S x∨Fd x) D (λ_=>False))/\
  (∀s x,F' s x->¬Fd x)/\(∀x,A2 F' x∨Fd x->A2 Fr x):=by
 induction ys with
 |nil=>
  intro xs δ Fr aZ9 τ h ha hc ht
  cases xs with
  |cons=>simp[F8]at hc
  |nil=>
   simp only[MG,AAN,AAc]at ht
   obtain⟨rfl,rfl⟩:=ht
   exact⟨δ,Fr,[],λ_=>False,h,rfl,λ_=>rfl,rfl,rfl,by simp,λ_ _ _ h=>h,λx hx=>hx.elim id False.elim⟩
 |cons y ys ih=>
  intro xs δ Fr aZ9 τ h ha hc ht
  cases xs with
  |nil=>simp[F8]at hc
  |cons x xs=>
   simp only[F8,AAP]at hc
   obtain⟨hy,Ku⟩:=Ah hc.1 ha
   simp only[MG]at ht
   split at ht
   . rename_i v τ1 ht1
     split at ht
     . rename_i l τ2 ht2
       simp only[AAN,AAc]at ht
       obtain⟨rfl,rfl⟩:=ht
       obtain⟨δ1,F1,D,Ff,Et,Iw,Er,Qc⟩:=h.tk hy ht1
       subst Iw
       subst Er
       obtain⟨D',k1,k2,k3⟩:=aV Et.ok
       obtain⟨δ2,F2,Ds,Fd,m1,m2,m3,m4,m5,m6,m7,m8⟩:=ih Et.st (λs=>(ha s).trans (Et.Aq s).symm) hc.2 ht2
       refine⟨δ2,F2,D'::Ds,λx=>Ff x∨Fd x,m1,m2,λs=>(m3 s).trans (Et.Aq s),by simp[k1,m4],by simp[k2,m5,Qc,Ku],?_,?_,?_⟩
       . intro e he
         simp only[AAp]at he
         rcases he with rfl|he
         . exact k3.mono (λ_ _=>rfl) (λ_ _=>rfl) (λx hx=>hx.imp id .inl) (λ_ h=>h.elim)
         . exact(m6 e he).mono (λ_ _=>rfl) (λ_ _=>rfl) (λx hx=>hx.imp id .inr) (λ_ h=>h.elim)
       . rintro s x hx (h1|h1)
         . obtain⟨t,ht⟩:=m8 x (.inl ⟨s,hx⟩)
           exact Et.LF t x ht h1
         . exact m7 s x hx h1
       . rintro x (hx|hx|hx)
         . exact Et.own x (.inl (m8 x (.inl hx)))
         . exact Et.own x (.inr hx)
         . exact Et.own x (.inl (m8 x (.inr hx)))
     . cases ht
   . cases ht
theorem Kn {op:Op} {f m:Nat} {args:List Ar} (h:JO P op f args m=true):∃c fn,op= .call c/\c.callee= .value (.func f)/\P.funcs[f]? =some fn/\fn.body.isSome=true/\(fn.name != "runtime.NumGoroutine")=true/\m<5/\F8 c.args.toList args=true:=by
 cases op with
 |call c=>
  simp only[JO]at h
  split at h
  . rename_i g Kp
    simp only[AAP,AAd,AAf]at h
    obtain⟨⟨⟨rfl,gO⟩,hm3⟩,GX⟩:=h
    split at gO
    . rename_i fn hf
      simp only[AAP]at gO
      exact⟨c,fn,rfl,Kp,hf,gO.1,gO.2,hm3,GX⟩
    . cases gO
  . cases h
 |_=>simp[JO]at h
theorem Ky {n:Nat} {w0:World} {S0 U0 S1 S2:Nat->Prop} {a:Act} {o:Oper} {dst:ABp Dg} {δ1:Nat->DV} {F1:Nat->Nat->Prop} {D:DV} {FD:Nat->Prop} {v:AV} {K:Sg->Prop} (Bs:St G w S1 δ1 F1) (hn:a.tmps.size=n) (Dv:a.defers=[]) (ha:Rd δ1 a) (hd:Ik G a o dst) (Er:D.er=v)
 (hw:∀b,b<w.heap.size->w'.heap[b]? =w.heap[b]?) (CN:∀b,S1 b->b<w.heap.size) (LH:∀b,S1 b->S2 b) (hS2:∀b,S2 b->S1 b∨w.heap.size≤b) (wB:∀b,S2 b->b<w'.heap.size) (hD:Ok w' S2 D FD) (hFD:∀x,FD x->w.heap.size≤x) (F6:C3 δ1 D)
 (EO:Nx w0 S0 U0 w S1 (A2 F1)) (xF:w'.os=w.os) (htp:w'.tape=w.tape) (hou:w'.output=w.output) (Po:w.heap.size≤w'.heap.size)
 (hK:CM dst v K (λs=>(δ1 s).er)):∃σ',Rel G n w0 S0 U0 (a.put o.dst D.Aq) w' σ'/\K σ':=by
 have hf:∀s x,F1 s x->w'.heap[x]? =w.heap[x]? :=λs x hx=>hw x ((Bs.ok s).lt x hx)
 have Nz:∀s x,F1 s x->¬S2 x:=by
  intro s x hx h2
  have D5:=(Bs.ok s).lt x hx
  rcases hS2 x h2 with h3|h3
  . exact(Bs.ok s).EZ x hx h3
  . omega
 have CS:∀s x,F1 s x->¬FD x:=by
  intro s x hx h2
  have D5:=(Bs.ok s).lt x hx
  have:=hFD x h2
  omega
 have GN:∀F2:Nat->Nat->Prop,(∀x,A2 F2 x->A2 F1 x∨FD x)->Nx w0 S0 U0 w' S2 (A2 F2):=by
  intro F2 Vu
  refine EO.trans ⟨xF,htp,hou,Po,λb hb _=>hw b hb,LH,λb hb=>(hS2 b hb).imp id .inr,λ_=>wB,λx hx=>(Vu x hx).imp id (hFD x)⟩
 cases dst with
 |none=>
  have h0:o.dst=none:=hd
  refine⟨_,⟨S2,δ1,F1,?_,?_,?_,rfl,Bs.world (λb hb=>hw b (CN b hb)) hf LH Nz,GN F1 (λx hx=>.inl hx),wB⟩,hK⟩
  . rw[h0];exact hn
  . rw[h0];exact Dv
  . rw[h0];exact ha
 |some d=>
  simp only[CM]at hK
  split at hK
  . rename_i τ' LY
    obtain⟨h1,h2,h3,h4⟩:=hd
    rw[← Er]at LY
    obtain⟨δ',F',Jr,Iw,C9,Dh⟩:=Bs.wr h2 h3 (λb hb=>hw b (CN b hb)) hf LH Nz hD CS F6 LY
    refine⟨τ',⟨S2,δ',F',?_,?_,?_,Iw,Jr,GN F' Dh,wB⟩,hK⟩
    . rw[h1];simpa[Act.put]using hn
    . rw[h1];simpa[Act.put]using Dv
    . intro s
      rw[h1,IE a d.d D.Aq h4 s,C9 s]
      split
      . rfl
      . exact ha s
  . exact hK.elim
theorem borrow {n:Nat} {w0:World} {S0 U0:Nat->Prop} {a:Act} {o:Oper} {dst:ABp Dg} {xs:List Operand} {args:List Ar} {aZ9:List AV} {res v:AV} {f:Nat} {K:Sg->Prop} {Q:Exit->Act->World->Prop} (MX:GI w S) (Bs:St G w S δ Fr) (EO:Nx w0 S0 U0 w S (A2 Fr)) (CN:∀b,S b->b<w.heap.size) (hn:a.tmps.size=n) (Dv:a.defers=[]) (ha:Rd δ a) (hd:Ik G a o dst)
 (GX:F8 xs args=true) (hr:JU (λs=>(δ s).er) args=some aZ9) (I8:Says P f aZ9 res) (Zs:fresh res=true) (hv:res=v)
 (Ey:CM dst v K (λs=>(δ s).er)):
 Calls P f (xs.map a.eval).toArray w λ
  | .returned v,w''=>(λa' w'=>∃σ',Rel G n w0 S0 U0 a' w' σ'/\K σ') (a.put o.dst v) w''
  | .panicked chain,w''=>Q (.panic chain) a w''
  | .outgrown,_=>LetsOut Q:=by
 obtain⟨Ds,Er,Qc,ZB⟩:=SJ Bs ha args GX hr
 have Fp:=I8 w (λx=>S x∨A2 Fr x) Ds (λ_=>False) (MX.mono λ_ h=>.inl h) Er (A9.2 (B7 ZB)) (by
  rintro b (hb|⟨s,hs⟩)
  . exact CN b hb
  . exact(Bs.ok s).lt b hs)
 rw[Qc]at Fp
 refine Fp.mono ?_
 rintro e w' ⟨r,os,S',F',rfl,Pn,xA,r7,CH,EF,LH,kR,KL,Vt⟩
 obtain⟨Fa,Fb,ZG,_,_,Pl⟩:=A9.1 CH
 have wT:∀x,Fa x->w.heap.size≤x:=λx hx=>(Vt x ((Pl x).2 (.inl hx))).resolve_left id
 have OW:Ok w' S r Fa:=RY ZG (by rw[Pn];exact Zs) (λx hx hs=>by have:=CN x hs;have:=wT x hx;omega)
 simp only
 exact Ky (S2:=S) Bs hn Dv ha hd (Pn.trans hv) (λb hb=>EF.block b hb id) CN (λ_ h=>h) (λ_ h=>.inl h) (λb hb=>ABM (CN b hb) EF.size) OW wT (RX ZG (by rw[Pn];exact Zs)) EO EF.os EF.tape EF.output EF.size Ey
theorem cZ {a:Act} (ys:List Ar):∀{xs:List Operand} {δ:Nat->DV} {Fr:Nat->Nat->Prop} {aZ9:List AV} {τ:Sg},St G w S δ Fr->Rd δ a->F8 xs ys=true->QO G ys (λs=>(δ s).er)=some (aZ9,τ)->
 ∃(δ':Nat->DV) (F':Nat->Nat->Prop) (Ds:List DV) (Fd:Nat->Prop),St G w S δ' F'/\(λs=>(δ' s).er)=τ/\(∀s,(δ' s).Aq=(δ s).Aq)/\Ds.map DV.er=aZ9/\Ds.map DV.Aq=xs.map a.eval/\JF w S Ds Fd/\
  (∀s x,F' s x->¬Fd x)/\(∀x,A2 F' x∨Fd x->A2 Fr x):=by
 induction ys with
 |nil=>
  intro xs δ Fr aZ9 τ h ha hc ht
  cases xs with
  |cons=>simp[F8]at hc
  |nil=>
   simp only[QO,AAN,AAc]at ht
   obtain⟨rfl,rfl⟩:=ht
   exact⟨δ,Fr,[],λ_=>False,h,rfl,λ_=>rfl,rfl,rfl,λ_ h=>h,λ_ _ _ h=>h,λx hx=>hx.elim id False.elim⟩
 |cons y ys ih=>
  intro xs δ Fr aZ9 τ h ha hc ht
  cases xs with
  |nil=>simp[F8]at hc
  |cons x xs=>
   simp only[F8,AAP]at hc
   obtain⟨hy,Ku⟩:=Ah hc.1 ha
   simp only[QO]at ht
   split at ht
   . rename_i v τ1 ht1
     split at ht
     . rename_i l τ2 ht2
       simp only[AAN,AAc]at ht
       obtain⟨rfl,rfl⟩:=ht
       obtain⟨δ1,F1,D,Ff,Et,Iw,Er,Qc⟩:=h.tk hy ht1
       subst Iw
       subst Er
       obtain⟨δ2,F2,Ds,Fd,m1,m2,m3,m4,m5,m6,m7,m8⟩:=ih Et.st (λs=>(ha s).trans (Et.Aq s).symm) hc.2 ht2
       have hdFd:∀x,Ff x->¬Fd x:=λx h1 h2=>by obtain⟨t,ht⟩:=m8 x (.inr h2);exact Et.LF t x ht h1
       refine⟨δ2,F2,D::Ds,λx=>Ff x∨Fd x,m1,m2,λs=>(m3 s).trans (Et.Aq s),by simp[m4],by simp[m5,Qc,Ku],⟨Ff,Fd,Et.ok,m6,hdFd,λx=>ABe⟩,?_,?_⟩
       . rintro s x hx (h1|h1)
         . obtain⟨t,ht⟩:=m8 x (.inl ⟨s,hx⟩)
           exact Et.LF t x ht h1
         . exact m7 s x hx h1
       . rintro x (hx|hx|hx)
         . exact Et.own x (.inl (m8 x (.inl hx)))
         . exact Et.own x (.inr hx)
         . exact Et.own x (.inl (m8 x (.inr hx)))
     . cases ht
   . cases ht
theorem fC (h:St G w S δ Fr) (rs:List (Nat×List Step)):∀{vs:List Value} {U4:List (List AV)},vs.length=rs.length->(∀(i:Nat) r p u,rs[i]? =some (r,p)->vs[i]? =some u->∃bx k rows,Am (δ r) p=some (.own u bx k rows))->Ve (λs=>(δ s).er) rs=some U4->
 vs.length=U4.length/\∀(i:Nat) cs u,U4[i]? =some cs->vs[i]? =some u->sS w (λx=>S x∨A2 Fr x) cs u:=by
 induction rs with
 |nil=>
  intro vs U4 hl _ hr
  cases vs with
  |nil=>simp only[Ve,AAN]at hr;subst hr;exact⟨rfl,by simp⟩
  |cons=>simp at hl
 |cons x rs ih=>
  obtain⟨r,p⟩:=x
  intro vs U4 hl hv hr
  cases vs with
  |nil=>simp at hl
  |cons v vs=>
   simp only[Ve]at hr
   split at hr
   . rename_i cs css' h1 h2
     simp only[AAN]at hr
     subst hr
     obtain⟨bx,k,rows,hs⟩:=hv 0 r p v rfl rfl
     obtain⟨D,k1,k2,k3⟩:=JC h (d:=.lf (.al r p) v) (F:=λ_=>False) (.lf _ _ _ trivial (λ_ h=>h)) (λ_ h=>h.elim) (.lf _ _ ⟨bx,k,rows,hs⟩) (by simpa using h1)
     obtain⟨m1,m2⟩:=ih (by simpa using hl) (λi r p u hi hu=>hv (i+1) r p u (by simpa using hi) (by simpa using hu)) h2
     refine⟨by simp[m1],λi u6 u hi hu=> ?_⟩
     cases i with
     |zero=>
      simp only[AAw,AAN]at hi hu
      subst hi;subst hu
      simp only[KZ]at k2
      cases k3 with
      |lf a v' _ ha _=>simp only[Ea]at k1;subst k1;simp only[KZ]at k2;subst k2;exact ha
      |nil=>simp at k1
      |own=>simp at k1
      |agg=>simp at k1
      |BJ=>simp at k1
     |succ i=>exact m2 i u6 u (by simpa using hi) (by simpa using hu)
   . cases hr
theorem XC {a:Act} (ys:List Ar):∀{xs:List Operand} {δ:Nat->DV} {Fr:Nat->Nat->Prop} {aZ9:List AV} {τ:Sg},St G w S δ Fr->Rd δ a->F8 xs ys=true->Us G ys (λs=>(δ s).er)=some (aZ9,τ)->
 ∃(δ':Nat->DV) (F':Nat->Nat->Prop) (Ds:List DV) (Fd:Nat->Prop),St G w S δ' F'/\(λs=>(δ' s).er)=τ/\(∀s,(δ' s).Aq=(δ s).Aq)/\Ds.map DV.er=aZ9/\Ds.map DV.Aq=xs.map a.eval/\JF w (λx=>S x∨A2 F' x) Ds Fd/\
  (∀s x,F' s x->¬Fd x)/\(∀x,A2 F' x∨Fd x->A2 Fr x):=by
 induction ys with
 |nil=>intro xs δ Fr aZ9 τ h ha hc ht;simp[Us]at ht
 |cons y ys ih=>
  intro xs δ Fr aZ9 τ h ha hc ht
  cases xs with
  |nil=>simp[F8]at hc
  |cons x xs=>
   simp only[F8,AAP]at hc
   obtain⟨hy,Ku⟩:=Ah hc.1 ha
   cases ys with
   |nil=>
    cases xs with
    |cons=>simp[F8]at hc
    |nil=>
     simp only[Us]at ht
     split at ht
     . rename_i f rs GX
       split at ht
       . rename_i U4 hcss
         simp only[AAN,AAc]at ht
         obtain⟨rfl,rfl⟩:=ht
         obtain⟨vs,BP,hvl,hvs⟩:Lp δ (.cl f rs) (CQ δ y):=by
          cases y with
          |t s=>exact(h.leaf GX rfl).2.2
          |c c0=>
           obtain⟨D0,gL⟩:=hy
           simp only[ar]at GX
           subst GX
           simp[IU]at gL
         obtain⟨k1,k2⟩:=fC h rs hvl hvs hcss
         refine⟨δ,Fr,[.lf (.fZ f U4) (CQ δ y)],λ_=>False,h,rfl,λ_=>rfl,by simp,by simp[Ku],B7 (λD hD=> ?_),λ_ _ _ h=>h,λx hx=>hx.elim id False.elim⟩
         simp only[AA4]at hD
         subst hD
         exact .lf _ _ _ ⟨vs,BP,k1,k2⟩ (λ_ h=>h)
       . cases ht
     . cases ht
   |cons y2 ys=>
    simp only[Us]at ht
    split at ht
    . rename_i v τ1 ht1
      split at ht
      . rename_i l τ2 ht2
        simp only[AAN,AAc]at ht
        obtain⟨rfl,rfl⟩:=ht
        obtain⟨δ1,F1,D,Ff,Et,Iw,Er,Qc⟩:=h.tk hy ht1
        subst Iw
        subst Er
        obtain⟨δ2,F2,Ds,Fd,m1,m2,m3,m4,m5,m6,m7,m8⟩:=ih Et.st (λs=>(ha s).trans (Et.Aq s).symm) hc.2 ht2
        have hdFd:∀x,Ff x->¬Fd x:=λx h1 h2=>by obtain⟨t,ht⟩:=m8 x (.inr h2);exact Et.LF t x ht h1
        have hD':Ok w (λx=>S x∨A2 F2 x) D Ff:=Et.ok.mono (λ_ _=>rfl) (λ_ _=>rfl) (λ_ h=>.inl h) (λx hx hs=>hs.elim (Et.ok.EZ x hx) (λho=>by obtain⟨t,ht⟩:=m8 x (.inl ho);exact Et.LF t x ht hx))
        refine⟨δ2,F2,D::Ds,λx=>Ff x∨Fd x,m1,m2,λs=>(m3 s).trans (Et.Aq s),by simp[m4],by simp[m5,Qc,Ku],⟨Ff,Fd,hD',m6,hdFd,λx=>ABe⟩,?_,?_⟩
        . rintro s x hx (h1|h1)
          . obtain⟨t,ht⟩:=m8 x (.inl ⟨s,hx⟩)
            exact Et.LF t x ht h1
          . exact m7 s x hx h1
        . rintro x (hx|hx|hx)
          . exact Et.own x (.inl (m8 x (.inl hx)))
          . exact Et.own x (.inr hx)
          . exact Et.own x (.inl (m8 x (.inr hx)))
      . cases ht
    . cases ht
theorem fB {n:Nat} {w0:World} {S0 U0:Nat->Prop} (hG:XY w0 S0 U0) {a:Act} {σ:Sg} (h:Rel G n w0 S0 U0 a w σ) {o:Oper} {io:BH} {f m:Nat} {args:List Ar} (hio:io.op= .call f args m) (OT:JO P o.op f args m=true) (hd:Ik G a o io.dst) {K:Sg->Prop} (B8:Dp P G io K σ)
 (Q:Exit->Act->World->Prop):o.wp P a w (λa' w'=>∃σ',Rel G n w0 S0 U0 a' w' σ'/\K σ') Q:=by
 obtain⟨S,δ,Fr,hn,Dv,ha,rfl,Bs,EO,CN⟩:=h
 have MX:=hG.now EO
 obtain⟨c,fn,ho,Kp,hf,hfb,gO,hm3,GX⟩:=Kn OT
 unfold Dp at B8
 rw[hio]at B8
 simp only at B8
 split at B8
 . rename_i aZ9 τ JI
   obtain⟨res,I8,Ey⟩:=B8
   split at Ey
   . rename_i v hv
     unfold Oper.wp
     rw[Sl ho Kp hf hfb gO,Oper.upon_enter]
     match m,hm3,JI,hv with
     |1,_,JI,hv=>
      simp only[Fj]at JI
      obtain⟨δ1,F1,Ds,Fd,Ed,Vy,JR,Er,Qc,ZB,CS,Dh⟩:=Zi _ Bs ha GX JI
      subst Vy
      have v7:∀x,Fd x->x<w.heap.size:=λx hx=>by obtain⟨t,ht⟩:=Dh x (.inr hx);exact(Bs.ok t).lt x ht
      have Fp:=I8 w (λx=>S x∨Fd x) Ds (λ_=>False) (MX.mono λ_ h=>.inl h) Er (A9.2 (B7 ZB)) (λb hb=>hb.elim (CN b) (v7 b))
      rw[Qc]at Fp
      refine Fp.mono ?_
      rintro e w' ⟨r,os,S',F',rfl,Pn,xA,r7,CH,EF,LH,kR,KL,Vt⟩
      obtain⟨Fa,Fb,ZG,_,_,Pl⟩:=A9.1 CH
      obtain⟨D,k1,k2,k3,k4⟩:=Qb (δ:=δ1) ZG
      simp only[Q0,AAN]at hv
      have wT:∀x,Fa x->w.heap.size≤x:=λx hx=>(Vt x ((Pl x).2 (.inl hx))).resolve_left id
      have hst1':St G w (λx=>S x∨Fd x) δ1 F1:=Ed.world (λ_ _=>rfl) (λ_ _ _=>rfl) (λ_ h=>.inl h) (λs x hx hs=>hs.elim ((Ed.ok s).EZ x hx) (CS s x hx))
      have oR:Nx w0 S0 U0 w (λx=>S x∨Fd x) (A2 F1):=EO.trans (Nx.I0 (λx hx=>Dh x hx) v7)
      simp only
      rw[← k2]
      refine Ky (S2:=λx=>S' x∨Fa x) hst1' hn Dv (λs=>(ha s).trans (JR s).symm) hd (by rw[k1,Pn];exact hv) (λb hb=>EF.block b hb id) (λb hb=>hb.elim (CN b) (v7 b)) (λb hb=>.inl (LH b hb)) ?_ ?_ k3 (λ_ h=>h.elim) k4 oR EF.os EF.tape EF.output EF.size Ey
      . rintro b (hb|hb)
        . rcases kR b hb with h1|h1|h1
          . exact .inl h1
          . exact h1.elim
          . exact .inr h1
        . exact .inr (wT b hb)
      . rintro b (hb|hb)
        . exact KL b hb
        . exact ZG.lt b hb
     |0,_,JI,hv=>
      simp only[Fj]at JI
      split at JI
      . rename_i l hr
        simp only[AAN,AAc]at JI
        obtain⟨rfl,rfl⟩:=JI
        simp only[Q0]at hv
        split at hv
        . rename_i Et
          exact borrow MX Bs EO CN hn Dv ha hd GX hr I8 (Vo Et) (AAR hv) Ey
        . cases hv
      . cases JI
     |3,_,JI,hv=>
      simp only[Fj]at JI
      obtain⟨δ1,F1,Ds,Fd,Ed,Vy,JR,Er,Qc,ZB,CS,Dh⟩:=cZ _ Bs ha GX JI
      subst Vy
      simp only[Q0]at hv
      split at hv
      . rename_i Zs
        obtain rfl:=AAR hv
        have Fp:=I8 w S Ds Fd MX Er (A9.2 ZB) CN
        rw[Qc]at Fp
        refine Fp.mono ?_
        rintro e w' ⟨r,os,S',F',rfl,Pn,xA,r7,CH,EF,LH,kR,KL,Vt⟩
        obtain⟨Fa,Fb,ZG,_,_,Pl⟩:=A9.1 CH
        have oM:∀x,Fa x->Fd x∨w.heap.size≤x:=λx hx=>Vt x ((Pl x).2 (.inl hx))
        have V2:∀s x,F1 s x->x<w.heap.size:=λs x hx=>(Ed.ok s).lt x hx
        have lD:∀b,S b->w'.heap[b]? =w.heap[b]? :=λb hb=>EF.block b (CN b hb) λhf=>by
         obtain⟨t,ht⟩:=Dh b (.inr hf);exact(Bs.ok t).EZ b ht hb
        have gS:∀s x,F1 s x->w'.heap[x]? =w.heap[x]? :=λs x hx=>EF.block x (V2 s x hx) (CS s x hx)
        have Nz:∀s x,F1 s x->¬S' x:=by
         intro s x hx h'
         rcases kR x h' with h1|h1|h1
         . exact(Ed.ok s).EZ x hx h1
         . exact CS s x hx h1
         . have:=V2 s x hx;omega
        have kW:∀s x,F1 s x->¬Fa x:=by
         intro s x hx h'
         rcases oM x h' with h1|h1
         . exact CS s x hx h1
         . have:=V2 s x hx;omega
        have GN:∀F2:Nat->Nat->Prop,(∀x,A2 F2 x->A2 F1 x∨Fa x)->Nx w0 S0 U0 w' S' (A2 F2):=by
         intro F2 Vu
         refine EO.trans ⟨EF.os,EF.tape,EF.output,EF.size,λb hb KX=>EF.block b hb λhf=>KX (Dh b (.inr hf)),LH,λb hb=>(kR b hb).imp id (Or.imp (λh=>Dh b (.inr h)) id),λ_=>KL,λx hx=> ?_⟩
         rcases Vu x hx with h1|h1
         . exact .inl (Dh x (.inl h1))
         . exact(oM x h1).imp (λh=>Dh x (.inr h)) id
        have QB:Rd δ1 a:=λs=>(ha s).trans (JR s).symm
        simp only
        cases KM:io.dst with
        |none=>
         rw[KM]at hd Ey
         have h0:o.dst=none:=hd
         refine⟨_,⟨S',δ1,F1,?_,?_,?_,rfl,Ed.world lD gS LH Nz,GN F1 (λx hx=>.inl hx),KL⟩,Ey⟩
         . rw[h0];exact hn
         . rw[h0];exact Dv
         . rw[h0];exact QB
        |some d=>
         rw[KM]at hd Ey
         simp only[CM]at Ey
         split at Ey
         . rename_i τ' LY
           obtain⟨h1,h2,h3,h4⟩:=hd
           rw[← Pn]at LY
           obtain⟨δ',F2,Jr,Iw,C9,V4⟩:=Ed.wr h2 h3 lD gS LH Nz ZG kW (Vh ZG (by rw[Pn];exact Zs)) LY
           refine⟨τ',⟨S',δ',F2,?_,?_,?_,Iw,Jr,GN F2 V4,KL⟩,Ey⟩
           . rw[h1];simpa[Act.put]using hn
           . rw[h1];simpa[Act.put]using Dv
           . intro s
             rw[h1,IE a d.d r.Aq h4 s,C9 s]
             split
             . rfl
             . exact QB s
         . exact Ey.elim
      . cases hv
     |4,_,JI,hv=>
      simp only[Fj]at JI
      obtain⟨δ1,F1,Ds,Fd,Ed,Vy,JR,Er,Qc,ZB,CS,Dh⟩:=XC _ Bs ha GX JI
      subst Vy
      simp only[Q0]at hv
      split at hv
      . rename_i Zs
        obtain rfl:=AAR hv
        have V2:∀s x,F1 s x->x<w.heap.size:=λs x hx=>(Ed.ok s).lt x hx
        have Fp:=I8 w (λx=>S x∨A2 F1 x) Ds Fd (MX.mono λ_ h=>.inl h) Er (A9.2 ZB) (λb hb=>hb.elim (CN b) (λ⟨s,hs⟩=>V2 s b hs))
        rw[Qc]at Fp
        refine Fp.mono ?_
        rintro e w' ⟨r,os,S',F',rfl,Pn,xA,r7,CH,EF,LH,kR,KL,Vt⟩
        obtain⟨Fa,Fb,hra0,_,_,Pl⟩:=A9.1 CH
        have oM:∀x,Fa x->Fd x∨w.heap.size≤x:=λx hx=>Vt x ((Pl x).2 (.inl hx))
        have vZ:∀x,Fd x->¬S x:=λx hf hs=>by obtain⟨t,ht⟩:=Dh x (.inr hf);exact(Bs.ok t).EZ x ht hs
        have ZG:Ok w' S r Fa:=RY hra0 (by rw[Pn];exact Zs) (λx hx hs=>(oM x hx).elim (λh1=>vZ x h1 hs) (λh1=>by have:=CN x hs;omega))
        have lD:∀b,S b->w'.heap[b]? =w.heap[b]? :=λb hb=>EF.block b (CN b hb) λhf=>vZ b hf hb
        have gS:∀s x,F1 s x->w'.heap[x]? =w.heap[x]? :=λs x hx=>EF.block x (V2 s x hx) (CS s x hx)
        have Nz:∀s x,F1 s x->¬S x:=λs x hx=>(Ed.ok s).EZ x hx
        have Tz:∀b,S b->b<w'.heap.size:=λb hb=>ABM (CN b hb) EF.size
        have kW:∀s x,F1 s x->¬Fa x:=by
         intro s x hx h'
         rcases oM x h' with h1|h1
         . exact CS s x hx h1
         . have:=V2 s x hx;omega
        have GN:∀F2:Nat->Nat->Prop,(∀x,A2 F2 x->A2 F1 x∨Fa x)->Nx w0 S0 U0 w' S (A2 F2):=by
         intro F2 Vu
         refine EO.trans ⟨EF.os,EF.tape,EF.output,EF.size,λb hb KX=>EF.block b hb λhf=>KX (Dh b (.inr hf)),λ_ h=>h,λ_ h=>.inl h,λ_=>Tz,λx hx=> ?_⟩
         rcases Vu x hx with h1|h1
         . exact .inl (Dh x (.inl h1))
         . exact(oM x h1).imp (λh=>Dh x (.inr h)) id
        have QB:Rd δ1 a:=λs=>(ha s).trans (JR s).symm
        simp only
        cases KM:io.dst with
        |none=>
         rw[KM]at hd Ey
         have h0:o.dst=none:=hd
         refine⟨_,⟨S,δ1,F1,?_,?_,?_,rfl,Ed.world lD gS (λ_ h=>h) Nz,GN F1 (λx hx=>.inl hx),Tz⟩,Ey⟩
         . rw[h0];exact hn
         . rw[h0];exact Dv
         . rw[h0];exact QB
        |some d=>
         rw[KM]at hd Ey
         simp only[CM]at Ey
         split at Ey
         . rename_i τ' LY
           obtain⟨h1,h2,h3,h4⟩:=hd
           rw[← Pn]at LY
           obtain⟨δ',F2,Jr,Iw,C9,V4⟩:=Ed.wr h2 h3 lD gS (λ_ h=>h) Nz ZG kW (RX ZG (by rw[Pn];exact Zs)) LY
           refine⟨τ',⟨S,δ',F2,?_,?_,?_,Iw,Jr,GN F2 V4,Tz⟩,Ey⟩
           . rw[h1];simpa[Act.put]using hn
           . rw[h1];simpa[Act.put]using Dv
           . intro s
             rw[h1,IE a d.d r.Aq h4 s,C9 s]
             split
             . rfl
             . exact QB s
         . exact Ey.elim
      . cases hv
     |2,_,JI,hv=>
      simp only[Fj]at JI
      split at JI
      . rename_i l hr
        simp only[AAN,AAc]at JI
        obtain⟨rfl,rfl⟩:=JI
        simp only[Q0]at hv
        split at hv
        . rename_i Et
          exact borrow MX Bs EO CN hn Dv ha hd GX hr I8 Et (AAR hv) Ey
        . cases hv
      . cases JI
   . exact Ey.elim
 . exact B8.elim
theorem aK {n:Nat} {w0:World} {S0 U0:Nat->Prop} (hG:XY w0 S0 U0) {a:Act} {σ:Sg} (h:Rel G n w0 S0 U0 a w σ) {o:Oper} {io:BH} {f:Nat} {args:List Ar} (hio:io.op= .call f args 4) (OT:JO P o.op f args 4=true) (hd:Ik G a o io.dst) {K:Sg->Prop} (B8:Dp P G io K σ) {rr kb:Nat} (hbox:∀aZ9 τ,Fj G 4 args σ=some (aZ9,τ)->∃rows,τ rr= .own true kb rows)
 (Q:Exit->Act->World->Prop):o.wp P a w (λa' w'=>(∃σ',Rel G n w0 S0 U0 a' w' σ'/\K σ')/\(∀b,a.tmps.getD rr undef= .pointer (some ⟨b,0,none⟩)->w'.heap[b]? =w.heap[b]?)/\∃u,a'=a.put o.dst u) Q:=by
 obtain⟨S,δ,Fr,hn,Dv,ha,rfl,Bs,EO,CN⟩:=h
 have MX:=hG.now EO
 obtain⟨c,fn,ho,Kp,hf,hfb,gO,hm3,GX⟩:=Kn OT
 unfold Dp at B8
 rw[hio]at B8
 simp only at B8
 split at B8
 . rename_i aZ9 τ JI
   obtain⟨res,I8,Ey⟩:=B8
   split at Ey
   . rename_i v hv
     unfold Oper.wp
     rw[Sl ho Kp hf hfb gO,Oper.upon_enter]
     have hca0:=JI
     simp only[Fj]at JI
     obtain⟨δ1,F1,Ds,Fd,Ed,Vy,JR,Er,Qc,ZB,CS,Dh⟩:=XC _ Bs ha GX JI
     subst Vy
     simp only[Q0]at hv
     split at hv
     . rename_i Zs
       obtain rfl:=AAR hv
       have V2:∀s x,F1 s x->x<w.heap.size:=λs x hx=>(Ed.ok s).lt x hx
       have Fp:=I8 w (λx=>S x∨A2 F1 x) Ds Fd (MX.mono λ_ h=>.inl h) Er (A9.2 ZB) (λb hb=>hb.elim (CN b) (λ⟨s,hs⟩=>V2 s b hs))
       rw[Qc]at Fp
       refine Fp.mono ?_
       rintro e w' ⟨r,os,S',F',rfl,Pn,xA,r7,CH,EF,LH,kR,KL,Vt⟩
       obtain⟨Fa,Fb,hra0,_,_,Pl⟩:=A9.1 CH
       have oM:∀x,Fa x->Fd x∨w.heap.size≤x:=λx hx=>Vt x ((Pl x).2 (.inl hx))
       have vZ:∀x,Fd x->¬S x:=λx hf hs=>by obtain⟨t,ht⟩:=Dh x (.inr hf);exact(Bs.ok t).EZ x ht hs
       have ZG:Ok w' S r Fa:=RY hra0 (by rw[Pn];exact Zs) (λx hx hs=>(oM x hx).elim (λh1=>vZ x h1 hs) (λh1=>by have:=CN x hs;omega))
       have lD:∀b,S b->w'.heap[b]? =w.heap[b]? :=λb hb=>EF.block b (CN b hb) λhf=>vZ b hf hb
       have gS:∀s x,F1 s x->w'.heap[x]? =w.heap[x]? :=λs x hx=>EF.block x (V2 s x hx) (CS s x hx)
       have Nz:∀s x,F1 s x->¬S x:=λs x hx=>(Ed.ok s).EZ x hx
       have Tz:∀b,S b->b<w'.heap.size:=λb hb=>ABM (CN b hb) EF.size
       have kW:∀s x,F1 s x->¬Fa x:=by
        intro s x hx h'
        rcases oM x h' with h1|h1
        . exact CS s x hx h1
        . have:=V2 s x hx;omega
       have GN:∀F2:Nat->Nat->Prop,(∀x,A2 F2 x->A2 F1 x∨Fa x)->Nx w0 S0 U0 w' S (A2 F2):=by
        intro F2 Vu
        refine EO.trans ⟨EF.os,EF.tape,EF.output,EF.size,λb hb KX=>EF.block b hb λhf=>KX (Dh b (.inr hf)),λ_ h=>h,λ_ h=>.inl h,λ_=>Tz,λx hx=> ?_⟩
        rcases Vu x hx with h1|h1
        . exact .inl (Dh x (.inl h1))
        . exact(oM x h1).imp (λh=>Dh x (.inr h)) id
       have QB:Rd δ1 a:=λs=>(ha s).trans (JR s).symm
       have IK:∀b,a.tmps.getD rr undef= .pointer (some ⟨b,0,none⟩)->w'.heap[b]? =w.heap[b]? :=by
        intro b hb
        obtain⟨rows,hrr⟩:=hbox _ _ hca0
        have bG:=Ed.ok rr
        have h1:(δ1 rr).Aq= .pointer (some ⟨b,0,none⟩):=by rw[← QB rr];exact hb
        have h2:(δ1 rr).er= .own true kb rows:=hrr
        cases hδ:δ1 rr with
        |lf x v=>rw[hδ]at h2 bG;simp at h2;subst h2;cases bG with|lf _ _ _ hl _=>simp[HK]at hl
        |agg=>rw[hδ]at h2;simp at h2
        |BJ=>rw[hδ]at h2;simp at h2
        |own hh bx k0 Aj=>
         rw[hδ]at h1 h2 bG
         simp only[EE,AV.own.injEq]at h2
         obtain⟨rfl,rfl,_⟩:=h2
         simp only[KA]at h1
         generalize hF1:F1 rr=Fx at bG
         generalize hvv:hh=bJ at bG
         cases bG with
         |own _ _ _ b' c arr E Fs _ dK hk De Ko hv2 hr U8 BP Jb hF=>
          rw[hvv]at h1
          simp only[I7,AAs,Value.pointer.injEq,AAN,Addr.mk.injEq,and_true]at h1
          have e:b'=b:=by first|exact h1|exact h1.1
          subst e
          exact gS rr b' (by rw[hF1];first|exact(hF b').2 (.inl rfl)|exact Jb|simp[hF])
       simp only
       cases KM:io.dst with
       |none=>
        rw[KM]at hd Ey
        have h0:o.dst=none:=hd
        refine⟨⟨_,⟨S,δ1,F1,?_,?_,?_,rfl,Ed.world lD gS (λ_ h=>h) Nz,GN F1 (λx hx=>.inl hx),Tz⟩,Ey⟩,IK,_,rfl⟩
        . rw[h0];exact hn
        . rw[h0];exact Dv
        . rw[h0];exact QB
       |some d=>
        rw[KM]at hd Ey
        simp only[CM]at Ey
        split at Ey
        . rename_i τ' LY
          obtain⟨h1,h2,h3,h4⟩:=hd
          rw[← Pn]at LY
          obtain⟨δ',F2,Jr,Iw,C9,V4⟩:=Ed.wr h2 h3 lD gS (λ_ h=>h) Nz ZG kW (RX ZG (by rw[Pn];exact Zs)) LY
          refine⟨⟨τ',⟨S,δ',F2,?_,?_,?_,Iw,Jr,GN F2 V4,Tz⟩,Ey⟩,IK,_,rfl⟩
          . rw[h1];simpa[Act.put]using hn
          . rw[h1];simpa[Act.put]using Dv
          . intro s
            rw[h1,IE a d.d r.Aq h4 s,C9 s]
            split
            . rfl
            . exact QB s
        . exact Ey.elim
     . cases hv
   . exact Ey.elim
 . exact B8.elim
end Go.Abs
namespace Go.Abs
variable {w w':World} {S S':Nat->Prop} {G:Gi} {δ:Nat->DV} {Fr:Nat->Nat->Prop} {P:Program}
def DX (G:Gi) (n:Nat) (o:ABp Tmp) (d:ABp Dg):Bool:=
 match o,d with
 |none,none=>true
 |some t,some d=>t==d.d&&d.kl==G.NW d.d&&d.rs==G.GJ d.d&&decide (d.d<n)
 |_,_=>false
theorem EJ {n:Nat} {a:Act} {o:Oper} {d:ABp Dg} (h:DX G n o.dst d=true) (hn:a.tmps.size=n):Ik G a o d:=by
 unfold DX at h
 split at h
 . rename_i ho;exact ho
 . rename_i t d ho
   simp only[AAP,AAd,AAf]at h
   obtain⟨⟨⟨rfl,h2⟩,h3⟩,h4⟩:=h
   exact⟨ho,h2,h3,by rw[hn];exact h4⟩
 . cases h
theorem TU (h:St G w S δ Fr) {x:Ar} {r:Nat} {p:List Step} {b:Bool} {k:Nat} {rows:List (List AV)} (hp:plc (λs=>(δ s).er) x=some (r,p)) (hs:sub (δ r).er p=some (.own b k rows)):
 ∃Aj,Am (δ r) p=some (.own (CQ δ x) b k Aj)/\(DV.own (CQ δ x) b k Aj).er= .own b k rows:=by
 obtain⟨D,hD,Er⟩:=DT (h.ok r).KQ hs
 have Dh:∃v Aj,D= .own v b k Aj:=by
  have:=(h.ok r).KQ.Am hD
  cases D with
  |own v bx k' rows'=>simp only[EE,AV.own.injEq]at Er;obtain⟨rfl,rfl,_⟩:=Er;exact⟨v,rows',rfl⟩
  |lf a v=>cases this with|lf _ _ hl=>simp at Er;subst Er;simp[CR]at hl
  |agg cs=>simp at Er
  |BJ cs=>simp at Er
 obtain⟨v,Aj,rfl⟩:=Dh
 unfold plc at hp
 split at hp
 . rename_i s
   split at hp
   . rename_i r' p' Fl
     simp only[AAN,AAc]at hp
     obtain⟨rfl,rfl⟩:=hp
     obtain⟨e1,_,F6⟩:=h.leaf Fl rfl
     obtain⟨bx,k',rows',hl⟩:=F6
     rw[hD]at hl
     simp only[AAN,DV.own.injEq]at hl
     obtain⟨rfl,rfl,rfl,rfl⟩:=hl
     exact⟨_,hD,Er⟩
   . simp only[AAN,AAc]at hp
     obtain⟨rfl,rfl⟩:=hp
     simp only[Am,AAN]at hD
     refine⟨Aj,?_,?_⟩
     . simp[Am,CQ,hD]
     . rw[← Er];simp
   . cases hp
 . cases hp
theorem S9 {d:DV} (h:Hk d.er=true):C3 δ d:=by
 cases d with
 |own=>exact .own _ _ _ _
 |lf a v=>refine .lf _ _ ?_;simp only[Ea]at h;cases a<;>simp_all [Hk,Lp]
 |agg=>simp[Hk]at h
 |BJ=>simp[Hk]at h
theorem Mq {L:List Nat} {a:AV} (h:Hk a=true):E9 L a=true:=by cases a<;>simp_all [Hk]
theorem WW {d:DV} {F:Nat->Prop} (h:Ok w S d F):∃D,D.er=Qo d.er/\D.Aq=d.Aq/\Ok w S D (λ_=>False):=by
 have dead:Qo d.er= .dead->∃D,D.er=Qo d.er/\D.Aq=d.Aq/\Ok w S D (λ_=>False):=λe=>⟨.lf .dead d.Aq,by simp[e],by simp,.lf _ _ _ trivial (λ_ h=>h)⟩
 cases h with
 |lf a v _ ha _=>
  cases a with
  |sc u=>exact⟨.lf (.sc u) v,by simp[Qo],by simp,.lf _ _ _ ha (λ_ h=>h)⟩
  |sl e k rows=>
   refine⟨.lf (.sl false k rows) v,by simp[Qo],by simp,.lf _ _ _ ?_ (λ_ h=>h)⟩
   have hf:Fz w S (.sl e k rows) v:=ha
   show Fz w S (.sl false k rows) v
   cases hf with
   |nil x k a c hx=>exact .nil _ _ _ _ (by simp)
   |sl x k rows b off c vs hx RE hS hk hc hr=>exact .sl _ _ _ b off c vs (by simp) RE hS hk hc hr
  |_=>exact dead (by simp[Qo])
 |nil=>exact dead (by simp[Qo])
 |own=>exact dead (by simp[Qo])
 |agg=>exact dead (by simp[Qo])
 |BJ=>exact dead (by simp[Qo])
theorem T8 {ds:List DV} (h:∀(i:Nat) d,ds[i]? =some d->∃F,Ok w S d F):∃Ds:List DV,Ds.map DV.er=(ds.map DV.er).map Qo/\Ds.map DV.Aq=ds.map DV.Aq/\∀D∈Ds,Ok w S D (λ_=>False):=by
 induction ds with
 |nil=>exact⟨[],rfl,rfl,by simp⟩
 |cons d ds ih=>
  obtain⟨F,hF⟩:=h 0 d rfl
  obtain⟨D,h1,h2,h3⟩:=WW hF
  obtain⟨Ds,g1,g2,g3⟩:=ih (λi e hi=>h (i+1) e hi)
  refine⟨D::Ds,by simp[h1,g1],by simp[h2,g2],λe he=> ?_⟩
  rcases AAp.1 he with rfl|he
  . exact h3
  . exact g3 e he
theorem PQ {d:DV} {F:Nat->Prop} {cs:List AV} (h:Ok w S d F) (he:d.er= .agg cs):∃ds,d= .agg ds/\ds.map DV.er=cs:=by
 have:=h.KQ
 cases d with
 |agg ds=>exact⟨ds,rfl,by simpa using he⟩
 |lf c v=>cases this with|lf _ _ hl=>simp at he;subst he;simp[CR]at hl
 |own=>simp at he
 |BJ=>simp at he
theorem qB (h:St G w S δ Fr) {x:Ar} (hx:VM x) {b:AV} (hr:rdF (λs=>(δ s).er) x=some b):∃D,D.er=b/\D.Aq=CQ δ x/\Ok w S D (λ_=>False):=by
 cases x with
 |t s=>
  simp only[rdF]at hr
  cases hs:(δ s).er with
  |agg cs=>
   rw[hs]at hr
   simp only[AAN]at hr
   subst hr
   obtain⟨ds,hd,hm⟩:=PQ (h.ok s) hs
   have CH:=h.ok s
   rw[hd]at CH
   cases CH with
   |agg _ Fs _ h1 h2 h3 h4=>
    obtain⟨Ds,g1,g2,g3⟩:=T8 (λi d hi=>⟨_,h1 i d hi⟩)
    exact⟨.agg Ds,by simp[g1,← hm],by simp[CQ,hd,g2],Be.2 (B7 g3)⟩
  |_=>
   rw[hs]at hr
   simp only[AAN]at hr
   subst hr
   rw[← hs]
   exact WW (h.ok s)
 |c c=>
  obtain⟨D0,gL⟩:=hx
  obtain⟨e1,e2,e3,_⟩:=Hy (w:=w) (S:=S) (δ:=δ) c D0 gL
  simp only[rdF]at hr
  split at hr
  . rename_i v
    simp only[AAN]at hr
    subst hr
    exact⟨D0,e1,by simp[CQ,gL],e2⟩
  . rename_i k _
    simp only[AAN]at hr
    subst hr
    refine⟨.lf (.sl false k []) D0.Aq,by simp,by simp[CQ,gL],.lf _ _ _ ?_ (λ_ h=>h)⟩
    have:=e2
    cases D0 with
    |own v bx k' rows=>
     simp only[EE,AV.own.injEq,List.map_eq_nil_iff]at e1
     obtain⟨rfl,rfl,rfl⟩:=e1
     cases this with
     |nil=>rw[KA];exact Fz.nil false k' none 0 (by simp)
     |own _ _ _ b c arr E Fs _ hb hk De Ko hv XK LJ BP Jb dO=>exact absurd ((dO b).2 (.inl rfl)) id
    |lf a v=>simp only[Ea]at e1;subst e1;cases this with|lf _ _ _ ha _=>exact ha.elim
    |agg=>simp at e1
    |BJ=>simp at e1
  . cases hr
theorem Qp (h:St G w S δ Fr) {a:Act} (ha:Rd δ a) (ys:List Ar):∀{xs:List Operand} {aZ9:List AV},F8 xs ys=true->N5 (λs=>(δ s).er) ys=some aZ9->
 ∃Ds:List DV,Ds.map DV.er=aZ9/\Ds.map DV.Aq=xs.map a.eval/\∀D∈Ds,Ok w S D (λ_=>False):=by
 induction ys with
 |nil=>
  intro xs aZ9 hc hr
  cases xs with
  |cons=>simp[F8]at hc
  |nil=>simp only[N5,AAN]at hr;subst hr;exact⟨[],rfl,rfl,by simp⟩
 |cons y ys ih=>
  intro xs aZ9 hc hr
  cases xs with
  |nil=>simp[F8]at hc
  |cons x xs=>
   simp only[F8,AAP]at hc
   obtain⟨hy,Ku⟩:=Ah hc.1 ha
   simp only[N5]at hr
   split at hr
   . rename_i b l h1 h2
     simp only[AAN]at hr
     subst hr
     obtain⟨D,k1,k2,k3⟩:=qB h hy h1
     obtain⟨Ds,m1,m2,m3⟩:=ih hc.2 h2
     refine⟨D::Ds,by simp[k1,m1],by simp[k2,m2,Ku],?_⟩
     intro e he
     rcases AAp.1 he with rfl|he
     . exact k3
     . exact m3 e he
   . cases hr
theorem jV {l r:List DV} {D:DV} {F:Nat->Prop} (hl:∀d∈l,Ok w S d (λ_=>False)) (hD:Ok w S D F) (hr:∀d∈r,Ok w S d (λ_=>False)):JF w S (l++D::r) F:=by
 have h2:JF w S (D::r) F:=⟨F,λ_=>False,hD,B7 hr,λ_ _ h=>h,λx=>by simp⟩
 exact(Kw (B7 hl) h2 (λ_ h=>h.elim)).congr λx=>by simp
theorem sT {l r:List DV} {D:DV} {F:Nat->Prop} (h:JF w S (l++D::r) F):∃F',Ok w S D F'/\∀x,F' x->F x:=by
 obtain⟨Fs,h1,h2,h3,h4⟩:=JK.1 h
 exact⟨Fs l.length,h1 _ D (by simp),λx hx=>(h4 x).2 ⟨_,hx⟩⟩
theorem iH (h:St G w S δ Fr) {x:Ar} (hx:VM x) {c:ABp Nat} {r:Nat} {p:List Step} {b:Bool} {k:Nat} {rows:List (List AV)} (hp:Om (λs=>(δ s).er) x c=some (r,p)) (hs:sub (δ r).er p=some (.own b k rows)):
 ∃v Aj,Am (δ r) p=some (.own v b k Aj)/\(DV.own v b k Aj).er= .own b k rows/\∀(Fo:Nat->Prop),Ok w S (.own v b k Aj) Fo->
  ∃D,D.er=Rt (λs=>(δ s).er) x c (.own b k rows)/\D.Aq=CQ δ x/\Ok w S D Fo/\∀(w':World) (S' F':Nat->Prop) (oD:DV) (o:AV),oD.Aq=D.Aq->RI c oD.er=some o->Ok w' S' oD F'->∃(o':DV) (F'':Nat->Prop),o'.er=o/\o'.Aq=v/\Ok w' S' o' F''/\∀y,F'' y->F' y:=by
 cases c with
 |none=>
  obtain⟨Aj,h1,h2⟩:=TU h (x:=x) hp hs
  refine⟨_,Aj,h1,h2,λFo CH=>⟨_,h2,by simp,CH,?_⟩⟩
  intro w' S' F' oD o ha hb OW
  simp only[RI,AAN]at hb
  exact⟨oD,F',hb,by simpa using ha,OW,λ_ h=>h⟩
 |some j=>
  cases x with
  |c=>simp[Om]at hp
  |t s=>
   simp only[Om]at hp
   cases hse:(δ s).er with
   |agg cs=>
    rw[hse]at hp
    simp only at hp
    obtain⟨ds,hd,hm⟩:=PQ (h.ok s) hse
    have xD:=h.ok s
    rw[hd]at xD
    cases xD with
    |agg _ Fs _ g1 g2 g3 g4=>
     cases hdj:ds[j]? with
     |none=>rw[← hm]at hp;simp[hdj]at hp
     |some dj=>
      have hcj:cs[j]? =some dj.er:=by rw[← hm];simp[hdj]
      rw[hcj]at hp
      try simp only at hp
      obtain⟨v,Aj,e1,e2,e3⟩:∃v Aj,Am (δ r) p=some (.own v b k Aj)/\(DV.own v b k Aj).er= .own b k rows/\dj.Aq=v:=by
       obtain⟨D,hD,Er⟩:=DT (h.ok r).KQ hs
       have Dh:∃v Aj,D= .own v b k Aj:=by
        have:=(h.ok r).KQ.Am hD
        cases D with
        |own v bx k' rows'=>simp only[EE,AV.own.injEq]at Er;obtain⟨rfl,rfl,_⟩:=Er;exact⟨v,rows',rfl⟩
        |lf a v=>cases this with|lf _ _ hl=>simp at Er;subst Er;simp[CR]at hl
        |agg cs=>simp at Er
        |BJ cs=>simp at Er
       obtain⟨v,Aj,rfl⟩:=Dh
       refine⟨v,Aj,hD,Er,?_⟩
       split at hp
       . rename_i r' p' he
         simp only[AAN,AAN,AAc]at hp he
         obtain⟨rfl,rfl⟩:=hp
         have F6:=h.al s
         rw[hd]at F6
         cases F6 with
         |agg _ F6=>
          have h1:=F6 j dj hdj
          have h2:=g1 j dj hdj
          cases dj with
          |lf a u=>
           simp only[Ea]at he
           subst he
           cases h1 with
           |lf _ _ h1=>
            obtain⟨bx,k',rows',hl⟩:=h1
            rw[hD]at hl
            simp only[AAN,DV.own.injEq]at hl
            simp[hl.1]
          |own=>simp at he
          |agg=>simp at he
          |BJ=>simp at he
       . rename_i he
         simp only[AAN,AAc]at hp
         obtain⟨rfl,rfl⟩:=hp
         simp only[hd,Am,hdj,AAN]at hD
         subst hD
         simp
       . cases hp
      refine⟨v,Aj,e1,e2,λFo CH=> ?_⟩
      obtain⟨Ds,k1,k2,k3⟩:=T8 (λi d hi=>⟨_,g1 i d hi⟩)
      have hjl:j<ds.length:=(AAQ.1 hdj).1
      have hlen:Ds.length=ds.length:=by have:=congrArg List.length k2;simpa using this
      have gR:Ds.set j (.own v b k Aj)=Ds.take j++ .own v b k Aj::Ds.drop (j+1):=List.set_eq_take_append_cons_drop.trans (by rw[AAY (by omega)])
      refine⟨.agg (Ds.set j (.own v b k Aj)),?_,?_,?_,?_⟩
      . simp only[Gz,Rt,ar,hse,List.map_set,k1,e2,hm]
      . simp only[JN,CQ,hd,List.map_set,k2,KA]
        congr 2
        rw[← e3]
        apply ABV
        intro i
        simp only[List.getElem?_set,AAZ,AAo]
        split
        . rename_i IV;subst IV;rw[hdj];rfl
        . rfl
      . rw[gR]
        exact Be.2 (jV (λd Ri=>k3 d (ABc Ri)) CH (λd Ri=>k3 d (List.mem_of_mem_drop Ri)))
      . intro w' S' F' oD o ha hb OW
        simp only[RI]at hb
        split at hb
        . rename_i os he
          obtain⟨ods,rfl,hom⟩:=PQ OW he
          rw[← hom]at hb
          simp only[AAZ]at hb
          cases hoj:ods[j]? with
          |none=>simp[hoj]at hb
          |some oj=>
           simp only[hoj,AAl,AAN]at hb
           cases OW with
           |agg _ Fs' _ m1 m2 m3 m4=>
            refine⟨oj,Fs' j,hb,?_,m1 j oj hoj,λy hy=>(m4 y).2 ⟨j,hy⟩⟩
            simp only[JN,Value.agg.injEq]at ha
            have ha':ods.map DV.Aq=(Ds.set j (.own v b k Aj)).map DV.Aq:=by have:=congrArg Array.toList ha;simpa using this
            have:=congrArg (·[j]?) ha'
            simp only[AAZ,hoj,AAl,List.getElem?_set]at this
            rw[AAY trivial,AAY (by omega)]at this
            simpa using this
        . cases hb
   |_=>rw[hse]at hp;cases hp
theorem pV {n:Nat} {w0:World} {S0 U0:Nat->Prop} (hG:XY w0 S0 U0) {a:Act} {σ:Sg} (h:Rel G n w0 S0 U0 a w σ) {o:Oper} {d:ABp Dg} {f:Nat} {x:Ar} {c:ABp Nat} {pre post:List Ar} {K:Sg->Prop} {r:Nat} {p:List Step} {aZ9 bs:List AV} {b:Bool} {k:Nat} {rows:List (List AV)} {res out ou t:AV}
 (OT:JO P o.op f (pre++x::post) 0=true) (Zr:DX G n o.dst d=true) (hp:Om σ x c=some (r,p)) (Xl:N5 σ pre=some aZ9) (MY:N5 σ post=some bs) (hs:sub (σ r) p=some (.own b k rows))
 (I8:BD P f (aZ9++Rt σ x c (.own b k rows)::bs) res ((aZ9.map λ_=>.dead)++out::bs.map λ_=>.dead)) (hba:RI c out=some ou) (OS:Hk ou=true) (GX:clean res=true) (Gq:put (σ r) p ou=some t) (hK:CM d res K (C1 (FV G (Ru ou b k p) r σ) r t)) (Q:Exit->Act->World->Prop):
 o.wp P a w (λa' w'=>∃σ',Rel G n w0 S0 U0 a' w' σ'/\K σ') Q:=by
 obtain⟨S,δ,Fr,hn,Dv,ha,rfl,Bs,EO,CN⟩:=h
 obtain⟨cc,fn,ho,Kp,hf,hfb,gO,hm3,Rh⟩:=Kn OT
 have hd:=EJ Zr hn
 obtain⟨xs,x0,ys,FK,hxs,hx0,hys⟩:∃xs x0 ys,cc.args.toList=xs++x0::ys/\F8 xs pre=true/\Bt x0 x=true/\F8 ys post=true:=by
  generalize cc.args.toList=l at Rh
  clear Xl MY hp I8 OT
  induction pre generalizing l with
  |nil=>
   cases l with
   |nil=>simp[F8]at Rh
   |cons x0 xs=>simp only[ABI,F8,AAP]at Rh;exact⟨[],x0,xs,rfl,rfl,Rh.1,Rh.2⟩
  |cons y pre ih=>
   cases l with
   |nil=>simp[F8]at Rh
   |cons y0 l=>
    simp only[AA5,F8,AAP]at Rh
    obtain⟨xs,x0,ys,h1,h2,h3,h4⟩:=ih l Rh.2
    exact⟨y0::xs,x0,ys,by simp[h1],by simp[F8,Rh.1,h2],h3,h4⟩
 obtain⟨hxo,ex0⟩:=Ah hx0 ha
 obtain⟨v,Aj,hD,Er,hlent⟩:=iH Bs hxo hp hs
 obtain⟨Fo,Xj,Bb,Ls⟩:=(Bs.ok r).replace p hD
 obtain⟨Dx,hDx,hDxa,hDxo,hbk⟩:=hlent Fo Xj
 obtain⟨jR,p1,p2,p3⟩:=Qp Bs ha pre hxs Xl
 obtain⟨Ds2,q1,q2,q3⟩:=Qp Bs ha post hys MY
 have Fp:=I8 w S (jR++Dx::Ds2) Fo (hG.now EO) (by simp[p1,q1,hDx]) (A9.2 (jV p3 hDxo q3)) CN
 have Vv:(List.map DV.Aq (jR++Dx::Ds2))=cc.args.toList.map a.eval:=by
  rw[FK];simp[p2,q2,hDxa,ex0]
 unfold Oper.wp
 rw[Sl ho Kp hf hfb gO,Oper.upon_enter,← Vv]
 refine Fp.mono ?_
 rintro e w' ⟨rD,os,S',F',rfl,Pn,xA,r7,CH,EF,LH,kR,KL,Vt⟩
 obtain⟨Fa,Fb,xJ,hosk,hdab,Pl⟩:=A9.1 CH
 obtain⟨os1,oX,os2,rfl,hl1,hXe,hXa⟩:∃os1 oX os2,os=os1++oX::os2/\os1.length=jR.length/\oX.er=out/\oX.Aq=Dx.Aq:=by
  have hlen1:aZ9.length=jR.length:=by rw[← p1];simp
  have hlen:os.length=jR.length+(Ds2.length+1):=by have:=congrArg List.length r7;simpa using this
  have D5:jR.length<os.length:=by omega
  refine⟨os.take jR.length,os[jR.length],os.drop (jR.length+1),?_,by simp;omega,?_,?_⟩
  . rw[← ABH D5,List.take_append_drop]
  . have:=congrArg (·[jR.length]?) xA
    simp only[AAZ,AAT D5,AAl]at this
    rw[AAt (by simp[hlen1])]at this
    simpa[hlen1]using this
  . have:=congrArg (·[jR.length]?) r7
    simp only[AAZ,AAT D5,AAl]at this
    simpa using this
 obtain⟨FX,hoX,hFX⟩:=sT hosk
 obtain⟨oD,Fc,bF,hoa',hoD,hFcX⟩:=hbk w' S' FX oX ou hXa (by rw[hXe];exact hba) hoX
 have D5:∀s x,Fr s x->x<w.heap.size:=λs x hx=>(Bs.ok s).lt x hx
 have hFcB:∀x,Fc x->Fb x:=λx hx=>hFX x (hFcX x hx)
 have hFc:∀x,Fc x->Fo x∨w.heap.size≤x:=λx hx=>Vt x ((Pl x).2 (.inr (hFcB x hx)))
 have oM:∀x,Fa x->Fo x∨w.heap.size≤x:=λx hx=>Vt x ((Pl x).2 (.inl hx))
 have lD:∀b,S b->w'.heap[b]? =w.heap[b]? :=λb hb=>EF.block b (CN b hb) (λhf=>Xj.EZ b hf hb)
 have gS:∀s b,Fr s b->¬Fo b->w'.heap[b]? =w.heap[b]? :=λs b hb KX=>EF.block b (D5 s b hb) KX
 have wA:∀s b,Fr s b->¬Fo b->¬S' b:=by
  intro s b hb KX h'
  rcases kR b h' with h1|h1|h1
  . exact(Bs.ok s).EZ b hb h1
  . exact KX h1
  . have:=D5 s b hb;omega
 have Rj:∀s,s≠r->∀x,Fr s x->¬Fo x:=λs Fl x hx hf=>Fl (Bs.LF s r x hx (Bb x hf))
 obtain⟨tD,F2,lC,xE,HZ,C9⟩:=Ls w' S' oD Fc (by rw[hoa'];simp) hoD (λx hx hr=>(hFc x hx).elim id λl8=>absurd (D5 r x hr) (by omega)) lD (λb hb KX=>gS r b hb KX) LH (λb hb KX=>wA r b hb KX)
 have oZ:tD.er=t:=by
  obtain⟨t',h1,h2⟩:=Gd (d:=δ r) (p:=p) (a:=t) oD (Bs.ok r).KQ (by rw[bF];exact Gq)
  rw[lC]at h1
  obtain rfl:=AAR h1
  exact h2
 have wM:∀s,s≠r->∀x,F2 x->¬Fr s x:=by
  intro s Fl x hx hy
  rcases(HZ x).1 hx with⟨h1,_⟩|h1
  . exact Fl (Bs.LF s r x hy h1)
  . rcases hFc x h1 with h2|h2
    . exact Rj s Fl x hy h2
    . have:=D5 s x hy;omega
 have dK:Hk oD.er=true:=by rw[bF];exact OS
 have F6:C3 δ oD:=S9 dK
 have hrin:∀L,E9 L oD.er=true:=λL=>Mq dK
 generalize hN:Ru ou b k p=N at hK
 have hab:∀q v' bx k' rows',q.length<N->Am (δ r) q=some (.own v' bx k' rows')->∃IL,Am tD q=some (.own v' bx k' IL):=by
  intro q v' bx k' rows' hq hsq
  subst hN
  unfold Ru at hq
  split at hq
  . rename_i b1 k1 JD
    split at hq
    . rename_i e
      obtain⟨rfl,rfl⟩:=e
      refine Me q p (by omega) lC (λ_ v2 bx2 k2 IL h2=> ?_) hsq
      rw[hD]at h2
      cases h2
      cases oD with
      |own hh b2 k2 IL=>
       simp only[EE,AV.own.injEq]at bF
       obtain⟨rfl,rfl,_⟩:=bF
       simp only[KA]at hoa'
       exact⟨IL,by rw[hoa']⟩
      |lf a v=>simp only[Ea]at bF;subst bF;cases hoD with|lf _ _ _ h=>exact h.elim
      |agg=>simp at bF
      |BJ=>simp at bF
    . omega
  . omega
 have Ed:St G w' S' (C1 (EG G N r δ) r tD) (C1 Fr r F2):=
  Bs.zM N r tD F2 lD (λs Fl x hx=>gS s x hx (Rj s Fl x hx)) LH (λs Fl x hx=>wA s x hx (Rj s Fl x hx)) xE wM (K9 p lC (Bs.rt r) (hrin _)) (Le p lC (Bs.al r) F6) hab
 have Vy:(λs=>(C1 (EG G N r δ) r tD s).er)=C1 (FV G N r λs=>(δ s).er) r t:=by
  funext s
  unfold C1
  split
  . exact oZ
  . exact Bs.PZ N r s
 have JR:∀s,(C1 (EG G N r δ) r tD s).Aq=(δ s).Aq:=by
  intro s;unfold C1;split
  . rename_i e;rw[e,C9]
  . exact Bs.K5 N r s
 have hF1:∀s x,C1 Fr r F2 s x->(Fr s x/\¬Fo x)∨(s=r/\Fc x):=by
  intro s x hx
  by_cases Fl:s=r
  . subst Fl;rw[A6]at hx
    exact((HZ x).1 hx).imp id λh=>⟨rfl,h⟩
  . rw[BN _ _ Fl]at hx;exact .inl ⟨hx,Rj s Fl x hx⟩
 have wK:∀s x,C1 Fr r F2 s x->¬Fa x:=by
  intro s x hx hy
  rcases hF1 s x hx with⟨h1,h2⟩|⟨_,h1⟩
  . rcases oM x hy with h3|h3
    . exact h2 h3
    . have:=D5 s x h1;omega
  . exact hdab x hy (hFcB x h1)
 have hOwn1:∀x,A2 (C1 Fr r F2) x->A2 Fr x∨w.heap.size≤x:=by
  rintro x ⟨s,hx⟩
  rcases hF1 s x hx with⟨h1,_⟩|⟨_,h1⟩
  . exact .inl ⟨s,h1⟩
  . exact(hFc x h1).imp (λh=>⟨r,Bb x h⟩) id
 have GN:∀F3:Nat->Nat->Prop,(∀x,A2 F3 x->A2 (C1 Fr r F2) x∨Fa x)->Nx w0 S0 U0 w' S' (A2 F3):=by
  intro F3 hF3
  refine EO.trans ⟨EF.os,EF.tape,EF.output,EF.size,λb hb KX=>EF.block b hb λhf=>KX ⟨r,Bb b hf⟩,LH,λb hb=>(kR b hb).imp id (Or.imp (λh=>⟨r,Bb b h⟩) id),λ_=>KL,λx hx=> ?_⟩
  rcases hF3 x hx with h1|h1
  . exact hOwn1 x h1
  . exact(oM x h1).imp (λh=>⟨r,Bb x h⟩) id
 rw[← Vy]at hK
 have QB:Rd (C1 (EG G N r δ) r tD) a:=λs=>(ha s).trans (JR s).symm
 simp only
 cases d with
 |none=>
  have h0:o.dst=none:=hd
  refine⟨_,⟨S',_,_,?_,?_,?_,rfl,Ed,GN _ (λx hx=>.inl hx),KL⟩,hK⟩
  . rw[h0];exact hn
  . rw[h0];exact Dv
  . rw[h0];exact QB
 |some d=>
  simp only[CM]at hK
  split at hK
  . rename_i τ' LY
    obtain⟨h1,h2,h3,h4⟩:=hd
    rw[← Pn]at LY
    obtain⟨δ',F3,Jr,Iw,QC,Dh⟩:=Ed.wr h2 h3 (λ_ _=>rfl) (λ_ _ _=>rfl) (λ_ h=>h) (λs x hx=>(Ed.ok s).EZ x hx) xJ wK (Vh xJ (by rw[Pn];exact GX)) LY
    refine⟨τ',⟨S',δ',F3,?_,?_,?_,Iw,Jr,GN F3 Dh,KL⟩,hK⟩
    . rw[h1];simpa[Act.put]using hn
    . rw[h1];simpa[Act.put]using Dv
    . intro s
      rw[h1,IE a d.d rD.Aq h4 s,QC s]
      split
      . rfl
      . exact QB s
  . exact hK.elim
end Go.Abs
namespace Go.Abs
variable {w w':World} {S S':Nat->Prop} {G:Gi} {δ:Nat->DV} {Fr:Nat->Nat->Prop} {P:Program}
def KJ (n:Nat) (ops:Array Oper) (g:ABp (Nat×Bool)) (h:ABp (Nat×Bool)):Bool:=
 match g,h with
 |none,none=>true
 |some (j,b),some (s,b')=>(ops[j]?).bind (·.dst)==some s&&b==b'&&decide (s<n)
 |_,_=>false
def Ga (P:Program) (G:Gi) (n:Nat) (ops:Array Oper) (o:Oper) (io:BH):Bool:=
 DX G n o.dst io.dst&&KJ n ops o.guard io.guard&&(match io.op with
  | .call f args m=>JO P o.op f args m
  | .WN f pre x _ post=>JO P o.op f (pre++x::post) 0
  |op=>I5 P o.op op)
theorem Vb {n:Nat} {w0:World} {S0 U0:Nat->Prop} (hG:XY w0 S0 U0) {a:Act} {σ:Sg} (h:Rel G n w0 S0 U0 a w σ) {ops:Array Oper} {o:Oper} {io:BH} (hc:Ga P G n ops o io=true) {K:Sg->Prop} (B8:Dp P G io K σ) (Q:Exit->Act->World->Prop):
 o.wp P a w (λa' w'=>∃σ',Rel G n w0 S0 U0 a' w' σ'/\K σ') Q:=by
 simp only[Ga,AAP]at hc
 obtain⟨⟨h1,_⟩,h3⟩:=hc
 have h0:=h
 obtain⟨S,δ,Fr,hn,Dv,ha,rfl,Bs,EO,CN⟩:=h
 have hd:=EJ h1 hn
 have plain:∀{op:XJ},io.op=op->(match Fk G op io.dst (λs=>(δ s).er)with|some τ=>K τ|none=>False)->I5 P o.op op=true->o.wp P a w (λa' w'=>∃σ',Rel G n w0 S0 U0 a' w' σ'/\K σ') Q:=by
  intro op _ he hk
  split at he
  . rename_i τ heff
    obtain⟨nx,v,w',S',δ',F',hr,hnv,RF,Iw,Jr,hnx'⟩:=yX Bs CN ha hd hk heff
    have key:∃σ',Rel G n w0 S0 U0 (a.put o.dst v) w' σ'/\K σ':=by
     refine⟨τ,⟨S',δ',F',?_,?_,RF,Iw,Jr,EO.trans hnx',hnx'.lt CN⟩,he⟩
     . cases ho:o.dst<;>simp[Act.put,hn]
     . cases ho:o.dst<;>simp[Act.put,Dv]
    unfold Oper.wp
    rw[hr]
    rcases hnv with rfl|⟨rfl,rfl⟩
    . rw[Oper.upon_value];exact key
    . rw[Oper.upon_skip];exact key
  . exact he.elim
 cases HT:io.op with
 |call f args m=>
  rw[HT]at h3
  exact fB hG h0 HT h3 hd B8 Q
 |WN f pre x c post=>
  rw[HT]at h3
  unfold Dp at B8
  rw[HT]at B8
  simp only at B8 h3
  split at B8
  . rename_i r p aZ9 bs hp Xl MY
    split at B8
    . rename_i b kk rows hs
      obtain⟨res,out,ou,I8,hba,OS,GX,hr⟩:=B8
      split at hr
      . rename_i t Gq
        exact pV hG h0 h3 h1 hp Xl MY hs I8 hba OS GX Gq hr Q
      . exact hr.elim
    . exact B8.elim
  . exact B8.elim
 |_=>
  rw[HT]at h3
  unfold Dp at B8
  rw[HT]at B8
  exact plain HT B8 h3
theorem OR {n:Nat} {w0:World} {S0 U0:Nat->Prop} {a:Act} {σ:Sg} (h:Rel G n w0 S0 U0 a w σ) {ops:Array Oper} {o:Oper} {id:ABp Dg} {ig:ABp (Nat×Bool)} (h1:DX G n o.dst id=true) (h2:KJ n ops o.guard ig=true) {A K:Sg->Prop} {next:Act->World->Prop} (Q:Exit->Act->World->Prop)
 (hA:A σ->o.wp P a w next Q) (hS:∀a' σ',Rel G n w0 S0 U0 a' w σ'->K σ'->next a' w) (B8:gdP ig A (W6 id K) σ) {i:Nat} (hi:ops[i]? =some o):wpOp P ops Q i next a w:=by
 unfold wpOp
 rw[hi]
 simp only
 have skip:W6 id K σ->next (a.put o.dst undef) w:=by
  intro hk
  unfold W6 at hk
  obtain⟨S,δ,Fr,hn,Dv,ha,rfl,Bs,EO,CN⟩:=h
  have hd:=EJ h1 hn
  cases LJ:id with
  |none=>
   rw[LJ]at hk hd
   have h0:o.dst=none:=hd
   rw[h0]
   exact hS _ _ ⟨S,δ,Fr,hn,Dv,ha,rfl,Bs,EO,CN⟩ hk
  |some d=>
   rw[LJ]at hk hd
   obtain⟨g1,g2,g3,g4⟩:=hd
   have LY:wr d (DV.lf .un undef).er (λs=>(δ s).er)=some (C1 (JA d.kl d.d λs=>(δ s).er) d.d .un):=by simp[wr]
   obtain⟨δ',F',Jr,Iw,C9,Dh⟩:=Bs.wr (D:=.lf .un undef) (Ff:=λ_=>False) g2 g3 (λ_ _=>rfl) (λ_ _ _=>rfl) (λ_ h=>h) (λs x hx=>(Bs.ok s).EZ x hx) (.lf _ _ _ rfl (λ_ h=>h)) (λ_ _ _ h=>h) (.lf _ _ trivial) LY
   refine hS _ _ ⟨S,δ',F',?_,?_,?_,Iw,Jr,EO.trans (Nx.less λx hx=>(Dh x hx).elim (λh=>h) False.elim),CN⟩ hk
   . rw[g1];simpa[Act.put]using hn
   . rw[g1];simpa[Act.put]using Dv
   . intro s
     rw[g1,IE a d.d undef g4 s,C9 s]
     split
     . rfl
     . exact ha s
 cases ig with
 |none=>
  have hog:o.guard=none:=by
   cases ho:o.guard with
   |none=>rfl
   |some g=>rw[ho]at h2;simp[KJ]at h2
  have hw:Region.wanted o (yielded ops a.tmps)=true:=by simp[Region.wanted,hog]
  rw[AAY hw]
  exact .inl (hA B8)
 |some g=>
  obtain⟨s,want⟩:=g
  simp only[gdP]at B8
  obtain⟨j,hog,hjs,hsn⟩:∃j,o.guard=some (j,want)/\(ops[j]?).bind (·.dst)=some s/\s<n:=by
   cases ho:o.guard with
   |none=>rw[ho]at h2;simp[KJ]at h2
   |some g=>
    obtain⟨j,b⟩:=g
    rw[ho]at h2
    simp only[KJ,AAP,AAd,AAf]at h2
    exact⟨j,by rw[h2.1.2],h2.1.1,h2.2⟩
  have hy:yielded ops a.tmps j=match a.tmps.getD s undef with| .bool b=>some b|_=>none:=by
   obtain⟨S,δ,Fr,hn,_⟩:=h
   have hs:s<a.tmps.size:=by rw[hn];exact hsn
   unfold yielded
   rw[hjs]
   simp only[AAO,Array.getElem?_eq_getElem hs,AAh,Option.getD_some]
   cases a.tmps[s]<;>rfl
  have BP:a.tmps.getD s undef=match σ s with| .sc v=>v| .un=>undef|_=>a.tmps.getD s undef:=by
   obtain⟨S,δ,Fr,hn,Dv,ha,rfl,Bs,_⟩:=h
   simp only
   cases hs:(δ s).er with
   |sc v=>rw[ha s];exact(Bs.leaf hs rfl).2.1.1
   |un=>rw[ha s];exact(Bs.leaf hs rfl).2.1
   |_=>rfl
  split at B8
  . rename_i b hb
    rw[hb]at BP
    simp only at BP
    have hwd:Region.wanted o (yielded ops a.tmps)=(some b==some want):=by simp only[Region.wanted,hog,hy,BP]
    split at B8
    . rename_i hbw
      subst hbw
      rw[AAY (by rw[hwd];simp)]
      exact .inl (hA B8)
    . rename_i hbw
      rw[AAX (by rw[hwd];simp[hbw])]
      exact skip B8
  . rename_i hb
    rw[hb]at BP
    simp only at BP
    have hwd:Region.wanted o (yielded ops a.tmps)=false:=by simp only[Region.wanted,hog,hy,BP];rfl
    rw[AAX (by rw[hwd];simp)]
    exact skip B8
  . exact B8.elim
theorem Hw {n:Nat} {w0:World} {S0 U0:Nat->Prop} (hG:XY w0 S0 U0) {a:Act} {σ:Sg} (h:Rel G n w0 S0 U0 a w σ) {ops:Array Oper} {o:Oper} {io:BH} (hc:Ga P G n ops o io=true) {K:Sg->Prop} (B8:KH P G io K σ) (Q:Exit->Act->World->Prop) {i:Nat} (hi:ops[i]? =some o):
 wpOp P ops Q i (λa' w'=>∃σ',Rel G n w0 S0 U0 a' w' σ'/\K σ') a w:=by
 have S4:=hc
 simp only[Ga,AAP]at S4
 exact OR h S4.1.1 S4.1.2 (A:=Dp P G io K) Q (λhr=>Vb hG h hc hr Q) (λ_ _ r k=>⟨_,r,k⟩) B8 hi
def K1 (P:Program) (G:Gi) (n:Nat) (ops:Array Oper):List Oper->List BH->Bool
 |[],[]=>true
 |o::os,io::DE=>Ga P G n ops o io&&K1 P G n ops os DE
 |_,_=>false
theorem eR {n:Nat} {w0:World} {S0 U0:Nat->Prop} (hG:XY w0 S0 U0) {ops:Array Oper} {K:Sg->Prop} (Q:Exit->Act->World->Prop) (hQ:∀a w σ,Rel G n w0 S0 U0 a w σ->K σ->Q .normal a w) (DE:List BH):
 ∀(k:Nat) {a:Act} {w:World} {σ:Sg},Rel G n w0 S0 U0 a w σ->K1 P G n ops (ops.toList.drop k) DE=true->Mo P G DE K σ->wpOps P ops Q (List.range' k (ops.size-k)) a w:=by
 induction DE with
 |nil=>
  intro k a w σ h hc hr
  have hk:ops.toList.drop k=[]:=by cases hd:ops.toList.drop k with|nil=>rfl|cons o os=>rw[hd]at hc;simp[K1]at hc
  have hlen:ops.size≤k:=by simpa using hk
  rw[show ops.size-k=0 from by omega]
  exact hQ a w σ h hr
 |cons io DE ih=>
  intro k a w σ h hc hr
  cases hd:ops.toList.drop k with
  |nil=>rw[hd]at hc;simp[K1]at hc
  |cons o os=>
   rw[hd]at hc
   simp only[K1,AAP]at hc
   have hk:k<ops.size:=by
    have:(ops.toList.drop k).length=os.length+1:=by rw[hd];rfl
    simp at this;omega
   have ho:ops[k]? =some o:=by
    have:(ops.toList.drop k)[0]? =some o:=by rw[hd];rfl
    simpa using this
   have xF:ops.toList.drop (k+1)=os:=by
    have:(ops.toList.drop k).drop 1=os:=by rw[hd];rfl
    rw[List.drop_drop]at this;exact this
   rw[show ops.size-k=(ops.size-(k+1))+1 from by omega,ABo,wpOps_cons]
   refine wpOp_mono ?_ (Hw hG h hc.1 hr Q ho)
   rintro a' w' ⟨σ',h',hK'⟩
   exact ih (k+1) h' (by rw[xF];exact hc.2) hK'
end Go.Abs
namespace Go.Abs
variable {w w':World} {S S':Nat->Prop} {G:Gi} {δ:Nat->DV} {Fr:Nat->Nat->Prop} {P:Program}
theorem Nk (d:Nat) (t e:TypeId) (a:ABp Addr) (n c:Nat) (h:P.underlying t=some (.slice e)):(Op.equalIn (d+1) t (.slice a n c) (.slice none 0 0)).run P w= .ok a.isNone w:=by
 have hu:(underlying t).run P w= .ok (.slice e) w:=run_underlying h w
 cases a<;>simp[Op.equalIn,hu]
theorem cM (t e:TypeId) (a:ABp Addr) (n c:Nat) (h:P.underlying t=some (.slice e)):(binOp .eql t (.slice a n c) (.slice none 0 0)).run P w= .ok (.bool a.isNone) w:=by
 simp only[binOp]
 have:(Op.equal t (.slice a n c) (.slice none 0 0)).run P w= .ok a.isNone w:=Nk 9999 t e a n c h
 simp[this]
theorem cO (t e:TypeId) (a:ABp Addr) (n c:Nat) (h:P.underlying t=some (.slice e)):(binOp .neq t (.slice a n c) (.slice none 0 0)).run P w= .ok (.bool (!a.isNone)) w:=by
 simp only[binOp]
 have:(Op.equal t (.slice a n c) (.slice none 0 0)).run P w= .ok a.isNone w:=Nk 9999 t e a n c h
 simp[this]
def fN (P:Program) (o:Op) (neg:Bool) (y:Ar):Bool:=match o with
 | .binOp op t x (.const (.slice none 0 0)) _=>(match op with| .eql=> !neg| .neq=>neg|_=>false)&&(match P.underlying t with|some (.slice _)=>true|_=>false)&&Bt x y
 |_=>false
theorem gZ {n:Nat} {w0:World} {S0 U0:Nat->Prop} {a:Act} {σ:Sg} (h:Rel G n w0 S0 U0 a w σ) {o:Oper} {d:Dg} {neg:Bool} {x:Ar} {K:Sg->Prop} {rows:List (List AV)} {hv:AV} {pl:ABp (Nat×List Step)} (hc:fN P o.op neg x=true) (Zr:DX G n o.dst (some d)=true)
 (hh:hd σ x=some (hv,pl)) (Jm:rowsOf hv=some rows) (hK:∀b:Bool,(b=true->rows=[])->CM (some d) (.sc (.bool (if neg=true then !b else b))) K σ) (Q:Exit->Act->World->Prop):
 o.wp P a w (λa' w'=>∃σ',Rel G n w0 S0 U0 a' w' σ'/\K σ') Q:=by
 obtain⟨S,δ,Fr,hn,Dv,ha,rfl,Bs,EO,CN⟩:=h
 unfold fN at hc
 split at hc
 . rename_i op t x' u ho
   simp only[AAP]at hc
   obtain⟨⟨h1,h2⟩,h3⟩:=hc
   obtain⟨hx,ex⟩:=Ah h3 ha
   obtain⟨e,he⟩:∃e,P.underlying t=some (.slice e):=by
    split at h2
    . exact⟨_,‹_›⟩
    . cases h2
   -- the slice's own value
   obtain⟨ad,l,c,BP,w9⟩:∃ad l c,CQ δ x= .slice ad l c/\(ad.isNone=true->rows=[]):=by
    obtain⟨g1,g2⟩:=Bs.kW hx hh
    cases hv with
    |own b k rows'=>
     cases b with
     |true=>simp[rowsOf]at Jm
     |false=>
      simp only[rowsOf,AAN]at Jm
      subst Jm
      obtain⟨Aj,F,e1,CH,_⟩:=g1 _ _ _ rfl
      generalize CQ δ x=v at CH
      cases CH with
      |nil=>exact⟨none,0,0,rfl,λ_=>by rw[← e1];rfl⟩
      |own _ _ _ b c arr E Fs _ hb hk De Ko hvv hr LJ BP Jb hF=>exact⟨_,_,_,by simp[I7];exact⟨rfl,rfl,rfl⟩,by simp⟩
    |sl e' k rows'=>
     simp only[rowsOf,AAN]at Jm
     subst Jm
     obtain⟨s,hs1,sG⟩:=Bs.hdSl hx hh
     have Mk:=g2 _ _ _ rfl ⟨s,hs1,sG⟩
     generalize CQ δ x=v at Mk
     cases Mk with
     |nil=>exact⟨_,_,_,rfl,λ_=>rfl⟩
     |sl=>exact⟨_,_,_,rfl,by simp⟩
    |_=>simp[rowsOf]at Jm
   have hb:(execOp a.eval o).run P w= .ok (.value (.bool (if neg=true then !ad.isNone else ad.isNone))) w:=by
    have hg:∀op,(eqGuard op t x' (.const (.slice none 0 0)) (.slice ad l c) (.slice none 0 0)).run P w= .ok () w:=by intro op;cases op<;>simp[eqGuard]
    have Ku:a.eval (.const (.slice none 0 0))= .slice none 0 0:=rfl
    cases op<;>simp only[AAW]at h1
    . have:neg=false:=by simpa using h1
      subst this
      simp only[execOp,ho,ex,BP,Ku,Sem.run_bind,hg,Result.andThen_ok,cM t e ad l c he,Sem.run_pure,AAW,AAe]
    . subst h1
      simp only[execOp,ho,ex,BP,Ku,Sem.run_bind,hg,Result.andThen_ok,cO t e ad l c he,Sem.run_pure,AAs]
   have hk:=hK ad.isNone w9
   have LJ:=EJ Zr hn
   unfold Oper.wp
   rw[hb,Oper.upon_value]
   exact Ky (S2:=S) (D:=.lf (.sc (.bool (if neg=true then !ad.isNone else ad.isNone))) (.bool (if neg=true then !ad.isNone else ad.isNone))) (FD:=λ_=>False) Bs hn Dv ha LJ (by simp) (λ_ _=>rfl) CN (λ_ h=>h) (λ_ h=>.inl h) CN (.lf _ _ _ ⟨rfl,rfl⟩ (λ_ h=>h)) (λ_ h=>h.elim) (.lf _ _ trivial) EO rfl rfl rfl (AAy _) hk
 . cases hc
theorem fE (h:St G w S δ Fr) (rs:List (Nat×List Step)):∀{vs:List Value} {bs:List AV},vs.length=rs.length->(∀(i:Nat) r p u,rs[i]? =some (r,p)->vs[i]? =some u->∃bx k rows,Am (δ r) p=some (.own u bx k rows))->nJ (λs=>(δ s).er) rs=some bs->
 ∃Ds:List DV,Ds.map DV.er=bs/\Ds.map DV.Aq=vs/\∀D∈Ds,Ok w (λx=>S x∨A2 Fr x) D (λ_=>False):=by
 induction rs with
 |nil=>
  intro vs bs hl _ hr
  cases vs with
  |nil=>simp only[nJ,AAN]at hr;subst hr;exact⟨[],rfl,rfl,by simp⟩
  |cons=>simp at hl
 |cons x rs ih=>
  obtain⟨r,p⟩:=x
  intro vs bs hl hv hr
  cases vs with
  |nil=>simp at hl
  |cons v vs=>
   simp only[nJ]at hr
   split at hr
   . rename_i a aZ9 h1 h2
     simp only[AAN]at hr
     subst hr
     obtain⟨bx,k,rows,hs⟩:=hv 0 r p v rfl rfl
     obtain⟨D,k1,k2,k3⟩:=JC h (d:=.lf (.al r p) v) (F:=λ_=>False) (.lf _ _ _ trivial (λ_ h=>h)) (λ_ h=>h.elim) (.lf _ _ ⟨bx,k,rows,hs⟩) (by simpa using h1)
     obtain⟨Ds,m1,m2,m3⟩:=ih (by simpa using hl) (λi r p u hi hu=>hv (i+1) r p u (by simpa using hi) (by simpa using hu)) h2
     refine⟨D::Ds,by simp[k1,m1],by simpa[m2]using k2,?_⟩
     intro e he
     rcases AAp.1 he with rfl|he
     . exact k3
     . exact m3 e he
   . cases hr
def fH (P:Program) (o:Op) (f:Nat) (y:Ar) (ys:List Ar):Bool:=match o with
 | .call c=>(match c.callee with
  | .value x=>Bt x y&&F8 c.args.toList ys&&(match P.funcs[f]? with|some fn=>fn.body.isSome&&fn.name != "runtime.NumGoroutine" |none=>false)
  |_=>false)
 |_=>false
theorem run_clo {a:Act} {o:Oper} {c:Call} {x:Operand} {f:Nat} {fn:Func} {vs:List Value} (ho:o.op= .call c) (hc:c.callee= .value x) (hx:a.eval x= .func (.func f) #[] vs.toArray) (hf:P.funcs[f]? =some fn) (hb:fn.body.isSome=true) (hn:(fn.name != "runtime.NumGoroutine")=true):
 (execOp a.eval o).run P w= .ok (.enter f (c.args.toList.map a.eval++vs).toArray) w:=by
 have hbn:fn.body.isNone=false:=by cases h:fn.body<;>simp_all
 have hnm:(fn.name== "runtime.NumGoroutine")=false:=by simpa using hn
 have Pm:c.args.map a.eval=(c.args.toList.map a.eval).toArray:=by apply ABT;simp
 simp only[execOp,ho,resolve,hc,hx,Deferred.ofValue,Sem.run_bind,Sem.run_pure,Result.andThen_ok,invoke,callFunc,Pm]
 have hp:(program).run P w= .ok P w:=rfl
 rw[hp]
 simp only[Result.andThen_ok,hf,hnm,hbn,AAW,AAe,Sem.run_pure]
 simp
theorem nP {n:Nat} {w0:World} {S0 U0:Nat->Prop} (hG:XY w0 S0 U0) {a:Act} {σ:Sg} (h:Rel G n w0 S0 U0 a w σ) {o:Oper} {d:ABp Dg} {f:Nat} {x:Ar} {args:List Ar} {K:Sg->Prop} {aZ9:List AV} {res v:AV}
 (OT:fH P o.op f x args=true) (Zr:DX G n o.dst d=true) (JI:uW σ f x args=some aZ9) (I8:Says P f aZ9 res) (Ey:Q0 0 res=some v) (hK:CM d v K σ) (Q:Exit->Act->World->Prop):
 o.wp P a w (λa' w'=>∃σ',Rel G n w0 S0 U0 a' w' σ'/\K σ') Q:=by
 obtain⟨S,δ,Fr,hn,Dv,ha,rfl,Bs,EO,CN⟩:=h
 have hd:=EJ Zr hn
 have MX:=hG.now EO
 unfold fH at OT
 split at OT
 . rename_i c ho
   split at OT
   . rename_i x0 Kp
     simp only[AAP]at OT
     obtain⟨⟨h1,h2⟩,h3⟩:=OT
     split at h3
     . rename_i fn hf
       simp only[AAP]at h3
       obtain⟨hx,ex⟩:=Ah h1 ha
       unfold uW at JI
       split at JI
       . rename_i f' rs GX
         split at JI
         . rename_i e
           subst e
           split at JI
           . rename_i as1 bs hr1 hr2
             simp only[AAN]at JI
             subst JI
             obtain⟨vs,BP,hvl,hvs⟩:Lp δ (.cl f' rs) (CQ δ x):=by
              cases x with
              |t s=>exact(Bs.leaf GX rfl).2.2
              |c c0=>
               obtain⟨D0,gL⟩:=hx
               simp only[ar]at GX
               subst GX
               simp[IU]at gL
             obtain⟨jR,p1,p2,p3⟩:=SJ Bs ha args h2 hr1
             obtain⟨Ds2,q1,q2,q3⟩:=fE Bs rs hvl hvs hr2
             have Fp:=I8 w (λx=>S x∨A2 Fr x) (jR++Ds2) (λ_=>False) (MX.mono λ_ h=>.inl h) (by simp[p1,q1]) (A9.2 (B7 λD hD=>(AAj.1 hD).elim (p3 D) (q3 D))) (by
              rintro b (hb|⟨s,hs⟩)
              . exact CN b hb
              . exact(Bs.ok s).lt b hs)
             have Vv:(List.map DV.Aq (jR++Ds2))=c.args.toList.map a.eval++vs:=by simp[p2,q2]
             simp only[Q0]at Ey
             split at Ey
             . rename_i Et
               simp only[AAN]at Ey
               have Zs:=Vo Et
               unfold Oper.wp
               rw[run_clo ho Kp (by rw[ex,BP]) hf h3.1 h3.2,Oper.upon_enter,← Vv]
               refine Fp.mono ?_
               rintro e w' ⟨r,os,S',F',rfl,Pn,xA,r7,CH,EF,LH,kR,KL,Vt⟩
               obtain⟨Fa,Fb,ZG,_,_,Pl⟩:=A9.1 CH
               have wT:∀x,Fa x->w.heap.size≤x:=λx hx=>(Vt x ((Pl x).2 (.inl hx))).resolve_left id
               have OW:Ok w' S r Fa:=RY ZG (by rw[Pn];exact Zs) (λx hx hs=>by have:=CN x hs;have:=wT x hx;omega)
               simp only
               exact Ky (S2:=S) Bs hn Dv ha hd (Pn.trans Ey) (λb hb=>EF.block b hb id) CN (λ_ h=>h) (λ_ h=>.inl h) (λb hb=>ABM (CN b hb) EF.size) OW wT (RX ZG (by rw[Pn];exact Zs)) EO EF.os EF.tape EF.output EF.size hK
             . cases Ey
           . cases JI
         . cases JI
       . cases JI
     . cases h3
   . cases OT
 . cases OT
def fG (P:Program) (o:Op) (n s:Nat):Bool:=match o with
 | .box t (.tmp s')=>s==s'&&Fu P t==some n
 |_=>false
theorem nI {n:Nat} {w0:World} {S0 U0:Nat->Prop} {a:Act} {σ:Sg} (h:Rel G n w0 S0 U0 a w σ) {o:Oper} {d:Dg} {m s:Nat} {K:Sg->Prop} {cs:List AV} (hc:fG P o.op m s=true) (Zr:DX G n o.dst (some d)=true)
 (hs:σ s= .agg cs) (hl:cs.length=m) (hK:∀us:List Value,us.length=m->CM (some d) (.vb s 0 us) K σ) (Q:Exit->Act->World->Prop):
 o.wp P a w (λa' w'=>∃σ',Rel G n w0 S0 U0 a' w' σ'/\K σ') Q:=by
 obtain⟨S,δ,Fr,hn,Dv,ha,rfl,Bs,EO,CN⟩:=h
 have hd:=EJ Zr hn
 unfold fG at hc
 split at hc
 . rename_i t s' ho
   simp only[AAP,AAd]at hc
   obtain⟨rfl,_⟩:=hc
   obtain⟨ds,Ri,hm⟩:=PQ (Bs.ok s) hs
   have C9:(δ s).Aq= .agg (ds.map DV.Aq).toArray:=by rw[Ri];simp
   have Ku:a.eval (.tmp s)= .agg (ds.map DV.Aq).toArray:=by simp only[Act.eval];rw[ha s,C9]
   have hlen:(ds.map DV.Aq).length=m:=by rw[← hl,← hm];simp
   have hr:(execOp a.eval o).run P w= .ok (.value (.pointer (some ⟨w.heap.size,0,none⟩))) (w.alloc (.cells (ds.map DV.Aq).toArray t)):=by
    simp only[execOp,ho,Ku,Sem.run_bind,lP,Result.andThen_ok,Sem.run_pure,Value.cells]
   unfold Oper.wp
   rw[hr,Oper.upon_value]
   have Po:(w.alloc (.cells (ds.map DV.Aq).toArray t)).heap.size=w.heap.size+1:=by
    show(w.heap.push _).size=_
    exact Array.size_push _
   have hlt2:∀b,(S b∨b=w.heap.size)->b<(w.alloc (.cells (ds.map DV.Aq).toArray t)).heap.size:=by
    intro b hb
    rw[Po]
    rcases hb with hb|hb
    . have:=CN b hb;omega
    . omega
   have:=Ky (w':=w.alloc (.cells (ds.map DV.Aq).toArray t)) (S2:=λx=>S x∨x=w.heap.size) (D:=.lf (.vb s 0 (ds.map DV.Aq)) (.pointer (some ⟨w.heap.size,0,none⟩))) (FD:=λ_=>False) (v:=.vb s 0 (ds.map DV.Aq)) (K:=K) Bs hn Dv ha hd (by simp)
    (λb hb=>alloc_old w _ b hb) CN (λ_ h=>.inl h) (λb hb=>hb.imp id (λe=>by omega)) hlt2
    (.lf _ _ _ ⟨w.heap.size,rfl,.inr rfl,λj u hj=>by simp only[World.cell?,YB];simpa using hj⟩ (λ_ h=>h)) (λ_ h=>h.elim) (.lf _ _ C9) EO rfl rfl rfl (by omega) (hK _ hlen)
   simpa using this
 . cases hc
def fL (P:Program) (o:Op) (g n:Nat):Bool:=match o with
 | .load t (.global g')=>g==g'&&Fu P t==some n&&I1 P t==some true
 |_=>false
theorem oL {n:Nat} {w0:World} {S0 U0:Nat->Prop} (hG:XY w0 S0 U0) {a:Act} {σ:Sg} (h:Rel G n w0 S0 U0 a w σ) {o:Oper} {d:Dg} {g m:Nat} {cs:List Value} {K:Sg->Prop} (hc:fL P o.op g m=true) (Zr:DX G n o.dst (some d)=true)
 (hg:aW g m=some cs) (hK:CM (some d) (.agg (cs.map .sc)) K σ) (Q:Exit->Act->World->Prop):
 o.wp P a w (λa' w'=>∃σ',Rel G n w0 S0 U0 a' w' σ'/\K σ') Q:=by
 obtain⟨S,δ,Fr,hn,Dv,ha,rfl,Bs,EO,CN⟩:=h
 have MX:=hG.now EO
 have hd:=EJ Zr hn
 unfold aW at hg
 split at hg
 . rename_i x hx
   split at hg
   . rename_i Qg
     obtain rfl:=AAR hg
     have hmem:=ABb hx
     have hxg:x.1=g:=by have:=List.find?_some hx;simpa using this
     obtain⟨_,arr,E,fz,hb,BR⟩:=MX x hmem
     unfold fL at hc
     split at hc
     . rename_i t g' ho
       simp only[AAP,AAd]at hc
       obtain⟨⟨rfl,h2⟩,h3⟩:=hc
       have B8:=KU (P:=P) (w:=w) (b:=g) (off:=0) (vs:=x.2) h2 h3 (.inl rfl) Qg.1 (by
        intro j v hj
        have:=BR j v hj
        simp only[World.cell?]
        rw[← hxg,hb]
        simpa using this)
       simp only[AAs]at B8
       have hr:(execOp a.eval o).run P w= .ok (.value (.agg x.2.toArray)) w:=by
        simp only[execOp,ho,Act.eval,Instr.loadAt,Instr.sureAddr,Sem.run_bind,Sem.run_pure,Result.andThen_ok,B8]
       unfold Oper.wp
       rw[hr,Oper.upon_value]
       have MV:∀D∈x.2.map (λv=>DV.lf (.sc v) v),Ok w S D (λ_=>False)/\C3 δ D:=by
        intro D hD
        obtain⟨v,hv,rfl⟩:=ABZ.1 hD
        exact⟨.lf _ _ _ ⟨rfl,AAU.1 Qg.2 v hv⟩ (λ_ h=>h),.lf _ _ trivial⟩
       have:=Ky (S2:=S) (D:=.agg (x.2.map λv=>DV.lf (.sc v) v)) (FD:=λ_=>False) (v:=.agg (x.2.map .sc)) (K:=K) Bs hn Dv ha hd (by simp[Function.comp_def]) (λ_ _=>rfl) CN (λ_ h=>h) (λ_ h=>.inl h) CN (Be.2 (B7 λD hD=>(MV D hD).1)) (λ_ h=>h.elim) (.agg _ λi D hD=>(MV D (AAb hD)).2) EO rfl rfl rfl (AAy _) hK
       simpa[Function.comp_def]using this
     . cases hc
   . cases hg
 . cases hg
end Go.Abs
namespace Go.Abs
variable {G:Gi} {A:Nat->Prop} {σ σ' τ τ':Sg}
structure Ag (G:Gi) (A:Nat->Prop) (σ σ':Sg):Prop where
 eq:∀s,A s->σ' s=σ s
 ri:∀s,A s->E9 (G.GJ s) (σ s)=true
structure Mv (G:Gi) (A:Nat->Prop) (σ σ' τ τ':Sg):Prop where
 ag:Ag G A τ τ'
 off:∀s,¬A s->τ' s=σ' s/\τ s=σ s
structure Cl (G:Gi) (A:Nat->Prop) (s:Nat):Prop where
 own:A s
 NW:∀x∈G.NW s,A x
 rt:∀r∈G.GJ s,A r/\∀x∈G.NW r,A x
def jO (G:Gi) (A:Nat->Prop):Ar->Prop
 | .t s=>Cl G A s
 | .c a=>E9 [] a=true
theorem Mv.refl (h:Ag G A σ σ'):Mv G A σ σ' σ σ':=⟨h,λ_ _=>⟨rfl,rfl⟩⟩
theorem Mv.trans {υ υ':Sg} (h:Mv G A σ σ' τ τ') (h':Mv G A τ τ' υ υ'):Mv G A σ σ' υ υ':=
 ⟨h'.ag,λs hs=>⟨(h'.off s hs).1.trans (h.off s hs).1,(h'.off s hs).2.trans (h.off s hs).2⟩⟩
theorem NH (L:List Nat) (d:Nat):∀(a:AV),E9 L a=true->E9 L (C8 d a)=true
 | .al r p,h=>by
  rw[WE];split
  . simp
  . exact h
 | .KG r p i j k,h=>by
  rw[TO];split
  . simp
  . exact h
 | .agg cs,h=>by
  rw[JX,AAU]at h
  rw[Yd,JX,ABG,AAU]
  intro c hc
  exact NH L d c (h c hc)
 | .BJ cs,h=>by
  rw[NI,AAU]at h
  rw[Ye,NI,ABG,AAU]
  intro c hc
  exact NH L d c (h c hc)
 | .sc _,_=>by simp
 | .sl ..,_=>by simp
 | .own ..,_=>by simp
 | .fp _,_=>by simp
 | .dead,_=>by simp
 | .un,_=>by simp
 | .fZ ..,_=>by simp[C8,E9]
 | .vb s o us,h=>by
  rw[WG];split
  . simp
  . exact h
 | .cl f rs,h=>by
  rw[Rp];split
  . exact h
  . simp
theorem VF {L:List Nat} (p:List Step):∀{t x t':AV},put t p x=some t'->E9 L t=true->E9 L x=true->E9 L t'=true:=by
 induction p with
 |nil=>
  intro t x t' h _ hx
  have:t'=x:=by cases t<;>simp[put]at h<;>exact h.symm
  subst this;exact hx
 |cons s p ih=>
  obtain⟨i,j,k⟩:=s
  intro t x t' h ht hx
  cases t with
  |own b k rows=>
   simp only[put]at h
   split at h
   . split at h
     . split at h
       . cases h;simp
       . cases h
     . cases h
   . cases h
  |agg cs=>
   simp only[put]at h
   split at h
   . rename_i c hc
     split at h
     . rename_i c' S4
       cases h
       rw[JX,AAU]at ht ⊢
       intro e he
       rcases AAv he with he|rfl
       . exact ht e he
       . exact ih S4 (ht c (AAb hc)) hx
     . cases h
   . cases h
  |BJ cs=>
   simp only[put]at h
   split at h
   . rename_i c hc
     split at h
     . rename_i c' S4
       cases h
       rw[NI,AAU]at ht ⊢
       intro e he
       rcases AAv he with he|rfl
       . exact ht e he
       . exact ih S4 (ht c (AAb hc)) hx
     . cases h
   . cases h
  |_=>simp[put]at h
theorem Ag.kup (h:Ag G A σ σ') {r:Nat} {t:AV} (hr:A r) (ha:∀x∈G.NW r,A x) (ht:E9 (G.GJ r) t=true):Mv G A σ σ' (C1 (I9 G r σ) r t) (C1 (I9 G r σ') r t):=by
 refine⟨⟨λs hs=> ?_,λs hs=> ?_⟩,λs hs=> ?_⟩
 . simp only[C1,I9,h.eq s hs]
 . simp only[C1,I9]
   split
   . rename_i e;subst e;exact ht
   . split
     . exact NH _ _ _ (h.ri s hs)
     . exact h.ri s hs
 . have h1:s≠r:=λe=>hs (e▸hr)
   have h2:s∉G.NW r:=λe=>hs (ha s e)
   simp[C1,I9,h1,h2]
theorem Ag.up (h:Ag G A σ σ') {r:Nat} {t:AV} (hr:A r) (ht:E9 (G.GJ r) t=true):Mv G A σ σ' (C1 σ r t) (C1 σ' r t):=by
 refine⟨⟨λs hs=> ?_,λs hs=> ?_⟩,λs hs=> ?_⟩
 . simp only[C1,h.eq s hs]
 . simp only[C1]
   split
   . rename_i e;subst e;exact ht
   . exact h.ri s hs
 . have h1:s≠r:=λe=>hs (e▸hr)
   simp[C1,h1]
theorem Ag.kupn (h:Ag G A σ σ') (n:Nat) {r:Nat} {t:AV} (hr:A r) (ha:∀x∈G.NW r,A x) (ht:E9 (G.GJ r) t=true):Mv G A σ σ' (C1 (FV G n r σ) r t) (C1 (FV G n r σ') r t):=by
 refine⟨⟨λs hs=> ?_,λs hs=> ?_⟩,λs hs=> ?_⟩
 . simp only[C1,FV,h.eq s hs]
 . simp only[C1,FV]
   split
   . rename_i e;subst e;exact ht
   . split
     . exact PY _ _ _ _ (h.ri s hs)
     . exact h.ri s hs
 . have h1:s≠r:=λe=>hs (e▸hr)
   have h2:s∉G.NW r:=λe=>hs (ha s e)
   simp[C1,FV,h1,h2]
theorem VH (h:Ag G A σ σ') {r:Nat} {p:List Step} {v:AV} (hr:A r) (ha:∀x∈G.NW r,A x) (ht:Zh G r p σ=some (v,τ)):∃τ',Zh G r p σ'=some (v,τ')/\Mv G A σ σ' τ τ':=by
 unfold Zh at ht ⊢
 rw[h.eq r hr]
 split at ht
 . rename_i b k rows hs
   split at ht
   . rename_i t hp
     cases ht
     exact⟨_,rfl,h.kupn _ hr ha (VF p hp (h.ri r hr) (by simp))⟩
   . cases ht
 . cases ht
theorem RZ (h:Ag G A σ σ') {r:Nat} {p:List Step} {v:AV} (hr:A r) (ha:∀x∈G.NW r,A x) (ht:Pk G r p σ=some (v,τ)):∃τ',Pk G r p σ'=some (v,τ')/\Mv G A σ σ' τ τ':=by
 unfold Pk at ht ⊢
 rw[h.eq r hr]
 split at ht
 . rename_i b k rows hs
   split at ht
   . rename_i t hp
     cases ht
     refine⟨_,rfl,h.kup hr ha (VF p hp (h.ri r hr) ?_)⟩
     cases b<;>simp
   . cases ht
 . cases ht
theorem tkL_loc (cs:List AV):∀{σ σ' τ:Sg} {l:List AV},Ag G A σ σ'->(∀r p,AV.al r p∈cs->A r/\∀x∈G.NW r,A x)->dU G cs σ=some (l,τ)->∃τ',dU G cs σ'=some (l,τ')/\Mv G A σ σ' τ τ':=by
 induction cs with
 |nil=>intro σ σ' τ l h _ ht;simp only[dU,AAN,AAc]at ht ⊢;obtain⟨rfl,rfl⟩:=ht;exact⟨σ',⟨rfl,rfl⟩,.refl h⟩
 |cons a cs ih=>
  intro σ σ' τ l h hc ht
  have S4:∀r p,AV.al r p∈cs->A r/\∀x∈G.NW r,A x:=λr p hm=>hc r p (by simp[hm])
  have plain:(∀r p,a≠ .al r p)->∃τ',dU G (a::cs) σ'=some (l,τ')/\Mv G A σ σ' τ τ':=by
   intro hna
   have e:∀σ,dU G (a::cs) σ=if Ex a=true then(match dU G cs σ with|some (l,τ)=>some (a::l,τ)|none=>none)else none:=by
    intro σ;cases a<;>first|rfl|exact absurd rfl (hna _ _)
   rw[e]at ht ⊢
   split at ht
   . rename_i JI
     rw[AAY JI]
     split at ht
     . rename_i l' τ1 h1
       cases ht
       obtain⟨τ',g1,g2⟩:=ih h S4 h1
       exact⟨τ',by rw[g1],g2⟩
     . cases ht
   . cases ht
  cases a with
  |al r p=>
   obtain⟨hr,ha⟩:=hc r p (by simp)
   simp only[dU]at ht ⊢
   split at ht
   . rename_i n τ1 h1
     obtain⟨Tg,g1,g2⟩:=VH h hr ha h1
     rw[g1]
     simp only
     split at ht
     . rename_i l' τ2 h2
       cases ht
       obtain⟨qX,g3,g4⟩:=ih g2.ag S4 h2
       exact⟨qX,by rw[g3],g2.trans g4⟩
     . cases ht
   . cases ht
  |_=>exact plain (by simp)
theorem O9 (h:Ag G A σ σ') {x:Ar} {v:AV} (hx:jO G A x) (ht:tk G x σ=some (v,τ)):∃τ',tk G x σ'=some (v,τ')/\Mv G A σ σ' τ τ':=by
 cases x with
 |c a=>simp only[tk,AAN,AAc]at ht ⊢;obtain⟨rfl,rfl⟩:=ht;exact⟨σ',⟨rfl,rfl⟩,.refl h⟩
 |t s=>
  have GX:Cl G A s:=hx
  have hs:=h.eq s GX.own
  have IW:=h.ri s GX.own
  simp only[tk]at ht ⊢
  rw[hs]
  cases hv:σ s with
  |al r p=>
   rw[hv]at ht IW
   simp only[JY,AAu]at IW
   obtain⟨h1,h2⟩:=GX.rt r IW
   exact VH h h1 h2 ht
  |own b k rows=>
   rw[hv]at ht
   cases ht
   exact⟨_,rfl,h.kup GX.own GX.NW (by simp)⟩
  |agg cs=>
   rw[hv]at ht IW
   simp only at ht ⊢
   split at ht
   . rename_i hp
     cases ht
     rw[AAY hp]
     exact⟨σ',rfl,.refl h⟩
   . rename_i hp
     rw[AAX hp]
     split at ht
     . rename_i l τ1 h1
       cases ht
       have hm:=h.kup (t:=.dead) GX.own GX.NW (by simp)
       obtain⟨τ',g1,g2⟩:=tkL_loc cs hm.ag (by
        intro r p hrp
        rw[JX,AAU]at IW
        have:=IW _ hrp
        simp only[JY,AAu]at this
        exact GX.rt r this) h1
       exact⟨τ',by rw[g1],hm.trans g2⟩
     . cases ht
  |sc=>rw[hv]at ht;cases ht;exact⟨σ',rfl,.refl h⟩
  |sl=>rw[hv]at ht;cases ht;exact⟨σ',rfl,.refl h⟩
  |KG=>rw[hv]at ht;cases ht;exact⟨σ',rfl,.refl h⟩
  |fp=>rw[hv]at ht;cases ht;exact⟨σ',rfl,.refl h⟩
  |_=>rw[hv]at ht;cases ht
theorem jF (xs:List Ar):∀{σ σ' τ:Sg} {l:List AV},Ag G A σ σ'->(∀x∈xs,jO G A x)->MG G xs σ=some (l,τ)->∃τ',MG G xs σ'=some (l,τ')/\Mv G A σ σ' τ τ':=by
 induction xs with
 |nil=>intro σ σ' τ l h _ ht;simp only[MG,AAN,AAc]at ht ⊢;obtain⟨rfl,rfl⟩:=ht;exact⟨σ',⟨rfl,rfl⟩,.refl h⟩
 |cons x xs ih=>
  intro σ σ' τ l h hx ht
  simp only[MG]at ht ⊢
  split at ht
  . rename_i a τ1 h1
    obtain⟨Tg,g1,g2⟩:=O9 h (hx x (by simp)) h1
    rw[g1]
    simp only
    split at ht
    . rename_i l' τ2 h2
      cases ht
      obtain⟨qX,g3,g4⟩:=ih g2.ag (λy hy=>hx y (by simp[hy])) h2
      exact⟨qX,by rw[g3],g2.trans g4⟩
    . cases ht
  . cases ht
theorem qQ (xs:List Ar):∀{σ σ' τ:Sg} {l:List AV},Ag G A σ σ'->(∀x∈xs,jO G A x)->QO G xs σ=some (l,τ)->∃τ',QO G xs σ'=some (l,τ')/\Mv G A σ σ' τ τ':=by
 induction xs with
 |nil=>intro σ σ' τ l h _ ht;simp only[QO,AAN,AAc]at ht ⊢;obtain⟨rfl,rfl⟩:=ht;exact⟨σ',⟨rfl,rfl⟩,.refl h⟩
 |cons x xs ih=>
  intro σ σ' τ l h hx ht
  simp only[QO]at ht ⊢
  split at ht
  . rename_i a τ1 h1
    obtain⟨Tg,g1,g2⟩:=O9 h (hx x (by simp)) h1
    rw[g1]
    simp only
    split at ht
    . rename_i l' τ2 h2
      cases ht
      obtain⟨qX,g3,g4⟩:=ih g2.ag (λy hy=>hx y (by simp[hy])) h2
      exact⟨qX,by rw[g3],g2.trans g4⟩
    . cases ht
  . cases ht
theorem uQ (ps:List (Nat×Nat×Ar)):∀{σ σ' τ:Sg} {cs l:List AV},Ag G A σ σ'->(∀p∈ps,jO G A p.2.2)->UL G ps cs σ=some (l,τ)->∃τ',UL G ps cs σ'=some (l,τ')/\Mv G A σ σ' τ τ':=by
 induction ps with
 |nil=>intro σ σ' τ cs l h _ ht;simp only[UL,AAN,AAc]at ht ⊢;obtain⟨rfl,rfl⟩:=ht;exact⟨σ',⟨rfl,rfl⟩,.refl h⟩
 |cons p ps ih=>
  obtain⟨off,n,x⟩:=p
  intro σ σ' τ cs l h hx ht
  simp only[UL]at ht ⊢
  split at ht
  . rename_i a τ1 h1
    obtain⟨Tg,g1,g2⟩:=O9 h (hx _ (ABL ..)) h1
    rw[g1]
    simp only
    split at ht
    . rename_i hc
      rw[AAY hc]
      obtain⟨qX,g3,g4⟩:=ih g2.ag (λy hy=>hx y (by simp[hy])) ht
      exact⟨qX,g3,g2.trans g4⟩
    . cases ht
  . cases ht
theorem uS (k:Nat) (ps:List (Nat×Ar)):∀{σ σ' τ:Sg} {cs l:List (List AV)},Ag G A σ σ'->(∀p∈ps,jO G A p.2)->UM G k ps cs σ=some (l,τ)->∃τ',UM G k ps cs σ'=some (l,τ')/\Mv G A σ σ' τ τ':=by
 induction ps with
 |nil=>intro σ σ' τ cs l h _ ht;simp only[UM,AAN,AAc]at ht ⊢;obtain⟨rfl,rfl⟩:=ht;exact⟨σ',⟨rfl,rfl⟩,.refl h⟩
 |cons p ps ih=>
  obtain⟨i,x⟩:=p
  intro σ σ' τ cs l h hx ht
  simp only[UM]at ht ⊢
  split at ht
  . rename_i a τ1 h1
    obtain⟨Tg,g1,g2⟩:=O9 h (hx _ (ABL ..)) h1
    rw[g1]
    simp only
    split at ht
    . rename_i hc
      rw[AAY hc]
      obtain⟨qX,g3,g4⟩:=ih g2.ag (λy hy=>hx y (by simp[hy])) ht
      exact⟨qX,g3,g2.trans g4⟩
    . cases ht
  . cases ht
theorem tJ {k:Nat} {y:Ar} {rows:List (List AV)} (h:Ag G A σ σ') (hy:jO G A y) (ht:VY G k y σ=some (rows,τ)):∃τ',VY G k y σ'=some (rows,τ')/\Mv G A σ σ' τ τ':=by
 cases y with
 |c a=>
  simp only[VY]at ht ⊢
  split at ht
  . cases ht;exact⟨σ',rfl,.refl h⟩
  . cases ht
 |t s=>
  have GX:Cl G A s:=hy
  have hs:=h.eq s GX.own
  have IW:=h.ri s GX.own
  simp only[VY]at ht ⊢
  rw[hs]
  cases hv:σ s with
  |own b k' rows'=>
   rw[hv]at ht
   cases b with
   |true=>cases ht
   |false=>
    simp only at ht ⊢
    split at ht
    . rename_i hc;cases ht;rw[AAY hc];exact⟨_,rfl,h.kup GX.own GX.NW (by simp)⟩
    . cases ht
  |sl e k' rows'=>
   rw[hv]at ht
   simp only at ht ⊢
   split at ht
   . rename_i hc;cases ht;rw[AAY hc];exact⟨_,rfl,.refl h⟩
   . cases ht
  |al r p=>
   rw[hv]at ht IW
   simp only[JY,AAu]at IW
   obtain⟨h1,h2⟩:=GX.rt r IW
   simp only at ht ⊢
   split at ht
   . rename_i hf
     obtain⟨Tg,g1,g2⟩:=RZ h h1 h2 hf
     rw[g1]
     simp only
     split at ht
     . rename_i hc;cases ht;rw[AAY hc];exact⟨_,rfl,g2⟩
     . cases ht
   . cases ht
  |_=>rw[hv]at ht;cases ht
theorem aB {k:Nat} {x:Ar} {v:AV} (h:Ag G A σ σ') (hy:jO G A x) (ht:UJ G k x σ=some (v,τ)):∃τ',UJ G k x σ'=some (v,τ')/\Mv G A σ σ' τ τ':=by
 cases x with
 |c a=>
  simp only[UJ]at ht ⊢
  split at ht
  . cases ht;exact⟨σ',rfl,.refl h⟩
  . cases ht
 |t s=>
  have GX:Cl G A s:=hy
  have hs:=h.eq s GX.own
  have IW:=h.ri s GX.own
  simp only[UJ]at ht ⊢
  rw[hs]
  cases hv:σ s with
  |own b k' rows'=>
   rw[hv]at ht
   cases b with
   |true=>cases ht
   |false=>
    simp only at ht ⊢
    split at ht
    . rename_i hc;cases ht;rw[AAY hc];exact⟨_,rfl,h.kup GX.own GX.NW (by simp)⟩
    . cases ht
  |sl e k' rows'=>
   rw[hv]at ht
   cases e with
   |false=>cases ht
   |true=>
    simp only at ht ⊢
    split at ht
    . rename_i hc;cases ht;rw[AAY hc];exact⟨_,rfl,.refl h⟩
    . cases ht
  |al r p=>
   rw[hv]at ht IW
   simp only[JY,AAu]at IW
   obtain⟨h1,h2⟩:=GX.rt r IW
   simp only at ht ⊢
   split at ht
   . rename_i hf
     obtain⟨Tg,g1,g2⟩:=VH h h1 h2 hf
     rw[g1]
     simp only
     split at ht
     . rename_i hc;cases ht;rw[AAY hc];exact⟨_,rfl,g2⟩
     . cases ht
   . cases ht
  |_=>rw[hv]at ht;cases ht
end Go.Abs
namespace Go.Abs
variable {G:Gi} {A:Nat->Prop} {σ σ' τ τ':Sg} {P:Program}
def UH (G:Gi) (A:Nat->Prop):Ar->Prop
 | .t s=>A s/\∀r∈G.GJ s,A r
 | .c a=>E9 [] a=true
theorem Cl.look {s:Nat} (h:Cl G A s):UH G A (.t s):=⟨h.own,λr hr=>(h.rt r hr).1⟩
theorem jO.look {x:Ar} (h:jO G A x):UH G A x:=by
 cases x with
 |t s=>exact Cl.look h
 |c=>exact h
theorem Ag.ar (h:Ag G A σ σ') {x:Ar} (hx:UH G A x):ar σ' x=ar σ x:=by
 cases x with
 |t s=>exact h.eq s hx.1
 |c=>rfl
theorem Ag.root (h:Ag G A σ σ') {s r:Nat} {p:List Step} (hx:UH G A (.t s)) (hs:σ s= .al r p):A r:=by
 have:=h.ri s hx.1
 rw[hs]at this
 simp only[JY,AAu]at this
 exact hx.2 r this
theorem Ag.rootAdr (h:Ag G A σ σ') {s r:Nat} {p:List Step} {i j k:Nat} (hx:UH G A (.t s)) (hs:σ s= .KG r p i j k):A r:=by
 have:=h.ri s hx.1
 rw[hs]at this
 simp only[VE,AAu]at this
 exact hx.2 r this
theorem Ag.hd (h:Ag G A σ σ') {x:Ar} (hx:UH G A x):hd σ' x=hd σ x:=by
 cases x with
 |c=>rfl
 |t s=>
  unfold Abs.hd
  simp only
  rw[h.eq s hx.1]
  cases hs:σ s with
  |al r p=>simp only;rw[h.eq r (h.root hx hs)]
  |_=>rfl
theorem Ag.Dr (h:Ag G A σ σ') {x:Ar} (hx:UH G A x):Dr σ' x=Dr σ x:=by
 cases x with
 |c=>rfl
 |t s=>
  unfold Abs.Dr
  simp only
  rw[h.eq s hx.1]
  cases hs:σ s with
  |al r p=>simp only;rw[h.eq r (h.root hx hs)]
  |own b k rows=>cases b<;>rfl
  |_=>rfl
theorem Ag.Mn (h:Ag G A σ σ') {x:Ar} (hx:UH G A x) {r:Nat} {p:List Step} {i j k:Nat} (ha:Abs.Dr σ x=some (r,p,i,j,k)):A r:=by
 cases x with
 |c=>cases ha
 |t s=>
  unfold Abs.Dr at ha
  simp only at ha
  cases hs:σ s with
  |al r' p'=>
   rw[hs]at ha
   simp only at ha
   split at ha
   . cases ha;exact h.root hx hs
   . cases ha
  |KG r' p' i' j' k'=>rw[hs]at ha;cases ha;exact h.rootAdr hx hs
  |own b k' rows=>rw[hs]at ha;cases b<;>cases ha;exact hx.1
  |_=>rw[hs]at ha;cases ha
theorem Ag.Md (h:Ag G A σ σ') {x:ABp Ar} (hx:∀y,x=some y->UH G A y) (d:Nat):Md σ' x d=Md σ x d:=by
 cases x with
 |none=>rfl
 |some y=>simp only[Abs.Md];rw[h.ar (hx y rfl)]
theorem Ag.sD (h:Ag G A σ σ') {x:ABp Ar} (hx:∀y,x=some y->UH G A y) (d:Nat):sD σ' x d=sD σ x d:=by
 cases x with
 |none=>rfl
 |some y=>simp only[Abs.sD];rw[h.Md hx]
def reads:XJ->List Ar
 | .cp x=>[x]
 | .pick c a b=>[c,a,b]
 | .ld _ _ a=>[a]
 | .Tu _ x=>[x]
 | .fld _ _ _ x=>[x]
 | .VA _ x i=>[x,i]
 | .aad _ _ x i=>[x,i]
 | .idx _ _ _ x i=>[x,i]
 | .bin _ x y=>[x,y]
 | .beq _ x y=>[x,y]
 | .un _ x=>[x]
 | .cvt _ x=>[x]
 | .mm _ x y=>[x,y]
 | .len x=>[x]
 | .Te x=>[x]
 | .X4 x i=>[x,i]
 | .Up _ _ x y=>[x,y]
 | .ext x _=>[x]
 | .flk x _=>[x]
 | .mk _ _ _ l c=>[l,c]
 | .JT x=>[x]
 | .std x=>[x]
 | .yI _ xs=>xs
 | .WM a=>[a]
 | .bL r _ _ _ i=>[.t r,i]
 | .sF _ _ _ lo hi mx=>lo.toList++hi.toList++mx.toList
 | .call _ args m=>if m=1∨m=3∨m=4 then[]else args
 | .WN _ pre _ _ post=>pre++post
 |_=>[]
def takes:XJ->List Ar
 | .mv x=>[x]
 | .fz x=>[x]
 | .bx _ x=>[x]
 | .RD _ ps=>ps.map (·.2.2)
 | .Mr _ _ ps=>ps.map (·.2)
 | .st _ a v=>[a,v]
 | .VG a v=>[a,v]
 | .app _ _ x y=>[x,y]
 | .sF _ _ x _ _ _=>[x]
 | .call _ args m=>if m=1∨m=3∨m=4 then args else[]
 | .WN _ _ x _ _=>[x]
 |_=>[]
theorem Ag.valOf (h:Ag G A σ σ') (o:XJ) (hx:∀x∈reads o,UH G A x):valOf o σ'=valOf o σ:=by
 cases o with
 |cp x=>
  cases x with
  |c=>rfl
  |t s=>simp only[Abs.valOf];rw[h.eq s (hx (.t s) (by simp[reads])).1]
 |pick c a b=>
  have h1:=h.ar (hx c (by simp[reads]))
  have h2:=h.ar (hx a (by simp[reads]))
  have h3:=h.ar (hx b (by simp[reads]))
  simp only[Abs.valOf]
  rw[h1]
  cases Abs.ar σ c with
  |sc v=>
   cases v with
   |bool x=>cases x<;>simp[h2,h3]
   |_=>rfl
  |_=>rfl
 |ld agg n a=>
  cases a with
  |c=>rfl
  |t s=>
   have hl:=hx (.t s) (by simp[reads])
   simp only[Abs.valOf]
   rw[h.eq s hl.1]
   cases hs:σ s with
   |fp=>rfl
   |vb q o us=>
    have hq:A q:=by
     have:=h.ri s hl.1
     rw[hs]at this
     simp only[rin_vb,AAu]at this
     exact hl.2 q this
    simp only
    rw[h.eq q hq]
   |_=>
    simp only
    rw[h.Dr hl]
    cases ha:Abs.Dr σ (.t s)with
    |none=>rfl
    |some q=>obtain⟨r,p,i,j,k⟩:=q;simp only;rw[h.eq r (h.Mn hl ha)]
 |Tu off x=>
  cases x with
  |c=>rfl
  |t s=>
   have hl:=hx (.t s) (by simp[reads])
   simp only[Abs.valOf]
   rw[h.eq s hl.1,h.Dr hl]
 |fld agg off n x=>
  cases x with
  |c=>rfl
  |t s=>
   have hl:=hx (.t s) (by simp[reads])
   simp only[Abs.valOf]
   rw[h.eq s hl.1]
 |VA k x i=>
  simp only[Abs.valOf]
  rw[h.hd (hx x (by simp[reads])),h.ar (hx i (by simp[reads]))]
 |aad len k x i=>
  cases x with
  |c=>rfl
  |t s=>
   have hl:=hx (.t s) (by simp[reads])
   simp only[Abs.valOf]
   rw[h.ar (hx i (by simp[reads]))]
   cases eT (Abs.ar σ i)with
   |none=>rfl
   |some n=>simp only;rw[h.eq s hl.1,h.Dr hl]
 |idx agg len k x i=>
  cases x with
  |c=>rfl
  |t s=>
   have hl:=hx (.t s) (by simp[reads])
   simp only[Abs.valOf]
   rw[h.ar (hx i (by simp[reads]))]
   cases eT (Abs.ar σ i)with
   |none=>rfl
   |some n=>simp only;rw[h.eq s hl.1]
 |bin op x y=>simp only[Abs.valOf];rw[h.ar (hx x (by simp[reads])),h.ar (hx y (by simp[reads]))]
 |beq op x y=>simp only[Abs.valOf];rw[h.ar (hx x (by simp[reads])),h.ar (hx y (by simp[reads]))]
 |un op x=>simp only[Abs.valOf];rw[h.ar (hx x (by simp[reads]))]
 |cvt op x=>simp only[Abs.valOf];rw[h.ar (hx x (by simp[reads]))]
 |mm mx x y=>simp only[Abs.valOf];rw[h.ar (hx x (by simp[reads])),h.ar (hx y (by simp[reads]))]
 |len x=>simp only[Abs.valOf];rw[h.hd (hx x (by simp[reads]))]
 |Te x=>simp only[Abs.valOf];rw[h.ar (hx x (by simp[reads]))]
 |Up neg kd x y=>simp only[Abs.valOf];rw[h.ar (hx x (by simp[reads])),h.ar (hx y (by simp[reads]))]
 |X4 x y=>simp only[Abs.valOf];rw[h.ar (hx x (by simp[reads])),h.ar (hx y (by simp[reads]))]
 |ext x i=>
  cases x with
  |c=>rfl
  |t s=>simp only[Abs.valOf];rw[h.eq s (hx (.t s) (by simp[reads])).1]
 |yI f xs=>
  have key:∀l:List Ar,(∀x∈l,UH G A x)->RK σ' l=RK σ l:=by
   intro l
   induction l with
   |nil=>intro _;rfl
   |cons x l ih=>
    intro hl
    have h1:=hl x (by simp)
    have h2:=ih λy hy=>hl y (by simp[hy])
    cases x with
    |c=>rfl
    |t s=>
     simp only[RK]
     rw[h.eq s h1.1,h2]
     cases hs:σ s with
     |al r p=>cases RK σ l<;>first|rfl| (simp only;rw[h.eq r (h.root h1 hs)])
     |own b k rows=>cases b<;>cases RK σ l<;>rfl
     |_=>cases RK σ l<;>rfl
  simp only[Abs.valOf]
  rw[key xs (λx KY=>hx x (by simpa[reads]using KY))]
 |fl=>rfl
 |flk x i=>
  cases x with
  |c=>rfl
  |t s=>simp only[Abs.valOf];rw[h.eq s (hx (.t s) (by simp[reads])).1]
 |bL r off kb k i=>simp only[Abs.valOf];rw[h.eq r (hx (.t r) (by simp[reads])).1,h.ar (hx i (by simp[reads]))]
 |WM a=>
  have hl:=hx a (by simp[reads])
  simp only[Abs.valOf]
  rw[h.Dr hl]
  cases ha:Abs.Dr σ a with
  |none=>rfl
  |some q=>obtain⟨r,p,i,j,k⟩:=q;simp only;rw[h.eq r (h.Mn hl ha)]
 |JT x=>
  have hl:=hx x (by simp[reads])
  simp only[Abs.valOf]
  rw[h.ar hl]
  cases x with
  |c a=>
   cases a with
   |al r p=>simp[UH]at hl
   |own b k rows=>cases b<;>rfl
   |_=>rfl
  |t s=>
   simp only[Abs.ar]
   cases hs:σ s with
   |al r p=>simp only;rw[h.eq r (h.root hl hs)]
   |own b k rows=>cases b<;>rfl
   |_=>rfl
 |_=>rfl
variable {W:Nat->Prop}
theorem Rq (kl:List Nat) (d:Nat) (σ:Sg) (s:Nat):JA kl d σ s=if s∈kl then C8 d (σ s)else σ s:=by
 cases kl<;>simp[JA]
theorem Ag.mono {R:Nat->Prop} (h:Ag G R σ σ') (hs:∀s,A s->R s):Ag G A σ σ':=⟨λs a=>h.eq s (hs s a),λs a=>h.ri s (hs s a)⟩
theorem Mv.wr {d:Dg} {v:AV} {υ:Sg} (h:Mv G W σ σ' τ τ') (hd:W d.d/\d.rs=G.GJ d.d) (hk:∀x∈d.kl,W x) (hw:wr d v τ=some υ):∃υ',wr d v τ'=some υ'/\Mv G W σ σ' υ υ':=by
 unfold Abs.wr at hw ⊢
 split at hw
 . rename_i hr
   cases hw
   rw[AAY hr]
   refine⟨_,rfl,⟨λs hs=> ?_,λs hs=> ?_⟩,λs hs=> ?_⟩
   . simp only[C1,Rq,h.ag.eq s hs]
   . simp only[C1,Rq]
     split
     . rename_i e;subst e;rw[← hd.2];exact hr
     . split
       . exact NH _ _ _ (h.ag.ri s hs)
       . exact h.ag.ri s hs
   . have h1:s≠d.d:=λe=>hs (e▸hd.1)
     have h2:s∉d.kl:=λe=>hs (hk s e)
     simp only[C1,h1,AAe,Rq,h2]
     exact h.off s hs
 . cases hw
theorem lY {L:List Nat} (p:List Step) (i k:Nat) (cs:List AV):∀{j:Nat} {t t':AV},zS p i k j cs t=some t'->E9 L t=true->cs.all Ex=true->E9 L t'=true:=by
 induction cs with
 |nil=>intro j t t' h ht _;simp only[zS,AAN]at h;subst h;exact ht
 |cons c cs ih=>
  intro j t t' h ht hc
  simp only[ABF,AAP]at hc
  simp only[zS]at h
  split at h
  . rename_i t1 h1
    exact ih h (VF _ h1 ht (aL hc.1)) hc.2
  . cases h
def HasD (G:Gi) (W:Nat->Prop) (d:ABp Dg):Prop:=∀x,d=some x->(W x.d/\x.rs=G.GJ x.d)/\∀y∈x.kl,W y
theorem eff_loc {R:Nat->Prop} (h:Ag G R σ σ') (wD:∀s,W s->R s) {o:XJ} {d:ABp Dg} (ht:∀x∈takes o,jO G W x) (hr:∀x∈reads o,UH G R x) (hd:HasD G W d) (he:Fk G o d σ=some τ):
 ∃τ',Fk G o d σ'=some τ'/\Mv G W σ σ' τ τ':=by
 have hW:Ag G W σ σ':=h.mono wD
 have val:∀d',d=some d'->(match Abs.valOf o σ with|some v=>Abs.wr d' v σ|none=>none)=some τ->∃τ',(match Abs.valOf o σ' with|some v=>Abs.wr d' v σ'|none=>none)=some τ'/\Mv G W σ σ' τ τ':=by
  intro d' Ri he
  rw[h.valOf o hr]
  cases hv:Abs.valOf o σ with
  |none=>rw[hv]at he;cases he
  |some v=>rw[hv]at he;exact(Mv.refl hW).wr (hd d' Ri).1 (hd d' Ri).2 he
 cases d with
 |none=>
  cases o with
  |st n a v=>
   simp only[Fk]at he ⊢
   split at he
   . rename_i x τ1 h1
     obtain⟨Tg,g1,g2⟩:=O9 hW (ht v (by simp[takes])) h1
     rw[g1]
     simp only
     have oO:=(ht a (by simp[takes])).look
     rw[g2.ag.Dr oO]
     split at he
     . rename_i r p i j k ha
       have rY:W r:=g2.ag.Mn oO ha
       have wF:∀x∈G.NW r,W x:=by
        have JI:=ht a (by simp[takes])
        cases a with
        |c=>cases ha
        |t s=>
         have GX:Cl G W s:=JI
         simp only[Abs.Dr]at ha
         have IW:=g2.ag.ri s GX.own
         cases hs:τ1 s with
         |al r' p'=>
          rw[hs]at ha IW
          simp only at ha
          simp only[JY,AAu]at IW
          split at ha
          . cases ha;exact(GX.rt _ IW).2
          . cases ha
         |KG r' p' i' j' k'=>
          rw[hs]at ha IW;cases ha
          simp only[VE,AAu]at IW
          exact(GX.rt _ IW).2
         |own b k' rows=>rw[hs]at ha;cases b<;>cases ha;exact GX.NW
         |_=>rw[hs]at ha;cases ha
       rw[g2.ag.eq r rY]
       split at he
       . rename_i b0 k0 rows Bb
         split at he
         . rename_i row DZ
           split at he
           . rename_i hc
             rw[AAY hc]
             split at he
             . rename_i t Bs
               have Xm:E9 (G.GJ r) t=true:=lY p i k _ Bs (g2.ag.ri r rY) hc.2.1
               split at he
               . rename_i hl
                 cases he
                 rw[AAY hl]
                 exact⟨_,rfl,(g2.trans (g2.ag.up rY Xm))⟩
               . rename_i hl
                 cases he
                 rw[AAX hl]
                 exact⟨_,rfl,(g2.trans (g2.ag.kup rY wF Xm))⟩
             . cases he
           . cases he
         . cases he
       . cases he
     . cases he
   . cases he
  |VG a v=>
   have oO:=(ht a (by simp[takes])).look
   simp only[Fk]at he ⊢
   rw[hW.ar (ht v (by simp[takes])).look,hW.Dr oO]
   split at he
   . rename_i u hu
     split at he
     . rename_i r p i j k ha
       have rY:W r:=hW.Mn oO ha
       rw[hW.eq r rY]
       split at he
       . rename_i b0 k0 rows Bb
         split at he
         . rename_i row DZ
           split at he
           . rename_i u0 hc0
             split at he
             . rename_i t Bs
               have Xm:E9 (G.GJ r) t=true:=lY p i k [.sc u] (j:=j) (by simp only[zS];rw[Bs]) (hW.ri r rY) (by simp[Ex])
               cases he
               exact⟨_,rfl,hW.up rY Xm⟩
             . cases he
           . cases he
         . cases he
       . cases he
     . cases he
   . cases he
  |std a=>
   simp only[Fk]at he ⊢
   have oO:=hr a (by simp[reads])
   rw[h.Dr oO]
   split at he
   . rename_i r p i j k ha
     rw[h.eq r (h.Mn oO ha)]
     split at he
     . cases he;exact⟨σ',rfl,Mv.refl hW⟩
     . cases he
   . cases he
  |_=>simp[Fk]at he
 |some d=>
  obtain⟨gN,U8⟩:=hd d rfl
  cases o with
  |mv x=>
   simp only[Fk]at he ⊢
   split at he
   . rename_i v τ1 h1
     obtain⟨Tg,g1,g2⟩:=O9 hW (ht x (by simp[takes])) h1
     rw[g1]
     exact g2.wr gN U8 he
   . cases he
  |fz x=>
   cases x with
   |c=>simp[Fk]at he
   |t s=>
    have GX:Cl G W s:=ht (.t s) (by simp[takes])
    have IW:=hW.ri s GX.own
    simp only[Fk]at he ⊢
    rw[hW.eq s GX.own]
    cases hs:σ s with
    |al r p=>
     rw[hs]at he IW
     simp only[JY,AAu]at IW
     simp only at he ⊢
     split at he
     . rename_i v τ1 h1
       obtain⟨Tg,g1,g2⟩:=RZ hW (GX.rt r IW).1 (GX.rt r IW).2 h1
       rw[g1]
       exact g2.wr gN U8 he
     . cases he
    |own b k rows=>
     rw[hs]at he
     simp only at he ⊢
     split at he
     . rename_i v τ1 h1
       obtain⟨Tg,g1,g2⟩:=RZ hW GX.own GX.NW h1
       rw[g1]
       exact g2.wr gN U8 he
     . cases he
    |sc v=>rw[hs]at he;exact(Mv.refl hW).wr gN U8 he
    |sl e k rows=>rw[hs]at he;exact(Mv.refl hW).wr gN U8 he
    |_=>rw[hs]at he;cases he
  |bx n x=>
   simp only[Fk]at he ⊢
   split at he
   . rename_i v τ1 h1
     obtain⟨Tg,g1,g2⟩:=O9 hW (ht x (by simp[takes])) h1
     rw[g1]
     simp only
     split at he
     . rename_i hc;rw[AAY hc];exact g2.wr gN U8 he
     . cases he
   . cases he
  |RD z ps=>
   simp only[Fk]at he ⊢
   split at he
   . rename_i v τ1 h1
     obtain⟨Tg,g1,g2⟩:=uQ ps hW (λp hp=>ht _ (by simp only[takes,ABZ];exact⟨p,hp,rfl⟩)) h1
     rw[g1]
     exact g2.wr gN U8 he
   . cases he
  |Mr k z ps=>
   simp only[Fk]at he ⊢
   split at he
   . rename_i v τ1 h1
     obtain⟨Tg,g1,g2⟩:=uS k ps hW (λp hp=>ht _ (by simp only[takes,ABZ];exact⟨p,hp,rfl⟩)) h1
     rw[g1]
     exact g2.wr gN U8 he
   . cases he
  |mk k bytes z l c=>
   simp only[Fk]at he ⊢
   rw[h.ar (hr l (by simp[reads])),h.ar (hr c (by simp[reads]))]
   split at he
   . rename_i l' c' h1 h2
     split at he
     . rename_i hc;rw[AAY hc];exact(Mv.refl hW).wr gN U8 he
     . cases he
   . cases he
  |sF k fr x lo hi mx=>
   have hcx:=ht x (by simp[takes])
   have wY:∀y,lo=some y->UH G R y:=λy hy=>hr y (by simp[reads,hy])
   have hhi:∀y,hi=some y->UH G R y:=λy hy=>hr y (by simp[reads,hy])
   have hmx:∀y,mx=some y->UH G R y:=λy hy=>hr y (by simp[reads,hy])
   simp only[Fk]at he ⊢
   rw[hW.hd hcx.look]
   have eo:∀d,Abs.Md σ' lo d=Abs.Md σ lo d:=h.Md wY
   have eh:∀d,Abs.Md σ' hi d=Abs.Md σ hi d:=h.Md hhi
   have em:∀d,Abs.sD σ' mx d=Abs.sD σ mx d:=h.sD hmx
   simp only[eo,eh,em]
   split at he
   . rename_i e k' rows q V0
     try rw[V0]
     try simp only
     split at he
     . rename_i l hh h1 h2
       try rw[h1,h2]
       try simp only
       split at he
       . rename_i rs m h3 h4
         try rw[h3,h4]
         try simp only
         split at he
         . rename_i hc;rw[AAY hc];exact(Mv.refl hW).wr gN U8 he
         . cases he
       . cases he
     . cases he
   . rename_i k' rows r p V0
     have T1:W r/\∀x∈G.NW r,W x:=by
      cases x with
      |c a=>cases a<;>cases V0
      |t s=>
       have GX:Cl G W s:=hcx
       have IW:=hW.ri s GX.own
       simp only[Abs.hd]at V0
       cases hs:σ s with
       |al r' p'=>
        rw[hs]at V0 IW
        simp only[JY,AAu]at IW
        simp only at V0
        split at V0
        . cases V0;exact GX.rt _ IW
        . cases V0
       |own b k rows=>rw[hs]at V0;cases V0;exact⟨GX.own,GX.NW⟩
       |sl=>rw[hs]at V0;cases V0
       |_=>rw[hs]at V0;cases V0
     try rw[V0]
     try simp only
     split at he
     . rename_i l hh h1 h2
       try rw[h1,h2]
       try simp only
       split at he
       . rename_i rs m h3 h4
         try rw[h3,h4]
         try simp only
         split at he
         . rename_i hc
           rw[AAY hc]
           split at he
           . rename_i hf
             rw[AAY hf]
             split at he
             . rename_i v τ1 h5
               obtain⟨Tg,g1,g2⟩:=RZ hW T1.1 T1.2 h5
               rw[g1]
               exact g2.wr gN U8 he
             . cases he
           . rename_i hf
             rw[AAX hf]
             split at he
             . rename_i hl
               rw[AAY hl]
               split at he
               . rename_i v τ1 h5
                 obtain⟨Tg,g1,g2⟩:=VH hW T1.1 T1.2 h5
                 rw[g1]
                 exact g2.wr gN U8 he
               . cases he
             . cases he
         . cases he
       . cases he
     . cases he
   . cases he
  |app k bytes x y=>
   simp only[Fk]at he ⊢
   split at he
   . rename_i ys τ1 h1
     obtain⟨Tg,g1,g2⟩:=tJ hW (ht y (by simp[takes])) h1
     rw[g1]
     simp only
     split at he
     . rename_i b k' rows τ2 h2
       obtain⟨qX,g3,g4⟩:=aB g2.ag (ht x (by simp[takes])) h2
       rw[g3]
       simp only
       split at he
       . rename_i hc;rw[AAY hc];exact(g2.trans g4).wr gN U8 he
       . cases he
     . rename_i e k' rows τ2 h2
       obtain⟨qX,g3,g4⟩:=aB g2.ag (ht x (by simp[takes])) h2
       rw[g3]
       simp only
       split at he
       . exact(g2.trans g4).wr gN U8 he
       . split at he
         . rename_i hc;rw[AAY hc];exact(g2.trans g4).wr gN U8 he
         . cases he
     . cases he
   . cases he
  |st=>simp[Fk,Abs.valOf]at he
  |call=>simp[Fk,Abs.valOf]at he
  |bad=>simp[Fk,Abs.valOf]at he
  |_=>exact val d rfl he
end Go.Abs
namespace Go.Abs
variable {G:Gi} {A:Nat->Prop} {σ σ' τ τ':Sg} {P:Program}
theorem NO {d:ABp Dg} {v:AV} {K:Sg->Prop} {τ:Sg}:CM d v K τ↔∃υ,CM d v (· =υ) τ/\K υ:=by
 cases d with
 |none=>simp[CM]
 |some d=>
  simp only[CM]
  split<;>simp
theorem YF {o:BH} {K:Sg->Prop}:Dp P G o K σ↔∃τ,Dp P G o (· =τ) σ/\K τ:=by
 unfold Dp
 split
 . split
   . constructor
     . rintro⟨res,h1,h2⟩
       split at h2
       . obtain⟨υ,g1,g2⟩:=NO.1 h2
         rename_i v hv
         exact⟨υ,⟨res,h1,by rw[hv];exact g1⟩,g2⟩
       . exact h2.elim
     . rintro⟨υ,⟨res,h1,h2⟩,h3⟩
       refine⟨res,h1,?_⟩
       split at h2
       . rename_i v hv
         exact NO.2 ⟨υ,h2,h3⟩
       . exact h2.elim
   . simp
 . split
   . split
     . constructor
       . rintro⟨res,out,u,h1,h2,h3,h4,h5⟩
         split at h5
         . obtain⟨υ,g1,g2⟩:=NO.1 h5
           rename_i t ht
           exact⟨υ,⟨res,out,u,h1,h2,h3,h4,by rw[ht];exact g1⟩,g2⟩
         . exact h5.elim
       . rintro⟨υ,⟨res,out,u,h1,h2,h3,h4,h5⟩,h6⟩
         refine⟨res,out,u,h1,h2,h3,h4,?_⟩
         split at h5
         . exact NO.2 ⟨υ,h5,h6⟩
         . exact h5.elim
     . simp
   . simp
 . split<;>simp
theorem OJ {o:BH} {K:Sg->Prop}:KH P G o K σ↔∃τ,KH P G o (· =τ) σ/\K τ:=by
 unfold KH
 split
 . exact YF
 . split
   . split
     . exact YF
     . split<;>simp
   . split<;>simp
   . simp
theorem QS (DE:List BH):∀{σ:Sg} {K:Sg->Prop},Mo P G DE K σ->∃q:Nat->Sg,q 0=σ/\(∀i io,DE[i]? =some io->KH P G io (· =q (i+1)) (q i))/\K (q DE.length):=by
 induction DE with
 |nil=>intro σ K h;exact⟨λ_=>σ,rfl,by simp,h⟩
 |cons o os ih=>
  intro σ K h
  obtain⟨τ,h1,h2⟩:=OJ.1 h
  obtain⟨q,g1,g2,g3⟩:=ih h2
  refine⟨λi=>match i with|0=>σ|i+1=>q i,rfl,?_,g3⟩
  intro i io hi
  cases i with
  |zero=>simp only[AAw,AAN]at hi;subst hi;simp only[g1];exact h1
  |succ i=>simp only[ABA]at hi;exact g2 i io hi
theorem Ag.SK (h:Ag G A σ σ') {a:AV} (ha:∀r p,a= .al r p->A r):SK σ' a=SK σ a:=by
 cases a with
 |al r p=>simp only[Abs.SK];rw[h.eq r (ha r p rfl)]
 |own b k rows=>cases b<;>first|rfl| (match rows with|[]=>rfl|[_]=>rfl|_::_::_=>rfl)
 |_=>rfl
theorem Ag.sE (h:Ag G A σ σ') (cs:List AV):(∀r p,AV.al r p∈cs->A r)->sE σ' cs=sE σ cs:=by
 induction cs with
 |nil=>intro _;rfl
 |cons a cs ih=>
  intro ha
  simp only[Abs.sE]
  rw[h.SK (a:=a) (λr p e=>ha r p (by simp[e])),ih (λr p hm=>ha r p (by simp[hm]))]
theorem Ag.cC (h:Ag G A σ σ') {x:Ar} (hx:UH G A x):cC σ' (Abs.ar σ' x)=cC σ (Abs.ar σ x):=by
 rw[h.ar hx]
 cases x with
 |c a=>
  simp only[Abs.ar]
  cases a with
  |agg cs=>
   simp only[Abs.cC]
   rw[h.sE cs (λr p hm=>by
    have KY:E9 [] (.agg cs)=true:=hx
    rw[JX,AAU]at KY
    have:=KY _ hm
    simp at this)]
  |al r p=>have KY:E9 [] (.al r p)=true:=hx;simp at KY
  |own b k rows=>cases b<;>first|rfl| (match rows with|[]=>rfl|[_]=>rfl|_::_::_=>rfl)
  |_=>rfl
 |t s=>
  simp only[Abs.ar]
  cases hs:σ s with
  |agg cs=>
   simp only[Abs.cC]
   rw[h.sE cs (λr p hm=>by
    have:=h.ri s hx.1
    rw[hs,JX,AAU]at this
    have:=this _ hm
    simp only[JY,AAu]at this
    exact hx.2 r this)]
  |al r p=>simp only[Abs.cC];exact h.SK (λr' p' e=>by cases e;exact h.root hx hs)
  |own b k rows=>cases b<;>first|rfl| (match rows with|[]=>rfl|[_]=>rfl|_::_::_=>rfl)
  |_=>rfl
theorem Ag.JU (h:Ag G A σ σ') (xs:List Ar):(∀x∈xs,UH G A x)->JU σ' xs=JU σ xs:=by
 induction xs with
 |nil=>intro _;rfl
 |cons x xs ih=>
  intro hx
  simp only[Abs.JU]
  rw[h.cC (hx x (by simp)),ih (λy hy=>hx y (by simp[hy]))]
theorem Ag.Ve (h:Ag G A σ σ') (rs:List (Nat×List Step)):(∀x∈rs,A x.1)->Ve σ' rs=Ve σ rs:=by
 induction rs with
 |nil=>intro _;rfl
 |cons x rs ih=>
  obtain⟨r,p⟩:=x
  intro hx
  simp only[Abs.Ve]
  rw[h.SK (a:=.al r p) (λr' p' e=>by cases e;exact hx (r,p) (by simp)),ih (λy hy=>hx y (by simp[hy]))]
theorem AAH (ys:List Ar):∀{σ σ' τ:Sg} {aZ9:List AV},Ag G A σ σ'->(∀x∈ys,jO G A x)->Us G ys σ=some (aZ9,τ)->∃τ',Us G ys σ'=some (aZ9,τ')/\Mv G A σ σ' τ τ':=by
 induction ys with
 |nil=>intro σ σ' τ aZ9 _ _ ht;simp[Us]at ht
 |cons y ys ih=>
  intro σ σ' τ aZ9 h hx ht
  have hy:=hx y (by simp)
  cases ys with
  |nil=>
   simp only[Us]at ht ⊢
   rw[h.ar hy.look]
   split at ht
   . rename_i f rs GX
     have hroots:∀x∈rs,A x.1:=by
      intro x hxr
      cases y with
      |c c0=>simp only[Abs.ar]at GX;subst GX;have hy':E9 [] (.cl f rs)=true:=hy;simp only[iV,AAU]at hy';have:=hy' x hxr;simp at this
      |t s=>
       simp only[Abs.ar]at GX
       have hcl':Cl G A s:=hy
       have:=h.ri s hcl'.own
       rw[GX,iV,AAU]at this
       exact(hcl'.rt x.1 (by simpa using this x hxr)).1
     rw[h.Ve rs hroots]
     split at ht
     . rename_i U4 hc
       simp only[AAN,AAc]at ht
       obtain⟨rfl,rfl⟩:=ht
       exact⟨σ',rfl,Mv.refl h⟩
     . cases ht
   . cases ht
  |cons y2 ys=>
   simp only[Us]at ht ⊢
   split at ht
   . rename_i v τ1 h1
     obtain⟨Tg,g1,g2⟩:=O9 h hy h1
     rw[g1]
     simp only
     split at ht
     . rename_i l τ2 h2
       simp only[AAN,AAc]at ht
       obtain⟨rfl,rfl⟩:=ht
       obtain⟨qX,g3,g4⟩:=ih g2.ag (λx KY=>hx x (by simp[KY])) h2
       rw[g3]
       exact⟨qX,rfl,g2.trans g4⟩
     . cases ht
   . cases ht
theorem Yr {W:Nat->Prop} {d:ABp Dg} {v:AV} {υ:Sg} (h:Mv G W σ σ' τ τ') (hd:HasD G W d) (ht:CM d v (· =υ) τ):∃υ',CM d v (· =υ') τ'/\Mv G W σ σ' υ υ':=by
 cases d with
 |none=>cases ht;exact⟨τ',rfl,h⟩
 |some d=>
  simp only[CM]at ht ⊢
  split at ht
  . rename_i x hx
    subst ht
    obtain⟨υ',g1,g2⟩:=h.wr (hd d rfl).1 (hd d rfl).2 hx
    exact⟨υ',by rw[g1],g2⟩
  . exact ht.elim
theorem Ag.rdF (h:Ag G A σ σ') {x:Ar} (hx:UH G A x):rdF σ' x=rdF σ x:=by
 cases x with
 |c a=>rfl
 |t s=>simp only[Abs.rdF];rw[h.eq s hx.1]
theorem Ag.N5 (h:Ag G A σ σ') (xs:List Ar):(∀x∈xs,UH G A x)->N5 σ' xs=N5 σ xs:=by
 induction xs with
 |nil=>intro _;rfl
 |cons x xs ih=>
  intro hx
  simp only[Abs.N5]
  rw[h.rdF (hx x (by simp)),ih (λy hy=>hx y (by simp[hy]))]
theorem Ag.Om (h:Ag G A σ σ') {x:Ar} (hx:jO G A x) {c:ABp Nat} {r:Nat} {p:List Step} (hp:Om σ x c=some (r,p)):Om σ' x c=some (r,p)/\(∀n,Rt σ' x c n=Rt σ x c n)/\A r/\∀y∈G.NW r,A y:=by
 cases x with
 |c a=>cases c<;>simp[Abs.Om,plc]at hp
 |t s=>
  have GX:Cl G A s:=hx
  have IW:=h.ri s GX.own
  have e:σ' s=σ s:=h.eq s GX.own
  have e1:Abs.Om σ' (.t s) c=Abs.Om σ (.t s) c:=by cases c<;>simp only[Abs.Om,plc,e]
  refine⟨by rw[e1];exact hp,λn=>by cases c<;>simp only[Rt,Abs.ar,e],?_⟩
  cases c with
  |none=>
   simp only[Abs.Om,plc]at hp
   split at hp
   . rename_i r' p' hs
     cases hp
     rw[hs]at IW
     simp only[JY,AAu]at IW
     exact⟨(GX.rt _ IW).1,(GX.rt _ IW).2⟩
   . cases hp;exact⟨GX.own,GX.NW⟩
   . cases hp
  |some j=>
   simp only[Abs.Om]at hp
   split at hp
   . rename_i cs hs
     rw[hs]at IW
     split at hp
     . rename_i r' p' hj
       cases hp
       have:=(by rw[JX,AAU]at IW;exact IW _ (AAb hj):E9 (G.GJ s) (.al r p)=true)
       simp only[JY,AAu]at this
       exact⟨(GX.rt _ this).1,(GX.rt _ this).2⟩
     . cases hp;exact⟨GX.own,GX.NW⟩
     . cases hp
   . cases hp
theorem aD {R W:Nat->Prop} (h:Ag G R σ σ') (wD:∀s,W s->R s) {o:BH} (ht:∀x∈takes o.op,jO G W x) (hr:∀x∈reads o.op,UH G R x) (hd:HasD G W o.dst) (he:Dp P G o (· =τ) σ):
 ∃τ',Dp P G o (· =τ') σ'/\Mv G W σ σ' τ τ':=by
 have hW:Ag G W σ σ':=h.mono wD
 have plain:∀op,o.op=op->(match Fk G op o.dst σ with|some υ=>υ=τ|none=>False)->∃τ',(match Fk G op o.dst σ' with|some υ=>υ=τ'|none=>False)/\Mv G W σ σ' τ τ':=by
  intro op HT he
  split at he
  . rename_i υ hu
    subst he
    obtain⟨τ',g1,g2⟩:=eff_loc h wD (by rw[← HT];exact ht) (by rw[← HT];exact hr) hd hu
    exact⟨τ',by rw[g1],g2⟩
  . exact he.elim
 cases HT:o.op with
 |call f args m=>
  unfold Dp at he ⊢
  rw[HT]at he ht hr ⊢
  simp only at he ⊢
  split at he
  . rename_i aZ9 τ1 JI
    obtain⟨res,h1,h2⟩:=he
    have key:∃Tg,Fj G m args σ'=some (aZ9,Tg)/\Mv G W σ σ' τ1 Tg:=by
     by_cases hm:m=1
     . subst hm
       simp only[Fj]at JI ⊢
       obtain⟨Tg,g1,g2⟩:=jF args hW (by simpa[takes]using ht) JI
       exact⟨Tg,g1,g2⟩
     . by_cases hm3:m=3
       . subst hm3
         simp only[Fj]at JI ⊢
         obtain⟨Tg,g1,g2⟩:=qQ args hW (by simpa[takes]using ht) JI
         exact⟨Tg,g1,g2⟩
       by_cases hm4:m=4
       . subst hm4
         simp only[Fj]at JI ⊢
         obtain⟨Tg,g1,g2⟩:=AAH args hW (by simpa[takes]using ht) JI
         exact⟨Tg,g1,g2⟩
       have e:∀σ,Fj G m args σ=match Abs.JU σ args with|some l=>some (l,σ)|none=>none:=by
        intro σ
        unfold Fj
        split
        . exact absurd rfl hm
        . exact absurd rfl hm3
        . exact absurd rfl hm4
        . rfl
       rw[e]at JI ⊢
       rw[h.JU args (by simpa[reads,hm,hm3,hm4]using hr)]
       split at JI
       . cases JI;exact⟨σ',rfl,Mv.refl hW⟩
       . cases JI
    obtain⟨Tg,g1,g2⟩:=key
    rw[g1]
    simp only
    split at h2
    . rename_i v hv
      obtain⟨υ',g3,g4⟩:=Yr g2 hd h2
      exact⟨υ',⟨res,h1,by rw[hv];exact g3⟩,g4⟩
    . exact h2.elim
  . exact he.elim
 |WN f pre x c post=>
  unfold Dp at he ⊢
  rw[HT]at he ht hr ⊢
  simp only at he ⊢
  split at he
  . rename_i r p aZ9 bs hp Xl MY
    obtain⟨e1,e2,rY,wF⟩:=hW.Om (ht x (by simp[takes])) hp
    rw[e1,h.N5 pre (λy hy=>hr y (by simp[reads,hy])),h.N5 post (λy hy=>hr y (by simp[reads,hy])),Xl,MY]
    simp only[e2]
    rw[hW.eq r rY]
    split at he
    . rename_i b k rows hs
      obtain⟨res,out,u,h1,h2,h3,h4,h5⟩:=he
      split at h5
      . rename_i t Gq
        have Xm:E9 (G.GJ r) t=true:=VF _ Gq (hW.ri r rY) (Mq h3)
        obtain⟨υ',g3,g4⟩:=Yr (hW.kupn _ rY wF Xm) hd h5
        exact⟨υ',⟨res,out,u,h1,h2,h3,h4,by rw[Gq];exact g3⟩,g4⟩
      . exact h5.elim
    . exact he.elim
  . exact he.elim
 |_=>
  unfold Dp at he ⊢
  rw[HT]at he ⊢
  exact plain _ HT he
theorem aop_loc {R W:Nat->Prop} (h:Ag G R σ σ') (wD:∀s,W s->R s) {o:BH} (ht:∀x∈takes o.op,jO G W x) (hr:∀x∈reads o.op,UH G R x) (hd:HasD G W o.dst) (hg:∀g,o.guard=some g->R g.1) (he:KH P G o (· =τ) σ):
 ∃τ',KH P G o (· =τ') σ'/\Mv G W σ σ' τ τ':=by
 have hW:Ag G W σ σ':=h.mono wD
 have skip:(match o.dst with|some d=>C1 (JA d.kl d.d σ) d.d .un=τ|none=>σ=τ)->∃τ',(match o.dst with|some d=>C1 (JA d.kl d.d σ') d.d .un=τ'|none=>σ'=τ')/\Mv G W σ σ' τ τ':=by
  intro he
  cases LJ:o.dst with
  |none=>rw[LJ]at he;subst he;exact⟨σ',rfl,Mv.refl hW⟩
  |some d=>
   rw[LJ]at he
   subst he
   obtain⟨h1,h2⟩:=hd d LJ
   have hw:Abs.wr d .un σ=some (C1 (JA d.kl d.d σ) d.d .un):=by simp[Abs.wr]
   obtain⟨υ',g1,g2⟩:=(Mv.refl hW).wr h1 h2 hw
   have xN:Abs.wr d .un σ'=some (C1 (JA d.kl d.d σ') d.d .un):=by simp[Abs.wr]
   rw[xN]at g1
   cases g1
   exact⟨_,rfl,g2⟩
 unfold KH at he ⊢
 cases hgd:o.guard with
 |none=>rw[hgd]at he;exact aD h wD ht hr hd he
 |some g=>
  obtain⟨g,want⟩:=g
  rw[hgd]at he
  simp only at he ⊢
  rw[h.eq g (hg _ hgd)]
  split at he
  . rename_i b hb
    split at he
    . rename_i hbw;simp only[AAY hbw];exact aD h wD ht hr hd he
    . rename_i hbw;simp only[AAX hbw];exact skip he
  . exact skip he
  . exact he.elim
end Go.Abs
namespace Go.Abs
variable {G:Gi} {P:Program}
def Yp (G:Gi):Ar->List Nat
 | .t s=>s::G.NW s++(G.GJ s).flatMap (λr=>r::G.NW r)
 | .c _=>[]
def FQ (G:Gi):Ar->List Nat
 | .t s=>s::G.GJ s
 | .c _=>[]
def RC (G:Gi) (o:BH):List Nat:=(takes o.op).flatMap (Yp G)++(match o.dst with|some d=>d.d::d.kl|none=>[])
def ZV (G:Gi) (o:BH):List Nat:=RC G o++(reads o.op).flatMap (FQ G)++(match o.guard with|some g=>[g.1]|none=>[])
def cOK:Ar->Bool
 | .t _=>true
 | .c a=>E9 [] a
def OK (o:BH):Bool:=(takes o.op).all cOK&&(reads o.op).all cOK
theorem YC {σ σ' τ:Sg} {o:BH} (hc:OK o=true) (oV:∀d,o.dst=some d->d.rs=G.GJ d.d) (h:Ag G (· ∈ZV G o) σ σ') (he:KH P G o (· =τ) σ):∃τ',KH P G o (· =τ') σ'/\Mv G (· ∈RC G o) σ σ' τ τ':=by
 simp only[OK,AAP,AAU]at hc
 refine aop_loc h (λs hs=>by simp only[ZV,AAj];exact .inl (.inl hs)) ?_ ?_ ?_ ?_ he
 . intro x hx
   cases x with
   |c a=>exact hc.1 _ hx
   |t s=>
    have key:∀y∈Yp G (.t s),y∈RC G o:=λy hy=>by simp only[RC,AAj,List.mem_flatMap];exact .inl ⟨_,hx,hy⟩
    refine⟨key _ (by simp[Yp]),λx hx=>key _ (by simp[Yp,hx]),λr hr=>⟨key _ ?_,λx hx=>key _ ?_⟩⟩
    . simp only[Yp,AA5,AAp,AAj,List.mem_flatMap];exact .inr (.inr ⟨r,hr,.inl rfl⟩)
    . simp only[Yp,AA5,AAp,AAj,List.mem_flatMap];exact .inr (.inr ⟨r,hr,.inr hx⟩)
 . intro x hx
   cases x with
   |c a=>exact hc.2 _ hx
   |t s=>
    have key:∀y∈FQ G (.t s),y∈ZV G o:=λy hy=>by simp only[ZV,AAj,List.mem_flatMap];exact .inl (.inr ⟨_,hx,hy⟩)
    exact⟨key _ (by simp[FQ]),λr hr=>key _ (by simp[FQ,hr])⟩
 . intro d hd
   refine⟨⟨?_,oV d hd⟩,λy hy=> ?_⟩
   . simp only[RC,hd,AAj];exact .inr (ABL ..)
   . simp only[RC,hd,AAj,AAp];exact .inr (.inr hy)
 . intro g hg
   simp only[ZV,hg,AAj];exact .inr (ABL ..)
theorem aop_off {σ τ:Sg} {o:BH} (hc:OK o=true) (oV:∀d,o.dst=some d->d.rs=G.GJ d.d) (IW:∀s,E9 (G.GJ s) (σ s)=true) (he:KH P G o (· =τ) σ):(∀s,s∉RC G o->τ s=σ s)/\∀s,E9 (G.GJ s) (τ s)=true:=by
 obtain⟨τ',_,h⟩:=YC hc oV (⟨λ_ _=>rfl,λs _=>IW s⟩:Ag G (· ∈ZV G o) σ σ) he
 refine⟨λs hs=>(h.off s hs).2,λs=> ?_⟩
 by_cases hs:s∈RC G o
 . exact h.ag.ri s hs
 . rw[(h.off s hs).2];exact IW s
def Eu (L:Nat->Bool) (W:Nat->List Nat) (s:Nat):Nat->Nat
 |0=>0
 |m+1=>if L m=true/\s∈W m then m+1 else Eu L W s m
theorem WH (L:Nat->Bool) (W:Nat->List Nat) (s m:Nat):Eu L W s m≤m:=by
 induction m with
 |zero=>simp[Eu]
 |succ m ih=>simp only[Eu];split<;>omega
section
variable {q:Nat->Sg} {L L':Nat->Bool} {W R:Nat->List Nat} {n i:Nat}
theorem xZ (hi:L i=false) (UP:i<n) (Rk:∀j s,j<n->s∉W j->q (j+1) s=q j s)
 (Xl:∀j s,j<i->s∈W j->s∈R i->L j=true) (MY:∀j s,i<j->j<n->s∈W j->s∈R i->L j=true->L i=true) {s:Nat} (hs:s∈R i):q (Eu L W s n) s=q i s:=by
 have:∀m,m≤n->q (Eu L W s m) s=q (min m i) s:=by
  intro m
  induction m with
  |zero=>intro _;simp[Eu]
  |succ m ih=>
   intro hm
   simp only[Eu]
   by_cases h1:m<i
   . rw[show min (m+1) i=m+1 from by omega]
     by_cases h2:s∈W m
     . rw[AAY ⟨Xl m s h1 h2 hs,h2⟩]
     . rw[AAX (λh=>h2 h.2),ih (by omega),show min m i=m from by omega,Rk m s (by omega) h2]
   . rw[AAX,ih (by omega),show min m i=i from by omega,show min (m+1) i=i from by omega]
     rintro⟨h3,h4⟩
     by_cases h5:m=i
     . subst h5;rw[hi]at h3;cases h3
     . have:=MY m s (by omega) (by omega) h4 hs h3
       rw[hi]at this;cases this
 rw[this n (AAy _),show min n i=i from by omega]
theorem x7 (UP:i<n) (hL:∀j,L' j=(L j||j==i)) (hi:L i=false) (MY:∀j s,i<j->j<n->s∈W j->s∈W i->L j=true->L i=true) {s:Nat} (hs:s∈W i):Eu L' W s n=i+1:=by
 have:∀m,i<m->m≤n->Eu L' W s m=i+1:=by
  intro m
  induction m with
  |zero=>intro h;omega
  |succ m ih=>
   intro h1 h2
   simp only[Eu]
   by_cases h3:m=i
   . subst h3;rw[AAY ⟨by simp[hL],hs⟩]
   . rw[AAX,ih (by omega) (by omega)]
     rintro⟨h4,h5⟩
     rw[hL]at h4
     have h6:L m=true:=by simpa[h3]using h4
     have:=MY m s (by omega) (by omega) h5 hs h6
     rw[hi]at this;cases this
 exact this n UP (AAy _)
theorem pP (hL:∀j,L' j=(L j||j==i)) {s:Nat} (hs:s∉W i) (m:Nat):Eu L' W s m=Eu L W s m:=by
 induction m with
 |zero=>rfl
 |succ m ih=>
  simp only[Eu,ih,hL]
  by_cases h:m=i
  . subst h;simp[hs]
  . simp[h]
theorem pO (Hm:∀j,j<n->L j=true) (Rk:∀j s,j<n->s∉W j->q (j+1) s=q j s) (s:Nat):∀m,m≤n->q (Eu L W s m) s=q m s:=by
 intro m
 induction m with
 |zero=>intro _;rfl
 |succ m ih=>
  intro hm
  simp only[Eu]
  by_cases h:s∈W m
  . rw[AAY ⟨Hm m (by omega),h⟩]
  . rw[AAX (λx=>h x.2),ih (by omega),Rk m s (by omega) h]
end
end Go.Abs
