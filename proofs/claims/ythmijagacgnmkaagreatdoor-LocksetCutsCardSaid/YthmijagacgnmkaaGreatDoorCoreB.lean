/- A calculus of abstract states of Go memory, and that it is sound. -/
import Derived.Test.YthmijagacgnmkaaGreatDoorCoreA
import Derived.Laws.MakeOwn
set_option linter.unusedSimpArgs false
set_option linter.unusedVariables false
namespace Go.Abs
variable {w w':World} {S S':Nat->Prop} {G:Gi} {δ:Nat->DV} {Fr:Nat->Nat->Prop} {P:Program}
theorem aV (b:Nat->AB8 (Nat×Nat)) (a:List Value) (i off n:Nat) (v:Value) (c:List (Nat×Value)) (vs:List Value) (j:b i=some (off,n)) (f:v.cells=vs.toArray) (hn:vs.length=n) (k:off+n≤a.length):
 Instr.fill b a.toArray ((i,v)::c)=Instr.fill b (a.take off++vs++a.drop (off+vs.length)).toArray c:=by
 have h:(decide (v.cells.size≠n)||decide (off+v.cells.size>a.toArray.size))=false:=by simp[f,hn];omega
 have d:=fold_set vs off a.toArray (by simp;omega) 0;simp only[Nat.add_zero]at d;rcases d with d|d
 . have:(v.cells.zipIdx.foldl (λg (x:Value×Nat)=>g.setIfInBounds (off+x.2) x.1) a.toArray)=(a.take off++vs++a.drop (off+vs.length)).toArray:=(by apply ABx;rw[f,← d];have e:vs.toArray.zipIdx=vs.zipIdx.toArray:=(by simp);rw[e];simp);simp only[Instr.fill,j,h];simp only[AAr,AAx];exact AB6 (λz=>Instr.fill b z c) this
 . simp at d;omega
def Ly (place:Nat->AB8 (Nat×Nat)):List (Nat×Operand)->List (Nat×Nat×Ar)->Bool
 |[],[]=>true
 | (i,x)::qs,(off,n,y)::ps=>(match place i with|some (o',n')=>o'==off&&n'==n|none=>false)&&CM x y&&Ly place qs ps
 |_,_=>false
theorem St.Vx {a:Act} {b:Nat->AB8 (Nat×Nat)} (L:List (Nat×Nat×Ar)):∀(l:List (Nat×Operand)) {δ:Nat->DV} {Fr:Nat->Nat->Prop} {ds:List DV} {Fd:Nat->Prop} {f:List AV} {τ:Sg},St G w S δ Fr->Rd δ a->
 Ly b l L=true->Jm w S ds Fd->(∀s x,Fr s x->¬Fd x)->(ds.map DV.er).all Fj=true->Abs.Vx G L (ds.map DV.er) (λs=>(δ s).er)=some (f,τ)->
 ∃B N E J,St G w S B N/\(λs=>(B s).er)=τ/\(∀s,(B s).A0=(δ s).A0)/\Jm w S E J/\E.map DV.er=f/\Instr.fill b (ds.map DV.A0).toArray (l.map λ(i,x)=>(i,a.eval x))=some (E.map DV.A0).toArray/\
  (∀s x,N s x->¬J x)/\(∀x,BE N x∨J x->BE Fr x∨Fd x)/\f.all Fj=true:=by
 induction L with
 |nil=>
  intro l δ Fr ds Fd f τ h Q d M K C g;cases l with
  |cons q l=>simp[Ly]at d
  |nil=>simp only[Abs.Vx,AAh,AAv]at g;obtain⟨rfl,rfl⟩:=g;exact⟨δ,Fr,ds,Fd,h,rfl,λ_=>rfl,M,rfl,by simp[Instr.fill],K,λx m=>m,C⟩
 |cons p L ih=>
  obtain⟨off,n,y⟩:=p;intro l δ Fr ds Fd f τ h Q d M K C g;cases l with
  |nil=>simp[Ly]at d
  |cons q l=>
   obtain⟨i,x⟩:=q;simp only[Ly,AAi]at d;obtain⟨⟨H,T⟩,R⟩:=d;have W:b i=some (off,n):=by
    split at H
    . rename_i o' n' Uo;simp only[AAi,AAw]at H;rw[Uo,H.1,H.2]
    . cases H
   obtain⟨hy,NJ⟩:=Am T Q;simp only[Abs.Vx]at g;split at g
   . rename_i v τ1 I;split at g
     . rename_i Fp;obtain⟨hn,TV,O⟩:=Fp;obtain⟨δ1,F1,D,Ff,e,JU,Fk,Ud⟩:=h.tk hy I;subst JU;subst Fk;have V:=Lr D e.ok.LD;have hl:(cellsD D).length=n:=(by rw[← hn,← V];simp);have Ue:=Lv e.ok O;have U:∀x,Fd x->¬Ff x:=(by intro x m hf;obtain⟨t,I⟩:=e.own x (.inr hf);exact K t x I m);have u:off+(cellsD D).length≤ds.length:=(by rw[hl];simpa using TV);obtain⟨F2,Zi,jK⟩:=XL off M (Nd e.ok) U u;have Mm:∀s x,F1 s x->¬F2 x:=by
        intro s x m h2;rcases jK x h2 with o|o
        . obtain⟨t,I⟩:=e.own x (.inl ⟨s,m⟩);exact K t x I o
        . exact e.MT s x m o
       have X:=pY ds (cellsD D) off;have j:((ds.take off++cellsD D++ds.drop (off+(cellsD D).length)).map DV.er).all Fj=true:=by
        rw[AAm]at C O ⊢;intro c d;simp only[ABL,AAz]at d;rcases d with(d|d)|d
        . exact C c (by rw[ABz]at d;exact AB4 d)
        . rw[V]at d;exact O c d
        . exact C c (by rw[List.map_drop]at d;exact List.mem_of_mem_drop d)
       rw[← V]at g;rw[← X]at g;obtain⟨Z,F2',E,J,KY,Rx,Ml,F,Pj,X1,r,z,k⟩:=ih l e.st (λs=>(Q s).trans (e.A0 s).symm) R Zi Mm j g;refine⟨Z,F2',E,J,KY,Rx,λs=>(Ml s).trans (e.A0 s),F,Pj,?_,r,?_,k⟩
       . simp only[AAy];rw[aV b (ds.map DV.A0) i off n (a.eval x) _ ((cellsD D).map DV.A0) W (by rw[NJ,← Ud];exact Ue) (by simpa using hl) (by simpa using TV)];rw[← X1];congr 2;simp[ABz,List.map_drop]
       . intro x m;rcases z x m with o|o
         . exact .inl (e.own x (.inl o))
         . rcases jK x o with P|P
           . exact .inr P
           . exact .inl (e.own x (.inr P))
     . cases g
   . cases g
theorem runs_bld (h:St G w S δ Fr) {a:Act} (l:Rd δ a) {o:Oper} {t:TypeId} {b:Array (Nat×Operand)} {f:Nat->AB8 (Nat×Nat)} {z:List AV} {k:List DV} {r:List (Nat×Nat×Ar)} {d:Dn} (hd:JL G a o (some d)) (L:o.op= .build t b)
 (N:Xj z=some k) (j:z.all Fj=true) (p:Ly f b.toList r=true)
 (M:∀c:Array Value,Instr.fill f (k.map DV.A0).toArray (b.toList.map λ(i,x)=>(i,a.eval x))=some c->(Instr.build t (b.map λ(i,x)=>(i,a.eval x))).run P w= .ok (.agg c) w) {σ':Sg}
 (m:Gn G (.Uc z r) (some d) (λs=>(δ s).er)=some σ'):Qu P G w S Fr a o σ':=by
 have g:k.map DV.er=z/\Jm w S k (λ_=>False):=by have:=Iu (w:=w) (S:=S) (δ:=δ) (.agg z) (.agg k) (by simp[JE,N]);exact⟨by simpa using this.1,B2.1 this.2.1⟩
 simp only[Gn]at m;split at m
 . rename_i T τ y;rw[← g.1]at y j;obtain⟨Q,R,J,O,v,H,F,B,I,K,E,C,u⟩:=h.Vx (a:=a) r b.toList l p g.2 (λ_ _ _ h=>h) j y;subst H;subst I;refine KV (D:=.agg J) (Ff:=O) v (λs=>(l s).trans (F s).symm) hd ?_ (λ_ _=>rfl) (λ_ _ _=>rfl) (λ_ h=>h) (λs x q=>(v.ok s).E7 x q) (B2.2 B) E (.agg _ λi e hi=> ?_) (by simpa using m) (Nx.less ?_)
   . have:=M _ K;simp only[execOp,L,Sem.run_bind,this,Result.andThen_ok,Sem.run_pure,KE]
   . exact Rj (λa l=>by rw[AAm]at u;exact u a l) e (AAu hi)
   . intro x q;rcases C x q with n|n
     . exact n
     . exact n.elim
 . cases m
theorem VL {d:Type} {rows:List (List d)} {k i:Nat} {r:List d} (c:∀a∈rows,a.length=k) (hi:i<rows.length) (h:r.length=k):(rows.set i r).flatten=rows.flatten.take (i*k)++r++rows.flatten.drop (i*k+r.length):=by
 induction rows generalizing i with
 |nil=>simp at hi
 |cons x xs ih=>
  have b:=c x (by simp);cases i with
  |zero=>simp[h,← b]
  |succ i=>simp only[List.set_cons_succ,List.flatten_cons];rw[ih (λa e=>c a (by simp[e])) (by simpa using hi)];have f:(x++xs.flatten).take ((i+1)*k)=x++xs.flatten.take (i*k):=(by rw[show(i+1)*k=x.length+i*k from by rw[ABl,b];omega,List.take_length_add_append]);have g:(x++xs.flatten).drop ((i+1)*k+r.length)=xs.flatten.drop (i*k+r.length):=(by rw[show(i+1)*k+r.length=x.length+(i*k+r.length)from by rw[ABl,b];omega,List.drop_length_add_append]);rw[f,g];simp[ABt]
def OE (k:Nat):List (Nat×Operand)->List (Nat×Ar)->Bool
 |[],[]=>true
 | (i,x)::qs,(j,y)::ps=>i==j&&CM x y&&OE k qs ps
 |_,_=>false
theorem St.Vy {a:Act} {k:Nat} (K:List (Nat×Ar)):∀(d:List (Nat×Operand)) {δ:Nat->DV} {Fr:Nat->Nat->Prop} {ds:List (List DV)} {Fd:Nat->Prop} {rs:List (List AV)} {τ:Sg},St G w S δ Fr->Rd δ a->
 OE k d K=true->Jm w S ds.flatten Fd->(∀r∈ds,r.length=k)->(∀s x,Fr s x->¬Fd x)->Abs.Vy G k K (ds.map (·.map DV.er)) (λs=>(δ s).er)=some (rs,τ)->
 ∃(u:Nat->DV) (M:Nat->Nat->Prop) (g:List (List DV)) (I:Nat->Prop),St G w S u M/\(λs=>(u s).er)=τ/\(∀s,(u s).A0=(δ s).A0)/\Jm w S g.flatten I/\(∀r∈g,r.length=k)/\g.length=ds.length/\g.map (·.map DV.er)=rs/\
  Instr.fill (λi=>some (i*k,k)) (ds.flatten.map DV.A0).toArray (d.map λ(i,x)=>(i,a.eval x))=some (g.flatten.map DV.A0).toArray/\(∀s x,M s x->¬I x)/\(∀x,BE M x∨I x->BE Fr x∨Fd x):=by
 induction K with
 |nil=>
  intro d δ Fr ds Fd rs τ h O C L z J c;cases d with
  |cons q d=>simp[OE]at C
  |nil=>simp only[Abs.Vy,AAh,AAv]at c;obtain⟨rfl,rfl⟩:=c;exact⟨δ,Fr,ds,Fd,h,rfl,λ_=>rfl,L,z,rfl,rfl,by simp[Instr.fill],J,λx e=>e⟩
 |cons p K ih=>
  obtain⟨j,y⟩:=p;intro d δ Fr ds Fd rs τ h O C L z J c;cases d with
  |nil=>simp[OE]at C
  |cons q d=>
   obtain⟨i,x⟩:=q;simp only[OE,AAi,AAw]at C;obtain⟨⟨rfl,Q⟩,P⟩:=C;obtain⟨hy,NJ⟩:=Am Q O;simp only[Abs.Vy]at c;split at c
   . rename_i v τ1 H;split at c
     . rename_i Fp;obtain⟨hn,hi,Ie⟩:=Fp;obtain⟨δ1,Z,D,Ff,b,JU,Fk,Ud⟩:=h.tk hy H;subst JU;subst Fk;have W:=Lr D b.ok.LD;have B:(cellsD D).length=k:=(by rw[← hn,← W];simp);have Ue:=Lv b.ok Ie;have hi':i<ds.length:=(by simpa using hi);have R:∀x,Fd x->¬Ff x:=(by intro x e hf;obtain⟨t,H⟩:=b.own x (.inr hf);exact J t x H e);have m:i*k+(cellsD D).length≤ds.flatten.length:=(by rw[Dk z,B,← ABl];exact ABQ _ hi');obtain⟨F2,V,X⟩:=XL (i*k) L (Nd b.ok) R m;rw[← VL z hi' B]at V;have Mm:∀s x,Z s x->¬F2 x:=by
        intro s x e h2;rcases X x h2 with l|l
        . obtain⟨t,H⟩:=b.own x (.inl ⟨s,e⟩);exact J t x H l
        . exact b.MT s x e l
       have VR:∀r∈ds.set i (cellsD D),r.length=k:=by
        intro r hr;rcases ABB hr with h|rfl
        . exact z r h
        . exact B
       rw[← W]at c;rw[← ABY (f:=λx:List DV=>x.map DV.er)]at c;obtain⟨U,F2',g,I,KY,Rx,Ml,F,T,E,Pj,X1,n,o⟩:=ih d b.st (λs=>(O s).trans (b.A0 s).symm) P V VR Mm c;refine⟨U,F2',g,I,KY,Rx,λs=>(Ml s).trans (b.A0 s),F,T,by simpa using E,Pj,?_,n,?_⟩
       . simp only[AAy];rw[aV _ (ds.flatten.map DV.A0) i (i*k) k (a.eval x) _ ((cellsD D).map DV.A0) rfl (by rw[NJ,← Ud];exact Ue) (by simpa using B) (by rw[ABI];rw[B]at m;exact m)];rw[← X1,VL z hi' B];congr 2;simp[ABz,List.map_drop]
       . intro x e;rcases o x e with l|l
         . exact .inl (b.own x (.inl l))
         . rcases X x l with N|N
           . exact .inr N
           . exact .inl (b.own x (.inr N))
     . cases c
   . cases c
def uM:List (List AV)->AB8 (List (List DV))
 |[]=>some []
 |r::rs=>match Xj r,uM rs with
  |some d,some ds=>some (d::ds)
  |_,_=>none
theorem nT (rs:List (List AV)) (ds:List (List DV)) (h:uM rs=some ds):ds.map (·.map DV.er)=rs/\Jm w S ds.flatten (λ_=>False):=by
 induction rs generalizing ds with
 |nil=>simp only[uM,AAh]at h;subst h;exact⟨rfl,λ_ h=>h⟩
 |cons r rs ih=>
  simp only[uM]at h;split at h
  . rename_i d a c e;obtain rfl:=AAl h;obtain⟨b,g2⟩:=ih a e
    have:=Iu (w:=w) (S:=S) (δ:=λ_=>default) (.agg r) (.agg d) (by simp[JE,c]);refine⟨by simp[b];simpa using this.1,?_⟩;simp only[List.flatten_cons];exact(Lt (B2.1 this.2.1) g2 (λ_ h=>h.elim)).congr λx=>by simp
  . cases h
theorem runs_bsl (h:St G w S δ Fr) (M:∀b,S b->b<w.heap.size) {a:Act} (J:Rd δ a) {o:Oper} {t e:TypeId} {len k:Nat} {f:Array (Nat×Operand)} {z:List (List AV)} {u:List (List DV)} {H:List (Nat×Ar)} {d:Dn} (hd:JL G a o (some d)) (X:o.op= .buildSlice t len f)
 (hz:uM z=some u) (D:∀r∈z,r.length=k) (F:z.length=len) (B:OE k f.toList H=true)
 (C:∀g:Array Value,Instr.fill (λi=>some (i*k,k)) (u.flatten.map DV.A0).toArray (f.toList.map λ(i,x)=>(i,a.eval x))=some g->
  (Instr.buildSlice t len (f.map λ(i,x)=>(i,a.eval x))).run P w= .ok (.slice (some ⟨w.heap.size,0,none⟩) len len) (w.alloc (.cells g e))) {σ':Sg}
 (v:Gn G (.Na k z H) (some d) (λs=>(δ s).er)=some σ'):Qu P G w S Fr a o σ':=by
 obtain⟨m,q⟩:=nT (w:=w) (S:=S) z u hz;have p:∀r∈u,r.length=k:=by
  intro r C
  have:=D (r.map DV.er) (by rw[← m];exact ABm C);simpa using this
 have l:u.length=len:=by rw[← F,← m];simp
 simp only[Gn]at v;split at v
 . rename_i rs τ K;rw[← m]at K;obtain⟨δ',F',I,l7,N,U,T,O,L,j,V,W,R,Q⟩:=h.Vy (a:=a) H f.toList J B q p (λ_ _ _ h=>h) K;subst U;subst V;refine Y2 (bx:=false) (k:=k) (c:=len) (rows:=I) (Fd:=l7) (arr:=(I.flatten.map DV.A0).toArray) (E:=e) N M (λs=>(J s).trans (T s).symm) hd ?_ O R L ?_ ?_ v ?_
   . have:=C _ W;simp only[execOp,X,Sem.run_bind,this,Result.andThen_ok,Sem.run_pure,Jp,AAr,AAx,j,l]
   . simp only[AAr,AAx,List.size_toArray,ABI,Dk L,j,l];exact⟨trivial,AA8 _⟩
   . intro n d hn;rw[List.getElem?_toArray,AAt,hn];rfl
   . intro x Z;rcases Q x Z with y|y
     . exact y
     . exact y.elim
 . cases v
theorem Rr (z:List AV) (a:List DV) (h:Xj z=some a):a.map DV.er=z/\∀D∈a,Ok w S D (λ_=>False):=by
 obtain⟨f,g,_⟩:=Iu (w:=w) (S:=S) (δ:=λ_=>.lf .un undef) (.agg z) (.agg a) (by simp[JE,h]);refine⟨by simpa using f,λD j=> ?_⟩;obtain⟨b,c,_,_,d⟩:=KB.1 (B2.1 g);obtain⟨i,hi⟩:=AA7 j
 have:=c i D hi;have e:b i=λ_=>False:=funext λx=>propext ⟨λk=>(d x).2 ⟨i,k⟩,False.elim⟩;rwa [e]at this
theorem flat_rep {b:Type} (a:List b) (l:Nat):∀n,n<l*a.length->(List.replicate l a).flatten[n]? =a[n%a.length]? :=by
 induction l with
 |zero=>intro n h;omega
 |succ l ih=>
  intro n h;rw[List.replicate_succ,List.flatten_cons];by_cases hn:n<a.length
  . rw[ABA hn,Nat.mod_eq_of_lt hn]
  . rw[ABC (by omega),ih (n-a.length) (by rw[Nat.add_mul,Nat.one_mul]at h;omega),← Nat.mod_eq_sub_mod (by omega)]
theorem runs_mk (h:St G w S δ Fr) (C8:∀b,S b->b<w.heap.size) {a:Act} (v:Rd δ a) {o:Oper} {t e:TypeId} {k bytes:Nat} {x y:Operand} {z:List AV} {f:List DV} {X Z:Ar} {d:Dn} {i:TypeInfo} {zv:Value} (hd:JL G a o (some d)) (ho:o.op= .makeSlice t x y)
 (hu:P.underlying t=some (.slice e)) (hi:P.info? e=some i) (O:i.zero=some zv) (T:i.size=k) (B:i.bytes=bytes) (vL:0<bytes) (oN:0<k) (M:Xj z=some f) (p:zv.cells.toList=f.map DV.A0) (N:z.length=k)
 (H:CM x X=true) (I:CM y Z=true) {σ':Sg} (g:Gn G (.mk k bytes z X Z) (some d) (λs=>(δ s).er)=some σ'):Qu P G w S Fr a o σ':=by
 obtain⟨L,ex⟩:=Am H v;obtain⟨hy,ey⟩:=Am I v;simp only[Gn]at g;split at g
 . rename_i l c J C;split at g
   . rename_i Fp;obtain⟨h0,Qy,Pm⟩:=Fp;obtain⟨kl,J⟩:=OC J;obtain⟨kc,C⟩:=OC C;obtain⟨el,_⟩:=h.FB L J;obtain⟨ec,_⟩:=h.FB hy C;have hr:c.toNat*bytes≤70368744177664:=(by simpa[Ak]using Pm);have F:(c.toNat:Int)=c:=Int.toNat_of_nonneg (by omega);have U:c.toNat≤c.toNat*bytes:=Nat.le_mul_of_pos_right _ vL;have r:f.length=k:=(by have:=AB6 List.length (Rr (w:=w) (S:=S) z f M).1;rw[ABI]at this;rw[this,N]);have Ce:=run_make (P:=P) w t e i zv hu hi O kl kc l c h0 Qy (by rw[B,← F];have:(bytes:Int)*(c.toNat:Int)=((c.toNat*bytes:Nat):Int):=(by rw[ABZ];simp);rw[this];omega) (by omega);have q:zv.cells.size=k:=(by have:=AB6 List.length p;simp only[ABI,r]at this;simpa using this);have R:(List.replicate l.toNat f).length=l.toNat:=(by simp);refine Y2 (bx:=false) (k:=k) (c:=c.toNat) (rows:=List.replicate l.toNat f) (Fd:=λ_=>False) (arr:=madeCells zv.cells (c.toNat*i.size)) (E:=e) h C8 v hd ?_ ?_ (λ_ _ _ h=>h) ?_ ?_ ?_ ?_ (λx L=>L.elim id False.elim)
     . simp only[execOp,ho,ex,ey,el,ec,Sem.run_bind,Ce,Result.andThen_ok,Sem.run_pure,Jp,AAr,AAx,R]
     . refine CC λD hD=> ?_;obtain⟨Q,u,j⟩:=List.mem_flatten.1 hD;rw[ABg u]at j;exact(Rr z f M).2 D j
     . intro Q u;rw[ABg u,r]
     . simp only[AAr,AAx,size_madeCells,T,R];exact⟨trivial,by omega⟩
     . intro n D hn;have m:n<l.toNat*f.length:=(by have:=(AAj.1 hn).1;simpa using this);rw[flat_rep f l.toNat n m]at hn;have V:l.toNat*k≤c.toNat*k:=ABQ _ (by omega);have K:n<c.toNat*i.size:=(by rw[T];rw[r]at m;omega);have W:n%k<k:=Nat.mod_lt _ oN;rw[r]at hn;have Bo:zv.cells[n%k]? =some D.A0:=(by rw[← Array.getElem?_toList,p,AAt,hn];rfl);simp only[madeCells,Array.getElem?_map,Array.getElem?_range,AAs K,AA9,q];rw[getElem!_def,Bo]
     . have:(List.replicate l.toNat f).map (·.map DV.er)=List.replicate l.toNat z:=(by rw[List.map_replicate,(Rr (w:=w) (S:=S) z f M).1]);rw[this];exact g
   . cases g
 . cases g
end Go.Abs
namespace Go.Abs
variable {w w':World} {S S':Nat->Prop} {G:Gi} {δ:Nat->DV} {Fr:Nat->Nat->Prop} {P:Program}
def Bd (v:AB8 Value) (dflt n:Nat):Prop:=(v=none/\n=dflt)∨∃kk i,v=some (.int kk i)/\0≤i/\i.toNat=n
theorem St.bd (h:St G w S δ Fr) {a:Act} (f:Rd δ a) {x:AB8 Operand} {y:AB8 Ar} (c:Ro x y=true) {dflt n:Nat} (b:Nt (λs=>(δ s).er) y dflt=some n):Bd (x.map a.eval) dflt n/\(x=none↔y=none):=by
 unfold Ro at c;split at c
 . simp only[Nt,AAh]at b;exact⟨.inl ⟨rfl,b.symm⟩,by simp⟩
 . rename_i x y;obtain⟨j,g⟩:=Am c f;simp only[Nt]at b;split at b
   . rename_i i hi;split at b
     . rename_i e;simp only[AAh]at b;obtain⟨k,hi⟩:=OC hi;obtain⟨d,_⟩:=h.FB j hi;exact⟨.inr ⟨k,i,by simp[g,d],e,b⟩,by simp⟩
     . cases b
   . cases b
 . cases c
theorem I4 {c:IntKind} {i:Int} {y n:Nat} {a:BoundsCode} (b:0≤i) (hn:i.toNat=n) (d:n≤y) (w:World):(Instr.sliceBound (.int c i) y a).run P w= .ok n w:=by
 have:i≤y:=by omega
 simp[Instr.sliceBound,asIntOf,b,this,hn]
theorem eX {t e:TypeId} {k len cap l h m:Nat} (u:P.underlying t=some (.slice e)) (B:Gv P e=some k) {lo hi mx:AB8 Value} (C:Bd lo 0 l) (z:Bd hi len h) (D:Bd mx cap m) (q:mx≠none->hi≠none) (p:l≤h) (o:h≤m) (r:m≤cap) (d:AB8 Addr) (w:World):
 (Instr.sliceAt t (.slice d len cap) lo hi mx).run P w= .ok (.slice (if m=l then d else d.map (·.add (l*k))) (h-l) (m-l)) w:=by
 have y:(Instr.sliceBounds true len cap lo hi mx).run P w= .ok (l,h,m) w:=by
  rcases D with⟨rfl,rfl⟩|⟨I,G,rfl,i,j⟩<;>rcases z with⟨rfl,rfl⟩|⟨H,E,rfl,b,c⟩<;>rcases C with⟨rfl,rfl⟩|⟨kl,F,rfl,f,g⟩<;>
   first
    | (simp[Instr.sliceBounds,I4 i j r,I4 b c o,I4 f g p];done)
    | (simp[Instr.sliceBounds,I4 i j r,I4 b c o];done)
    | (simp[Instr.sliceBounds,I4 b c o,I4 f g p];done)
    | (simp[Instr.sliceBounds,I4 b c o];done)
    | (simp[Instr.sliceBounds,I4 f g p];done)
    | (simp[Instr.sliceBounds];done)
    |exact absurd rfl (q (by simp))
 have:(Instr.sliceAt t (.slice d len cap) lo hi mx)=(do match ← underlying t with
  | .array n elem=>
   let a ← Instr.sureAddr (.slice d len cap)
   let(l,h,m) ← Instr.sliceBounds false n n lo hi mx
   let size ← sizeOf elem
   pure (.slice (some (if m=l then a else a.add (l*size))) (h-l) (m-l))
  |_=>Instr.slice t (.slice d len cap) lo hi mx):=rfl
 rw[this];simp only[Sem.run_bind,run_underlying u,Result.andThen_ok];have v:(Instr.slice t (.slice d len cap) lo hi mx)=(do
  match ← underlying t,(Value.slice d len cap)with
  | .string,.string s=>
   if mx.isSome then stuck "Slice: full slice of a string"
   let(l,h,_) ← Instr.sliceBounds false s.size s.size lo hi none
   pure (.string (s.extract l h))
  | .slice elem,.slice a len cap=>
   let(l,h,m) ← Instr.sliceBounds true len cap lo hi mx
   let size ← sizeOf elem
   pure (.slice (if m=l then a else a.map (·.add (l*size))) (h-l) (m-l))
  | .pointer arr,x=>
   let a ← asAddr x
   let .array n elem ← underlying arr|stuck "Slice: array type expected"
   let(l,h,m) ← Instr.sliceBounds false n n lo hi mx
   let size ← sizeOf elem
   pure (.slice (some (if m=l then a else a.add (l*size))) (h-l) (m-l))
  |_,_=>stuck "Slice: string, slice or pointer to array expected"):=rfl
 rw[v];simp only[Sem.run_bind,run_underlying u,Result.andThen_ok,y,run_sizeOf B,Sem.run_pure]
theorem Fz.cut {e:Bool} {k:Nat} {rows:List (List AV)} {o:AB8 Addr} {n cap l h m:Nat} {x:Bool} (v:Fz w S (.sl e k rows) (.slice o n cap)) (z:l≤h) (u:h≤rows.length) (B:h≤m) (s:x=true->m=h):
 Fz w S (.sl x k ((rows.drop l).take (h-l))) (.slice (if m=l then o else o.map (·.add (l*k))) (h-l) (m-l)):=by
 have f:((rows.drop l).take (h-l)).length=h-l:=by simp;omega
 by_cases p:h=l
 . subst p;simp only[Nat.sub_self,List.take_zero];exact .nil x k _ _ (λq=>by have:=s q;omega)
 . have y:m≠l:=(by omega);cases v with
   |nil=>simp at u;omega
   |sl _ _ _ b off c vs hxe Qy hS hk hc hr=>
    simp only[y,AAx,AA9,Addr.add_lit];have g:∀i d,((rows.drop l).take (h-l))[i]? =some d->rows[l+i]? =some d:=by
     intro i d hi;rw[ABi]at hi;split at hi
     . simpa using hi
     . cases hi
    have key:Fz w S (.sl x k ((rows.drop l).take (h-l))) (.slice (some ⟨b,off+l*k,none⟩) ((rows.drop l).take (h-l)).length (m-l)):=by
     refine .sl x k _ b (off+l*k) (m-l) (λi j=>vs (l+i) j) (λq=>by have:=s q;rw[f];omega) (by rw[f];omega) hS (λd t=>hk d (List.mem_of_mem_drop (AB4 t))) ?_ ?_
     . intro i j d a hi r
       have:=hc (l+i) j d a (g i d hi) r;rw[show off+l*k+(i*k+j)=off+((l+i)*k+j)from by rw[Nat.add_mul];omega];exact this
     . intro i j d a hi r;exact hr (l+i) j d a (g i d hi) r
    rw[f]at key;exact key
theorem OH {rows rs:List (List AV)} {l h:Nat} (a:TF rows l h=some rs):l≤h/\h≤rows.length/\rs=(rows.drop l).take (h-l):=by
 unfold TF at a;split at a
 . rename_i b;exact⟨b.1,b.2,(AAl a).symm⟩
 . cases a
theorem St.bdM (h:St G w S δ Fr) {a:Act} (l:Rd δ a) {x:AB8 Operand} {y:AB8 Ar} (e:Ro x y=true) {c m cap:Nat} (n:zA (λs=>(δ s).er) y c=some m) (f:m=c) (g:c≤cap):
 ∃d,Bd (x.map a.eval) cap d/\c≤d/\d≤cap/\(y.isSome=true->d=c):=by
 cases y with
 |none=>
  cases x with
  |none=>exact⟨cap,.inl ⟨rfl,rfl⟩,g,AA8 _,by simp⟩
  |some x=>simp[Ro]at e
 |some y=>
  obtain⟨b,_⟩:=h.bd l e (dflt:=0) (by simpa only[zA]using n);subst f;cases x with
  |none=>simp[Ro]at e
  |some x=>
   rcases b with⟨b,_⟩|⟨o,i,b,j,k⟩
   . simp at b
   . exact⟨m,.inr ⟨o,i,b,j,k⟩,AA8 _,g,λ_=>rfl⟩
theorem kV (h:St G w S δ Fr) {a:Act} (z:Rd δ a) {o:Oper} {t e:TypeId} {x:Operand} {lo hi mx:AB8 Operand} {k:Nat} {y:Ar} {lo' hi' u:AB8 Ar} {d:Dn} (hd:JL G a o (some d)) (ho:o.op= .slice t x lo hi mx)
 (hu:P.underlying t=some (.slice e)) (hk:Gv P e=some k) (hc:CM x y=true) (Zh:Ro lo lo'=true) (NI:Ro hi hi'=true) (T:Ro mx u=true) (hmh:mx=none∨hi≠none) {σ':Sg}
 (f:Gn G (.zC k true y lo' hi' u) (some d) (λs=>(δ s).er)=some σ'):Qu P G w S Fr a o σ':=by
 obtain⟨hy,O⟩:=Am hc z;have C:mx.map a.eval≠none->hi.map a.eval≠none:=by
  intro E L;rcases hmh with h3|h3
  . simp[h3]at E
  . simp at L;exact h3 L
 simp only[Gn]at f;split at f
 . -- frozen already
   rename_i ee M rows pl X;split at f
   . rename_i l i J I;split at f
     . rename_i rs m j hm;split at f
       . rename_i Fp;obtain⟨rfl,n⟩:=Fp;obtain⟨E,L,rfl⟩:=OH j;have K:=(h.rB hy X).2 _ _ _ rfl (h.hdSl hy X);obtain⟨g,cap,H⟩:=Pc K;rw[H]at K O;have Q:rows.length≤cap:=by
          cases K with
          |nil=>simp
          |sl _ _ _ b off c vs hxe Q=>exact Q
         obtain⟨b1,_⟩:=h.bd z Zh J;obtain⟨b2,_⟩:=h.bd z NI I;obtain⟨q,b3,R,g2,g3⟩:=h.bdM z T hm n (cap:=cap) (by omega);have Ce:=eX (P:=P) hu hk b1 b2 b3 C E R g2 g w;have W:=K.cut (m:=q) (x:=u.isSome) E L R g3;have MV:(DV.lf (.sl u.isSome M ((rows.drop l).take (i-l))) (.slice (if q=l then g else g.map (·.add (l*M))) (i-l) (q-l))).er= .sl u.isSome M ((rows.drop l).take (i-l)):=by simp
         refine KV (D:=.lf (.sl u.isSome M ((rows.drop l).take (i-l))) (.slice (if q=l then g else g.map (·.add (l*M))) (i-l) (q-l))) (Ff:=λ_=>False) h z hd ?_ (λ_ _=>rfl) (λ_ _ _=>rfl) (λ_ h=>h) (λs x B=>(h.ok s).E7 x B)
          (.lf _ _ _ W (λ_ h=>h)) (λ_ _ _ h=>h) (.lf _ _ trivial) (by rw[MV];exact f) (Nx.less λx B=>B.elim id False.elim)
         simp only[execOp,ho,O,Sem.run_bind,Ce,Result.andThen_ok,Sem.run_pure,Kh]
       . cases f
     . cases f
   . cases f
 . -- frozen now
   rename_i M rows r p X;split at f
   . rename_i l i J I;split at f
     . rename_i rs m j hm;split at f
       . rename_i Fp;obtain⟨rfl,n⟩:=Fp;obtain⟨E,L,rfl⟩:=OH j;simp only[AA5]at f;split at f
         . rename_i fr τ K;obtain⟨δ1,F1,Fo,v,bx,N,Ao,CJ,JU,Dh,Bx,U,hfe,DA,D8,_⟩:=h.Qv K;subst JU;obtain⟨Z,F,Qi,Cj,Uo⟩:=(h.rB hy X).1 _ _ _ rfl;have LB:=Uo r p rfl;rw[Bx]at LB;simp only[AAh,DV.own.injEq]at LB;obtain⟨rfl,rfl,rfl,rfl⟩:=LB;have V:fr= .sl false N (rows.map (·.map JZ)):=(by rw[hfe];simp only[Et,OK,Qi]);rw[V]at U;obtain⟨g,cap,H⟩:=Pc U;rw[H]at U O;have jJ:(rows.map (·.map JZ)).length=rows.length:=(by simp);have Q:rows.length≤cap:=by
            rw[← jJ];generalize rows.map (·.map JZ)=rr at*;cases U with
            |nil=>simp
            |sl _ _ _ b off c vs hxe Q=>exact Q
           obtain⟨b1,_⟩:=h.bd z Zh J;obtain⟨b2,_⟩:=h.bd z NI I;rw[jJ]at O;obtain⟨q,b3,R,g2,g3⟩:=h.bdM z T hm n (cap:=cap) (by omega);have Ce:=eX (P:=P) hu hk b1 b2 b3 C E R g2 g w;have W:=U.cut (m:=q) (x:=u.isSome) E (by rw[jJ];exact L) R g3;rw[← List.map_drop,← ABz]at W;have MV:(DV.lf (.sl u.isSome N (((rows.drop l).take (i-l)).map (·.map JZ))) (.slice (if q=l then g else g.map (·.add (l*N))) (i-l) (q-l))).er= .sl u.isSome N (((rows.drop l).take (i-l)).map (·.map JZ)):=by simp
           refine KV (S:=S) (S':=λx=>S x∨Fo x) (D:=.lf (.sl u.isSome N (((rows.drop l).take (i-l)).map (·.map JZ))) (.slice (if q=l then g else g.map (·.add (l*N))) (i-l) (q-l))) (Ff:=λ_=>False) CJ (λs=>(z s).trans (Dh s).symm) hd ?_ (λ_ _=>rfl) (λ_ _ _=>rfl) (λ_ h=>h) (λs x B=>(CJ.ok s).E7 x B)
            (.lf _ _ _ W (λ_ h=>h)) (λ_ _ _ h=>h) (.lf _ _ trivial) (by rw[MV];exact f) ?_
           . simp only[execOp,ho,O,Sem.run_bind,Ce,Result.andThen_ok,Sem.run_pure,Kh]
           . refine Nx.JZ (λx B=>D8 x (B.imp (λh=>h.elim id False.elim) id)) λx B=> ?_;obtain⟨t,ht⟩:=D8 x (.inr B);exact(h.ok t).lt x ht
         . cases f
       . cases f
     . cases f
   . cases f
 . cases f
theorem Ok.front {v:Value} {k:Nat} {rows:List (List DV)} {F:Nat->Prop} (h:Ok w S (.own v false k rows) F) {n:Nat} (hn:n≤rows.length):
 ∃g c,v= .slice g rows.length c/\rows.length≤c/\(∀q:Nat,g.map (·.add (0*q))=g)/\∃r,Ok w S (.own (.slice g n c) false k (rows.take n)) r/\∀x,r x->F x:=by
 cases h with
 |nil _ _ hF=>simp only[ABo,Nat.le_zero]at hn;subst hn;exact⟨none,0,rfl,AA8 _,λ_=>rfl,F,.nil k F hF,λ_ h=>h⟩
 |own _ _ _ b c arr E Fs _ hb hk D6 Lk hv hr hd Bi KW hF=>
  simp only[AAr,AAx]at D6;have f:(rows.take n).length=n:=by simp;omega
  have e:∀i (a:List DV),(rows.take n)[i]? =some a->rows[i]? =some a/\i<n:=by
   intro i a hi;rw[ABi]at hi;split at hi
   . exact⟨hi,by assumption⟩
   . cases hi
  have key:Ok w S (.own (Jp false b (rows.take n).length c) false k (rows.take n)) (λx=>x=b∨∃i j,(i<n/\Fs i j x)):=by
   refine .own false k _ b c arr E (λi j x=>i<n/\Fs i j x) _ hb (λa s=>hk a (AB4 s)) (by simp only[AAr,AAx];omega) Lk ?_ ?_ (λi j u y x m o=>hd i j u y x m.2 o.2) ?_ (λi j h=>KW i j h.2) (λx=>AB7)
   . exactλi j a d hi p=>hv i j a d (e i a hi).1 p
   . intro i j a d hi p;obtain⟨l,g2⟩:=e i a hi;have:(λx=>i<n/\Fs i j x)=Fs i j:=funext λx=>propext ⟨λh=>h.2,λh=>⟨g2,h⟩⟩;rw[this];exact hr i j a d l p
   . rintro i j x ⟨m,o⟩;obtain⟨a,d,l,g2⟩:=Bi i j x o;exact⟨a,d,by rw[ABi,AAs m];exact l,g2⟩
  refine⟨some ⟨b,0,none⟩,c,by simp[Jp],D6.2,λq=>by simp[Addr.add],λx=>x=b∨∃i j,(i<n/\Fs i j x),?_,λx t=>(hF x).2 (t.elim .inl λ⟨i,j,h⟩=>.inr ⟨i,j,h.2⟩)⟩;rw[f]at key;simpa[Jp]using key
theorem xP (h:St G w S δ Fr) {a:Act} (i:Rd δ a) {o:Oper} {t e:TypeId} {x:Operand} {lo hi mx:AB8 Operand} {k:Nat} {y:Ar} {lo' hi' jZ:AB8 Ar} {d:Dn} (hd:JL G a o (some d)) (ho:o.op= .slice t x lo hi mx)
 (hu:P.underlying t=some (.slice e)) (hk:Gv P e=some k) (hc:CM x y=true) (Zh:Ro lo lo'=true) (NI:Ro hi hi'=true) (U:Ro mx jZ=true) (z:mx=none∨hi≠none) {σ':Sg}
 (b:Gn G (.zC k false y lo' hi' jZ) (some d) (λs=>(δ s).er)=some σ'):Qu P G w S Fr a o σ':=by
 obtain⟨hy,N⟩:=Am hc i;have hmh':mx.map a.eval≠none->hi.map a.eval≠none:=by
  intro O Q;rcases z with R|R
  . simp[R]at O
  . simp at Q;exact R Q
 by_cases E:∃ee k' rows pl,Abs.hd (λs=>(δ s).er) y=some (.sl ee k' rows,pl)
 . refine kV h i hd ho hu hk hc Zh NI U z ?_;obtain⟨ee,k',rows,pl,u⟩:=E;simp only[Gn,u]at b ⊢;exact b
 simp only[Gn]at b;split at b
 . rename_i u;exact absurd ⟨_,_,_,_,u⟩ E
 . rename_i k' rows r p u;split at b
   . rename_i l g X V;split at b
     . rename_i rs m q hm;split at b
       . rename_i Fp;obtain⟨rfl,hmeq⟩:=Fp;obtain⟨O,Q,rfl⟩:=OH q;rw[AAp (by simp)]at b;split at b
         . rename_i W;obtain⟨rfl,hmx⟩:=W;split at b
           . rename_i nn τ ht;obtain⟨δ1,F1,D,Ff,CJ,JU,Dh,Zj,Fk,⟨v,bx,I,K,rfl⟩,Bx,DA,D8,_⟩:=h.Z7 ht;subst JU;obtain⟨J,F,Qi,_,Uo⟩:=(h.rB hy u).1 _ _ _ rfl;have M:=Uo r p rfl;rw[Bx]at M;simp only[AAh,DV.own.injEq]at M;obtain⟨rfl,rfl,rfl,rfl⟩:=M;have jJ:K.length=rows.length:=(by rw[← Qi];simp);obtain⟨f,c,hv,Qy,j,F',C,oJ⟩:=Zj.front (n:=g) (by omega);rw[hv]at N;have Z:jZ=none:=(by simpa using hmx);subst Z;have B:mx=none:=(by cases mx<;>simp_all [Ro]);subst B;obtain⟨b1,_⟩:=h.bd i Zh X;obtain⟨b2,_⟩:=h.bd i NI V;rw[jJ]at N;have L:=eX (P:=P) hu hk b1 b2 (mx:=none) (cap:=c) (m:=c) (.inl ⟨rfl,rfl⟩) (by simp) O (by omega) (AA8 _) f w;have T:(if c=0 then f else f.map (·.add (0*I)))=f:=by
              split
              . rfl
              . exact j I
             rw[T,Nat.sub_zero,Nat.sub_zero]at L;have MV:(DV.own (.slice f g c) false I (K.take g)).er= .own false I ((rows.drop 0).take (g-0)):=(by simp[← Qi,ABz]);refine KV (D:=.own (.slice f g c) false I (K.take g)) (Ff:=F') CJ (λs=>(i s).trans (Dh s).symm) hd ?_ (λ_ _=>rfl) (λ_ _ _=>rfl) (λ_ h=>h) (λs x H=>(CJ.ok s).E7 x H)
              C (λs x H LS=>DA s x H (oJ x LS)) (.own _ _ _ _) (by rw[MV];exact b) (Nx.less λx H=>D8 x (H.imp id (oJ x)))
             simp only[execOp,ho,N,Option.map_none,Sem.run_bind,Option.map_none]at L ⊢;simp only[L,Result.andThen_ok,Sem.run_pure,Kz]
           . cases b
         . cases b
       . cases b
     . cases b
   . cases b
 . cases b
end Go.Abs
namespace Go.Abs
variable {w w':World} {S S':Nat->Prop} {G:Gi} {δ:Nat->DV} {Fr:Nat->Nat->Prop} {P:Program}
theorem putD_sub {t h new:DV} (p:List Step) {v:Value} {bx:Bool} {k i j:Nat} {rows:List (List DV)} {f:List DV} {g:DV} (e:Au t p=some (.own v bx k rows)) (l:rows[i]? =some f) (m:f[j]? =some g) (d:Di t (p++[(i,j,k)]) new=some h):
 Au h p=some (.own v bx k (rows.set i (f.set j new))):=by
 induction p generalizing t h with
 |nil=>simp only[Au,AAh]at e;subst e;simp only[List.nil_append,Di,l,m,AAh]at d;subst d;rfl
 |cons s p ih=>
  obtain⟨i0,j0,n⟩:=s;cases t with
  |lf a v=>simp[Au]at e
  |own hh b k1 Ju=>
   simp only[Au]at e;simp only[ABV,Di]at d;cases hi:Ju[i0]? with
   |none=>simp[hi]at e
   |some row1=>
    simp only[hi]at e d;cases hj:row1[j0]? with
    |none=>simp[hj]at e
    |some c=>
     simp only[hj]at e d;cases hc:Di c (p++[(i,j,k)]) new with
     |none=>simp[hc]at d
     |some c'=>simp only[hc,AAh]at d;subst d;simp only[Au,AAk (AAj.1 hi).1,AAk (AAj.1 hj).1];exact ih e hc
  |agg cs=>
   simp only[Au]at e;simp only[ABV,Di]at d;cases hj:cs[j0]? with
   |none=>simp[hj]at e
   |some c=>
    simp only[hj]at e d;cases hc:Di c (p++[(i,j,k)]) new with
    |none=>simp[hc]at d
    |some c'=>simp only[hc,AAh]at d;subst d;simp only[Au,AAk (AAj.1 hj).1];exact ih e hc
  |BM cs=>
   simp only[Au]at e;simp only[ABV,Di]at d;cases hj:cs[j0]? with
   |none=>simp[hj]at e
   |some c=>
    simp only[hj]at e d;cases hc:Di c (p++[(i,j,k)]) new with
    |none=>simp[hc]at d
    |some c'=>simp only[hc,AAh]at d;subst d;simp only[Au,AAk (AAj.1 hj).1];exact ih e hc
theorem QI {b off:Nat} {v u:Value} {arr:Array Value} {E:TypeId} (a:w.heap[b]? =some (.cells arr E (0,0))) (f:arr[off]? =some u) (e:Ge v=true):(store ⟨b,off,none⟩ v).run P w= .ok () (w.setCell ⟨b,off,none⟩ v):=by
 have c:w.cell? ⟨b,off,none⟩=some u:=by simp[World.cell?,a,f]
 have d:w.frozen? ⟨b,off,none⟩=false:=by simp[World.frozen?,a]
 cases v<;>first
  |simp[Ge]at e;done
  |simp[store,Sem.run,c,d]
theorem Pz {v:Value} {bx:Bool} {k:Nat} {rows:List (List DV)} {F:Nat->Prop} {b:Nat} (h:Ok w S (.own v bx k rows) F) (a:TQ v=some b):F b/\∃arr E,w.heap[b]? =some (.cells arr E (0,0))/\∀(i j:Nat) row d,rows[i]? =some row->row[j]? =some d->arr[i*k+j]? =some d.A0:=by
 cases h with
 |nil=>simp[TQ]at a
 |own _ _ _ b' c arr E Fs _ q8 hk D6 Lk hv hr hd Bi KW hF=>simp only[Xy,AAh]at a;subst a;exact⟨(hF b').2 (.inl rfl),arr,E,q8,hv⟩
theorem gY {L:List Nat} {a:AV} (h:Fj a=true):F9 L a=true:=by cases a<;>first| (simp;done)| (simp[Fj]at h;done)
theorem cH (ds:List DV):∀{w:World} {t:DV} {F Fd:Nat->Prop} {p:List Step} {v:Value} {bx:Bool} {k i j b:Nat} {rows:List (List DV)} {c:List DV} {U:AV},Ok w S t F->Au t p=some (.own v bx k rows)->TQ v=some b->rows[i]? =some c->j+ds.length≤c.length->
 Jm w S ds Fd->(∀x,Fd x->¬F x)->(ds.map DV.er).all Fj=true->stC p i k j (ds.map DV.er) t.er=some U->∀(m off:Nat),off+m=i*k+j->
 ∃(w':World) (y:DV) (Q:Nat->Prop),(storeCells ⟨b,off,none⟩ (ds.map DV.A0) m).run P w= .ok () w'/\Ok w' S y Q/\y.er=U/\y.A0=t.A0/\(∀x,Q x->F x∨Fd x)/\(∀x,x≠b->w'.heap[x]? =w.heap[x]?)/\F b/\
  w'.os=w.os/\w'.tape=w.tape/\w'.output=w.output/\w'.heap.size=w.heap.size/\(∀δ,Dd δ t->Dd δ y)/\(∀L,F9 L t.er=true->F9 L y.er=true)/\
  ((((c.map DV.er).drop j).take ds.length).all C9=true->∀q v bx k rows,Au t q=some (.own v bx k rows)->∃g,Au y q=some (.own v bx k g)):=by
 induction ds with
 |nil=>intro w t F Fd p v bx k i j b rows c U h C K hi hj Cj O D z m off hm;simp only[ABF,stC,AAh]at z;obtain⟨F1,s,J⟩:=h.Au C;exact⟨w,t,F,by simp[storeCells],h,z,rfl,λx e=>.inl e,λ_ _=>rfl,J b (Pz s K).1,rfl,rfl,rfl,rfl,λ_ h=>h,λ_ h=>h,λ_ q v bx k rows hq=>⟨rows,hq⟩⟩
 |cons d ds ih=>
  intro w t F Fd p v bx k i j b rows c U h C K hi hj Cj O D z m off hm;obtain⟨Fa,Fb,hd,Ja,V,H⟩:=Cj;simp only[ABe]at hj;have N:j<c.length:=by omega
  have f:c[j]? =some c[j]:=AAo N;obtain⟨Fn,X,Z⟩:=h.Au C;obtain⟨RO,arr,E,q8,Qx⟩:=Pz X K;have l:=Z b RO;have Lk:¬S b:=h.E7 b l;have Pk:∀x,Fd x->x≠b:=by rintro x e rfl;exact O x e l
  have u:Ok (w.setCell ⟨b,i*k+j,none⟩ d.A0) S d Fa:=by refine hd.mono (λx e=>DK _ _ _ _ _ ?_) (λx e=>DK _ _ _ _ _ (Pk x ((H x).2 (.inl e)))) (λ_ h=>h) hd.E7;rintro rfl;exact Lk e
  obtain⟨t1,F1,I,jI,r,KH,_⟩:=h.store p C hi f K u (λx e=>O x ((H x).2 (.inl e)));simp only[AAy,stC]at z;split at z
  . rename_i t'' hpt;have vX:t1.er=t'':=(by obtain⟨t2,T,g2⟩:=HS d h.LD hpt;rw[I]at T;obtain rfl:=AAl T;exact g2);subst vX;have hs1:=putD_sub p C hi f I;have W:(rows.set i (c.set j d))[i]? =some (c.set j d):=AAk (AAj.1 hi).1;simp only[AAy,ABW,AAi]at D;have n:Jm (w.setCell ⟨b,i*k+j,none⟩ d.A0) S ds Fb:=(by refine Ja.mono (λx e=>DK _ _ _ _ _ ?_) (λx e=>DK _ _ _ _ _ (Pk x ((H x).2 (.inr e)))) (λ_ h=>h) (B2.2 Ja).E7;rintro rfl;exact Lk e);obtain⟨w',y,Q,Ce,Pl,M,RQ,LB,X4,_,T,g2,g3,g4,g5,g6,Ry⟩:=ih (off:=off) (m:=m+1) (j:=j+1) jI hs1 K W (by simp;omega) n (by
     intro x e hx1;rcases r x hx1 with s|s
     . exact O x ((H x).2 (.inr e)) s
     . exact V x s e) D.2 z (by omega)
    refine⟨w',y,Q,?_,Pl,M,RQ.trans KH,?_,?_,l,T,g2,g3,by rw[g4];simp,?_,?_,?_⟩
    . have E8:=QI (P:=P) (w:=w) (off:=i*k+j) (v:=d.A0) q8 (Qx i j c _ hi f) (K1 hd D.1);simp only[AAy,storeCells,Sem.run_bind,Addr.add_lit,hm,E8,Result.andThen_ok,Ce]
    . intro x e;rcases LB x e with s|s
      . rcases r x s with J|J
        . exact .inl J
        . exact .inr ((H x).2 (.inl J))
      . exact .inr ((H x).2 (.inr s))
    . intro x e;rw[X4 x e,DK _ _ _ _ _ e]
    . intro δ G4;refine g5 δ (My _ I G4 ?_);exact Rj (ds:=[d]) (by simpa using D.1) d (by simp)
    . intro L hL;refine g6 L (MH _ I hL ?_);exact gY D.1
    . intro R q v' fN k' g hq;have B:(c.map DV.er).drop j=(c[j]).er::(c.map DV.er).drop (j+1):=(by rw[ABd (by simpa using N)];simp);rw[B]at R;simp only[ABe,List.take_succ_cons,ABW,AAi]at R;have jD:∃a v,c[j]= .lf a v:=by
       have hl:=(h.LD.Au C);cases hl with
       |own _ _ _ _ hr=>
        have:=hr i j c _ hi f;have G:=R.1;cases Su:c[j]with
        |lf a v=>exact⟨a,v,rfl⟩
        |own=>rw[Su]at G;simp[C9]at G
        |agg=>rw[Su]at G;simp[C9]at G
        |BM=>rw[Su]at G;simp[C9]at G
      obtain⟨a0,v0,fO⟩:=jD;have o:Au t (p++[(i,j,k)])=some (.lf a0 v0):=(by rw[Ip,C];simp[Au,hi,f,fO]);obtain⟨Ju,hq1⟩:=Rh _ I o (by simp) (by simp) (by simp) q v' fN k' g hq;refine Ry ?_ q v' fN k' Ju hq1;rw[ABY,List.drop_set_of_lt (by omega)];exact R.2
  . cases z
theorem rX (h:St G w S δ Fr) {a:Act} (X:Rd δ a) {o:Oper} {t:TypeId} {x u:Operand} {n:Nat} {y z:Ar} (hd:JL G a o none) (ho:o.op= .store t x u) (hn:Gv P t=some n) (hc:CM x y=true) (NI:CM u z=true) {σ':Sg}
 (f:Gn G (.st n y z) none (λs=>(δ s).er)=some σ'):Qu P G w S Fr a o σ':=by
 obtain⟨hy,NJ⟩:=Am hc X;obtain⟨hz,J⟩:=Am NI X;simp only[Gn]at f;split at f
 . rename_i v τ ht;obtain⟨l,C,D,Ff,d,JU,Fk,Ud⟩:=h.tk hz ht;subst JU;subst Fk;split at f
   . rename_i r p i j k V0;cases y with
     |c c=>simp[EL]at V0
     |t s=>
      obtain⟨vh,bx,Ao,b,Fx,Bx,Z,hp,Cj,_⟩:=d.st.EL V0;split at f
      . rename_i fN k' rows vR;obtain⟨D',I,m⟩:=Dr (d.st.ok r).LD vR;rw[Bx]at I;obtain rfl:=AAl I;simp only[Et,AV.own.injEq]at m;obtain⟨rfl,rfl,rfl⟩:=m;split at f
        . rename_i row D1;rw[AAt,AA6]at D1;obtain⟨I3,hrD,rfl⟩:=D1;split at f
          . rename_i Fp;obtain⟨L,Q,hjn⟩:=Fp;split at f
            . rename_i t' CJ;have hm:=Lr D d.ok.LD;have K:(cellsD D).length=n:=(by rw[← L,← hm];simp);have Ue:=Lv d.ok Q;rw[← hm]at CJ Q;obtain⟨w',H,F,Ce,Pl,B,U,LB,V,T,g1,g2,g3,g4,g5,g6,Ry⟩:=cH (P:=P) (cellsD D) (d.st.ok r) Bx Z hrD (by rw[K];simpa using hjn) (Nd d.ok) (λx g M=>d.MT r x M g) Q CJ 0 (i*k+j) rfl;have hS:∀x,S x->w'.heap[x]? =w.heap[x]? :=λx g=>V x (by rintro rfl;exact(d.st.ok r).E7 _ T g);have hF:∀s,s≠r->∀x,C s x->w'.heap[x]? =w.heap[x]? :=λs hs x g=>V x (by rintro rfl;exact hs (d.st.MT s r _ g T));have DA:∀s,s≠r->∀x,F x->¬C s x:=by
               intro s hs x g M;rcases LB x g with W|W
               . exact hs (d.st.MT s r x M W)
               . exact d.MT s x M W
              have VQ:(execOp a.eval o).run P w= .ok .skip w':=(by have Pn:¬((C7 δ z).cells.size≠n):=(by rw[← Ud,Ue];simp[K]);have hpt:C7 δ (.t s)= .pointer (some ⟨b,i*k+j,none⟩):=(by simp only[C7];rw[← d.A0 s];exact hp);have HP:(C7 δ z).cells.toList=(cellsD D).map DV.A0:=(by rw[← Ud,Ue]);simp only[execOp,ho,NJ,J,hpt,Instr.storeAt,Instr.sureAddr,storeVar,Sem.run_bind,Sem.run_pure,Result.andThen_ok,run_sizeOf hn,Sem.run_ite,Pn,AAx,HP,Ce]);have Sv:∀(E:Nat->DV),(∀s,(E s).A0=(l s).A0)->Rd E (a.put o.dst undef):=(by intro E hδ s;have h0:o.dst=none:=hd;rw[h0];simp only[Act.put];rw[hδ,d.A0];exact X s);have Eu:∀R:Nat->Nat->Prop,(∀x,BE R x->BE C x∨Ff x)->Nx w S (BE Fr) w' S (BE R):=(by intro R N;refine⟨g1,g2,g3,by omega,?_,λ_ h=>h,λ_ h=>.inl h,λK b Z=>by rw[g4];exact K b Z,λx g=>.inl (d.own x (N x g))⟩;intro x _ hU;refine V x ?_;rintro rfl;exact hU (d.own _ (.inl ⟨r,T⟩)));have N:∀x,BE (DZ C r F) x->BE C x∨Ff x:=by
               rintro x ⟨s,g⟩;by_cases e:s=r
               . subst e;rw[BI]at g;exact(LB x g).imp (λh=>⟨s,h⟩) id
               . rw[Ba _ _ e]at g;exact .inl ⟨s,g⟩
              have q:Dd l H:=g5 l (d.st.al r);have Zl:F9 (G.HI r) H.er=true:=g6 _ (d.st.rt r);split at f
              . rename_i Ie;simp only[AAh]at f;subst f;refine⟨.skip,undef,w',S,DZ l r H,DZ C r F,VQ,.inr ⟨rfl,rfl⟩,Sv _ ?_,?_,d.st.poke r H F hS hF Pl DA Zl q (Ry (by rw[K];exact Ie)) U,Eu _ N⟩
                . intro O;by_cases e:O=r
                  . subst e;rw[BI,U]
                  . rw[Ba _ _ e]
                . funext O;by_cases e:O=r
                  . subst e;simp only[BI,B]
                  . simp only[Ba _ _ e]
              . simp only[AAh]at f;subst f;refine⟨.skip,undef,w',S,DZ (Hb G r l) r H,DZ C r F,VQ,.inr ⟨rfl,rfl⟩,Sv _ ?_,?_,d.st.set r H F hS hF (λ_ h=>h) (λs _ x g=>(d.st.ok s).E7 x g) Pl DA Zl q,Eu _ N⟩
                . intro O;rw[IB d.st];split
                  . rename_i e;rw[e,U]
                  . rfl
                . rw[Ic d.st,B]
            . cases f
          . cases f
        . cases f
      . cases f
   . cases f
 . cases f
end Go.Abs
namespace Go.Abs
variable {w w':World} {S S':Nat->Prop} {G:Gi} {δ:Nat->DV} {Fr:Nat->Nat->Prop} {P:Program}
def Reads (w:World) (v:Value) (n:Nat) (vs:List Value):Prop:=(∃a c,v= .slice a 0 c/\n=0/\vs=[])∨∃b off c,v= .slice (some ⟨b,off,none⟩) n c/\∀(j:Nat) u,vs[j]? =some u->w.cell? ⟨b,off+j,none⟩=some u
theorem Qp {size n:Nat} {v:Value} {vs:List Value} (h:Reads w v n vs) (e:vs.length=n*size):(Builtin.firstCells size n v).run P w= .ok vs.toArray w:=by
 rcases h with⟨a,c,rfl,rfl,rfl⟩|⟨b,off,c,rfl,d⟩
 . cases a<;>simp[Builtin.firstCells,loadCells,loadCellsFrom]
 . exact run_firstCells_some (P:=P) w size n ⟨b,off,none⟩ n c vs e (λj u f=>by rw[Addr.add_lit];exact d j u f)
theorem Reads.drew {v:Value} {n:Nat} {vs:List Value} (h:Reads w v n vs):Reads w.drew v n vs:=h
theorem Reads.len {v:Value} {n:Nat} {vs:List Value} (h:Reads w v n vs):∃d c,v= .slice d n c:=by
 rcases h with⟨a,c,rfl,rfl,rfl⟩|⟨b,off,c,rfl,e⟩
 . exact⟨a,c,rfl⟩
 . exact⟨_,c,rfl⟩
theorem UI {t ty e:TypeId} {i:TypeInfo} {z:Value} (r:P.underlying t=some (.slice e)) (hi:P.info? e=some i) (u:i.zero=some z) {base:AB8 Addr} {n d m:Nat} {v:Value} {b a:List Value}
 (s:Reads w (.slice base n d) n b) (q:b.length=n*i.size) (k:Reads w v m a) (hn:a.length=m*i.size) (p:d<n+m) (y:(n+m)*i.bytes≤70368744177664) (l:n+m≤9223372036854775807):
 (Builtin.append_ #[t,t] ty #[.slice base n d,v]).run P w= .ok (.slice (some ⟨w.heap.size,0,none⟩) (n+m) (grownCap w (n+m) d e)) (w.drew.alloc (.cells ((b++a).toArray++Builtin.zeroCells z.cells (grownCap w (n+m) d e-(n+m))) e)):=by
 obtain⟨x,c,rfl⟩:=k.len;have j:¬(n+m≤d):=by omega
 have g:¬(9223372036854775807<((n:Int)+(m:Int))):=by omega
 have f:¬(281474976710656<Builtin.nextslicecap (n+m) d*i.bytes):=by have:=growslice_fits (bytes:=i.bytes) p (by omega);omega
 have o:=Qp (P:=P) k.drew hn;have h:=Qp (P:=P) s.drew q;simp[Builtin.append_,run_underlying r,sizeOf,typeInfo,zeroValue,hi,u,Builtin.lenOf,j,g,f,Question.forced,o,h,newRow,grownCap];congr 2;apply ABx;simp[ABt]
theorem eW {t ty e E:TypeId} {i:TypeInfo} (p:P.underlying t=some (.slice e)) (hi:P.info? e=some i) {g n d m:Nat} {v:Value} {a:List Value} {b:Array Value} (f:w.heap[g]? =some (.cells b E (0,0)))
 (j:Reads w v m a) (hn:a.length=m*i.size) (o:∀u∈a,u.oneCell'=true) (k:n+m≤d) (q:n*i.size+a.length≤b.size):
 (Builtin.append_ #[t,t] ty #[.slice (some ⟨g,0,none⟩) n d,v]).run P w= .ok (.slice (some ⟨g,0,none⟩) (n+m) d) (w.setRow g (b.toList.take (n*i.size)++a++b.toList.drop (n*i.size+a.length)).toArray):=by
 obtain⟨r,c,rfl⟩:=j.len;have l:=Qp (P:=P) j hn;have h:=run_storeCells_at P g (n*i.size) E a 0 b w f (by simpa using q) o;simp only[Nat.add_zero]at h;simp[Builtin.append_,run_underlying p,sizeOf,typeInfo,hi,Builtin.lenOf,k,l,Addr.add_lit,h]
theorem xB {v:Value} (h:Ge v=true):v.oneCell'=true:=by cases v<;>simp_all [Ge,Value.oneCell']
theorem Rv {x:Bool} {k:Nat} {rows:List (List AV)} {v:Value} (h:Fz w S (.sl x k rows) v):
 ∃ds:List (List DV),ds.map (·.map DV.er)=rows.map (·.map Jd)/\(∀r∈ds,r.length=k)/\Jm w S ds.flatten (λ_=>False)/\Reads w v ds.length (ds.flatten.map DV.A0)/\ds.length=rows.length:=by
 cases h with
 |nil x k a c hx=>exact⟨[],by simp,by simp,λ_ h=>h,.inl ⟨a,c,rfl,rfl,rfl⟩,rfl⟩
 |sl x k rows b off c vs hx Qy hS hk hc hr=>
  obtain⟨ds,l,p⟩:=LX rows (λi f (g:List DV)=>g.map DV.er=f.map Jd/\g.length=k/\(∀d∈g,Ok w S d (λ_=>False))/\∀(j:Nat) d,g[j]? =some d->w.cell? ⟨b,off+(i*k+j),none⟩=some d.A0) (by
   intro i f hi;obtain⟨y,l,Jp⟩:=LX f (λj a (d:DV)=>d.er=Jd a/\Ok w S d (λ_=>False)/\w.cell? ⟨b,off+(i*k+j),none⟩=some d.A0) (by intro j a o;obtain⟨D,q,C,E,_⟩:=Xo (δ:=λ_=>default) (hr i j f a hi o);exact⟨D,q,E,by rw[C];exact hc i j f a hi o⟩);refine⟨y,?_,by rw[l];exact hk f (AAu hi),?_,?_⟩
   . exact map_mk l Jp _ _ (by simp) λj a d e F=>by simp[F,e.1]
   . intro d hd;obtain⟨j,o⟩:=AA7 hd;obtain⟨a,_,e⟩:=mem_mk l Jp j d o;exact e.2.1
   . intro j d hd;obtain⟨a,_,e⟩:=mem_mk l Jp j d hd;exact e.2.2)
  have m:∀r∈ds,r.length=k:=by intro r s;obtain⟨i,hi⟩:=AA7 s;obtain⟨c,_,e⟩:=mem_mk l p i r hi;exact e.2.1
  refine⟨ds,?_,m,CC ?_,.inr ⟨b,off,c,by rw[l],?_⟩,l⟩
  . exact map_mk l p _ _ (by simp) λi f y e B=>by simp[B,e.1]
  . intro d hd;rw[List.mem_flatten]at hd;obtain⟨r,s,hd⟩:=hd;obtain⟨i,hi⟩:=AA7 s;obtain⟨c,_,e⟩:=mem_mk l p i r hi;exact e.2.2.1 d hd
  . intro n u z;rw[AAt,AA6]at z;obtain⟨d,hd,rfl⟩:=z;have t:n<ds.length*k:=(by rw[← Dk m];exact(AAj.1 hd).1);have G:0<k:=(Nat.eq_zero_or_pos k).elim (λh=>by subst h;simp at t) id;have hi:n/k<ds.length:=Nat.div_lt_of_lt_mul (by rw[ABZ];exact t);have o:n%k<(ds[n/k]).length:=(by rw[m _ (AA0 hi)];exact Nat.mod_lt _ G);have q:=K7 m (AAo hi) (AAo o);rw[ABZ,Nat.div_add_mod,hd]at q;obtain rfl:=AAl q;obtain⟨c,_,e⟩:=mem_mk l p _ _ (AAo hi)
    have:=e.2.2.2 _ _ (AAo o);rw[show n/k*k+n%k=n from by rw[ABZ];exact Nat.div_add_mod n k]at this;exact this
theorem Uv {rows:List (List AV)} (h:rows.all (·.all Hl)=true):rows.map (·.map Jd)=rows:=by
 rw[AAm]at h
 conv=>rhs;rw[← List.map_id rows]
 apply List.map_congr_left;intro r d;have b:=h r d;rw[AAm]at b
 conv=>rhs;rw[id,← List.map_id r]
 apply List.map_congr_left;intro a c
 have:=b a c;cases a<;>simp_all [Hl,Jd]
theorem SQ {ds:List (List DV)} {F:Nat->Prop} (h:Jm w S ds.flatten F) (a:(ds.map (·.map DV.er)).all (·.all Fj)=true):∀d∈ds.flatten,Ge d.A0=true:=by
 intro d hd;obtain⟨e,b,_,_,_⟩:=KB.1 h;obtain⟨n,hn⟩:=AA7 hd;refine K1 (b n d hn) ?_;rw[List.mem_flatten]at hd;obtain⟨r,c,hd⟩:=hd;rw[AAm]at a
 have:=a (r.map DV.er) (ABm c);rw[AAm]at this;exact this d.er (ABm hd)
theorem Tw {rows:List (List AV)} (h:rows.all (·.all Hl)=true):rows.all (·.all Fj)=true:=by
 rw[AAm]at h ⊢;intro r c
 have:=h r c;rw[AAm]at this ⊢;intro a b
 have:=this a b;cases a<;>simp_all [Hl,Fj]
theorem b8 {v:Value} {k:Nat} {rows:List (List DV)} {F:Nat->Prop} (h:Ok w S (.own v false k rows) F):Reads w v rows.length (rows.flatten.map DV.A0)/\(∀r∈rows,r.length=k)/\∃a,Jm w S rows.flatten a/\∀x,a x->F x:=by
 rcases b6 h with⟨rfl,_,rfl,e⟩|⟨b,c,arr,E,a,rfl,j,l,o,q,g,p,e,i⟩
 . exact⟨.inl ⟨none,0,rfl,rfl,rfl⟩,by simp,λ_=>False,λ_ h=>h,λ_ h=>h.elim⟩
 . refine⟨.inr ⟨b,0,c,by simp[Jp],?_⟩,l,a,g,λx m=>(e x).2 (.inr m)⟩;intro n u f;rw[AAt,AA6]at f;obtain⟨d,hd,rfl⟩:=f;simp[World.cell?,j,i n d hd]
theorem St.XV (h:St G w S δ Fr) {y:Ar} {k:Nat} {M:List (List AV)} {τ:Sg} (hy:XE y) (a:Abs.XV G k y (λs=>(δ s).er)=some (M,τ)):
 ∃(S1:Nat->Prop) (g:Nat->DV) (l:Nat->Nat->Prop) (j:List (List DV)) (z:Nat->Prop),St G w S1 g l/\(λs=>(g s).er)=τ/\(∀s,(g s).A0=(δ s).A0)/\j.map (·.map DV.er)=M/\(∀r∈j,r.length=k)/\
  Jm w S1 j.flatten z/\Reads w (C7 δ y) j.length (j.flatten.map DV.A0)/\(∀d∈j.flatten,Ge d.A0=true)/\(∀s x,l s x->¬z x)/\Nx w S (BE Fr) w S1 (λx=>BE l x∨z x):=by
 cases y with
 |c c=>
  simp only[Abs.XV]at a;split at a
  . rename_i kk;simp only[AAh,AAv]at a;obtain⟨rfl,rfl⟩:=a;exact⟨S,δ,Fr,[],λ_=>False,h,rfl,λ_=>rfl,rfl,by simp,λ_ h=>h,.inl ⟨none,0,by simp[C7,JE],rfl,rfl⟩,by simp,λ_ _ _ h=>h,Nx.less λx f=>f.elim id False.elim⟩
  . cases a
 |t s=>
  simp only[Abs.XV]at a;cases hs:(δ s).er with
  |own b K rows=>
   cases b with
   |true=>simp[hs]at a
   |false=>
    simp only[hs]at a;split at a
    . rename_i m;obtain⟨rfl,N⟩:=m;simp only[AAh,AAv]at a;obtain⟨rfl,rfl⟩:=a;obtain⟨F,hd,J⟩:=h.YS hs;have H:=h.ok s;rw[hd]at H;obtain⟨V,hk,Q,L,q⟩:=b8 H;refine⟨S,_,_,F,Q,h.empty s,by rw[Ic h];simp,?_,J,hk,L,V,SQ L (by rw[J];exact N),?_,Nx.less ?_⟩
      . intro t;rw[IB h];split
        . rename_i e;rw[e];simp
        . rfl
      . intro t x f C;by_cases e:t=s
        . subst e;rw[BI]at f;exact f
        . rw[Ba _ _ e]at f;exact e (h.MT t s x f (q x C))
      . rintro x (⟨t,f⟩|f)
        . by_cases e:t=s
          . subst e;rw[BI]at f;exact f.elim
          . rw[Ba _ _ e]at f;exact⟨t,f⟩
        . exact⟨s,q x f⟩
    . cases a
  |sl W K rows=>
   simp only[hs]at a;split at a
   . rename_i m;obtain⟨rfl,n⟩:=m;simp only[AAh,AAv]at a;obtain⟨rfl,rfl⟩:=a;obtain⟨ds,i,B,o,u,X⟩:=Rv (h.leaf hs rfl).2.1;rw[Uv n]at i;exact⟨S,δ,Fr,ds,λ_=>False,h,rfl,λ_=>rfl,i,B,o,u,SQ o (by rw[i];exact Tw n),λ_ _ _ h=>h,Nx.less λx f=>f.elim id False.elim⟩
   . cases a
  |al r p=>
   simp only[hs]at a;split at a
   . rename_i W K rows τ' U;split at a
     . rename_i m;obtain⟨rfl,n⟩:=m;simp only[AAh,AAv]at a;obtain⟨rfl,rfl⟩:=a;obtain⟨g,l,Fo,v,bx,kk,F,O,T,P,q,C,Z,DA,I,_⟩:=h.Qv U;obtain⟨_,_,R⟩:=h.leaf hs rfl;obtain⟨fN,k2,E,D⟩:=R;rw[q]at D;simp only[AAh,DV.own.injEq]at D;obtain⟨ds,i,B,o,u,X⟩:=Rv C;rw[Uv n]at i;refine⟨_,g,l,ds,λ_=>False,O,T,P,i,B,o,by rw[D.1]at u;exact u,SQ o (by rw[i];exact Tw n),λ_ _ _ h=>h,Nx.JZ ?_ ?_⟩
       . intro x f;exact I x (f.imp (λh=>h.elim id False.elim) id)
       . intro x f;obtain⟨t,ht⟩:=I x (.inr f);exact(h.ok t).lt x ht
     . cases a
   . cases a
  |_=>simp[hs]at a
theorem St.Vu (h:St G w S δ Fr) {x:Ar} {k:Nat} {n:AV} {τ:Sg} (d:XE x) (a:Abs.Vu G k x (λs=>(δ s).er)=some (n,τ)):
 (∃rows,n= .own false k rows/\∃(f:Nat->DV) (i:Nat->Nat->Prop) (g:List (List DV)) (Ff:Nat->Prop),St G w S f i/\(λs=>(f s).er)=τ/\(∀s,(f s).A0=(δ s).A0)/\g.map (·.map DV.er)=rows/\Ok w S (.own (C7 δ x) false k g) Ff/\
  (∀s x,i s x->¬Ff x)/\(∀x,BE i x∨Ff x->BE Fr x))∨
 (∃rows,n= .sl true k rows/\τ=(λs=>(δ s).er)/\rows.all (·.all Hl)=true/\Fz w S (.sl true k rows) (C7 δ x)):=by
 cases x with
 |c c=>
  simp only[Abs.Vu]at a;split at a
  . rename_i O;simp only[AAh,AAv]at a;obtain⟨rfl,rfl⟩:=a;exact .inl ⟨[],rfl,δ,Fr,[],λ_=>False,h,rfl,λ_=>rfl,rfl,by simpa[C7,JE]using Ok.nil k _ (λ_ h=>h),λ_ _ _ h=>h,λx d=>d.elim id False.elim⟩
  . cases a
 |t s=>
  simp only[Abs.Vu]at a;cases hs:(δ s).er with
  |own b y rows=>
   cases b with
   |true=>simp[hs]at a
   |false=>
    simp only[hs]at a;split at a
    . rename_i j;subst j;simp only[AAh,AAv]at a;obtain⟨rfl,rfl⟩:=a;obtain⟨g,hd,m⟩:=h.YS hs;have q:=h.ok s;rw[hd]at q;refine .inl ⟨rows,rfl,_,_,g,Fr s,h.empty s,by rw[Ic h];simp,?_,m,by simpa[C7]using q,?_,?_⟩
      . intro t;rw[IB h];split
        . rename_i e;rw[e];simp
        . rfl
      . intro t x d M;by_cases e:t=s
        . subst e;rw[BI]at d;exact d
        . rw[Ba _ _ e]at d;exact e (h.MT t s x d M)
      . rintro x (⟨t,d⟩|d)
        . by_cases e:t=s
          . subst e;rw[BI]at d;exact d.elim
          . rw[Ba _ _ e]at d;exact⟨t,d⟩
        . exact⟨s,d⟩
    . cases a
  |sl ee y rows=>
   cases ee with
   |false=>simp[hs]at a
   |true=>
    simp only[hs]at a;split at a
    . rename_i H;obtain⟨rfl,K⟩:=H;simp only[AAh,AAv]at a;obtain⟨rfl,rfl⟩:=a;exact .inr ⟨rows,rfl,rfl,K,(h.leaf hs rfl).2.1⟩
    . cases a
  |al r p=>
   simp only[hs]at a;split at a
   . rename_i y rows P N;split at a
     . rename_i j;subst j;simp only[AAh,AAv]at a;obtain⟨rfl,rfl⟩:=a;obtain⟨f,i,D,Ff,B,J,F,L,u,⟨v,bx,O,g,rfl⟩,z,E,C,_,_⟩:=h.Z7 N;simp only[Et,AV.own.injEq]at u;obtain⟨rfl,rfl,m⟩:=u;obtain⟨_,_,I⟩:=h.leaf hs rfl;obtain⟨Q,R,o,l⟩:=I;rw[z]at l;simp only[AAh,DV.own.injEq]at l;exact .inl ⟨rows,rfl,f,i,g,Ff,B,J,F,m,by rw[show C7 δ (.t s)=v from l.1.symm];exact L,E,C⟩
     . cases a
   . cases a
  |_=>simp[hs]at a
end Go.Abs
namespace Go.Abs
variable {w w':World} {S S':Nat->Prop} {G:Gi} {δ:Nat->DV} {Fr:Nat->Nat->Prop} {P:Program}
theorem Y1 {S1:Nat->Prop} {U1:Nat->Prop} {i:Nat->DV} {q:Nat->Nat->Prop} {a:Act} {o:Oper} {d:Dn} {σ':Sg} {k c:Nat} {rows:List (List DV)} {Fd:Nat->Prop} {arr:Array Value} {E:TypeId} (h:St G w S1 i q) (m:∀b,S1 b->b<w.heap.size) (J:Rd i a)
 (hd:JL G a o (some d)) (M:(execOp a.eval o).run P w= .ok (.value (.slice (some ⟨w.heap.size,0,none⟩) rows.length c)) w') (l:w'.heap=w.heap.push (.cells arr E)) (t:w'.os=w.os) (y:w'.tape=w.tape) (u:w'.output=w.output)
 (p:Jm w S1 rows.flatten Fd) (H:∀s x,q s x->¬Fd x) (K:∀z∈rows,z.length=k)
 (F:c*k=arr.size/\rows.length≤c) (N:∀(n:Nat) d,rows.flatten[n]? =some d->arr[n]? =some d.A0)
 (I:wr d (.own false k (rows.map (·.map DV.er))) (λs=>(i s).er)=some σ') (C:∀x,BE q x∨Fd x->U1 x) (j:Nx w S (BE Fr) w S1 U1):Qu P G w S Fr a o σ':=by
 have B:=(B2.2 p).lt;have r:=(B2.2 p).E7;have e:∀b,b<w.heap.size->w'.heap[b]? =w.heap[b]? :=λb f=>by rw[l,Array.getElem?_push,AAp (by omega)]
 have Q:w'.heap[w.heap.size]? =some (.cells arr E (0,0)):=by rw[l];simp
 have O:Ok w' S1 (.own (Jp false w.heap.size rows.length c) false k rows) (λx=>x=w.heap.size∨Fd x):=by refine pF Q K (by simpa using F) (λv=>by have:=m _ v;omega) ?_ (λv=>by have:=B _ v;omega) N;exact p.mono (λb f=>e b (m b f)) (λb f=>e b (B b f)) (λ_ h=>h) r
 refine KV (D:=.own (Jp false w.heap.size rows.length c) false k rows) h J hd (by simpa[Jp]using M) (λb f=>e b (m b f)) (λs x g=>e x ((h.ok s).lt x g)) (λ_ h=>h) (λs x g=>(h.ok s).E7 x g) O ?_ (.own _ _ _ _) (by simpa using I) ?_
 . rintro s x g (rfl|hf)
   . have:=(h.ok s).lt _ g;omega
   . exact H s x g hf
 . refine j.trans ⟨t,y,u,by rw[l];simp,λb f _=>e b f,λ_ h=>h,λ_ h=>.inl h,λL b f=>by rw[l];have:=L b f;simp;omega,?_⟩;rintro x (g|rfl|g)
   . exact .inl (C x (.inl g))
   . exact .inr (AA8 _)
   . exact .inl (C x (.inr g))
theorem UJ {t ty e:TypeId} {i:TypeInfo} (f:P.underlying t=some (.slice e)) (hi:P.info? e=some i) {base:AB8 Addr} {n c:Nat} (a:n≤c) {v:Value} (b:Reads w v 0 []):
 (Builtin.append_ #[t,t] ty #[.slice base n c,v]).run P w= .ok (.slice base n c) w:=by
 obtain⟨g,c',rfl⟩:=b.len;have d:=Qp (P:=P) (size:=i.size) b (by simp);cases base<;>simp[Builtin.append_,run_underlying f,sizeOf,typeInfo,hi,Builtin.lenOf,d,a,storeCells]
theorem Xr {z:Value} {k n m cap:Nat} {a b:List Value} (e:z.cells.size=k) (c:a.length=n*k) (d:b.length=m*k) (f:n+m≤cap):cap*k=((a++b).toArray++Builtin.zeroCells z.cells (cap-(n+m))).size:=by simp only[Array.size_append,List.size_toArray,ABK,size_zeroCells,c,d,e,← Nat.add_mul];congr 1;omega
theorem fz_weak {x:Bool} {k:Nat} {rows:List (List AV)} {v:Value} (h:Fz w S (.sl x k rows) v):Fz w S (.sl false k rows) v:=by
 cases h with
 |nil _ _ a c _=>exact .nil _ _ _ _ (λh=>nomatch h)
 |sl _ _ _ b off c vs _ Qy hS hk hc hr=>exact .sl _ _ _ _ _ _ _ (λh=>nomatch h) Qy hS hk hc hr
theorem runs_app (h:St G w S δ Fr) (C8:∀b,S b->b<w.heap.size) {a:Act} (ha:Rd δ a) {o:Oper} {c:Call} {u v:Operand} {t e:TypeId} {i:TypeInfo} {z:Value} {k bytes:Nat} {x y:Ar} {d:Dn} (hd:JL G a o (some d)) (ho:o.op= .call c) (Mb:c.callee= .builtin .append) (GM:c.args= #[u,v]) (hty:c.argTypes= #[t,t])
 (hu:P.underlying t=some (.slice e)) (hi:P.info? e=some i) (Pn:i.size=k) (hby:i.bytes=bytes) (vL:0<bytes) (hz:i.zero=some z) (hzk:z.cells.size=k) (hc:CM u x=true) (NI:CM v y=true) {σ':Sg}
 (B:Gn G (.app k bytes x y) (some d) (λs=>(δ s).er)=some σ'):Qu P G w S Fr a o σ':=by
 obtain⟨g,NJ⟩:=Am hc ha;obtain⟨hy,hev2⟩:=Am NI ha;subst Pn;subst hby;have VQ:∀r w',(Builtin.append_ #[t,t] o.type #[C7 δ x,C7 δ y]).run P w= .ok r w'->(execOp a.eval o).run P w= .ok (.value r) w':=by intro r w' hr;simp only[execOp,ho,resolve,Mb,GM,hty,invoke,builtin,Sem.run_bind,Sem.run_pure,Result.andThen_ok,List.map_toArray,AAy,ABF,NJ,hev2,hr]
 simp only[Gn]at B;split at B
 . rename_i ys τ hY;obtain⟨S1,δ1,F1,j,V,E8,X0,KH,K,hyk,hyok,R,hypl,Q,vU⟩:=h.XV hy hY;subst X0;have N:=vU.lt C8;have hav:C7 δ1 x=C7 δ x:=(by cases x<;>simp[C7,KH]);have H:j.length=ys.length:=(by rw[← K];simp);split at B
   . -- a node
     rename_i b' k' rows τ' hX;split at B
     . rename_i Pm;rcases E8.Vu g hX with⟨LL,hn,δ2,F2,f,Ff,KY,Rx,Ml,hrm,Cj,Mm,Kc⟩|⟨_,hn,_⟩
       . simp only[AV.own.injEq]at hn;obtain⟨rfl,rfl,rfl⟩:=hn;subst Rx;have jJ:f.length=rows.length:=(by rw[← hrm];simp);have ha2:Rd δ2 a:=λs=>(ha s).trans ((Ml s).trans (KH s)).symm;simp only[Ak,AA1]at Pm;rw[← jJ,← H]at Pm;have h63:f.length+j.length≤9223372036854775807:=(by have:=Nat.le_mul_of_pos_right (f.length+j.length) vL;omega);rw[hav]at Cj;obtain⟨hxr,hxk,Fc',hxok',LB⟩:=b8 Cj;have O:(f.flatten.map DV.A0).length=f.length*i.size:=(by rw[ABI,Dk hxk]);have F:(j.flatten.map DV.A0).length=j.length*i.size:=(by rw[ABI,Dk hyk]);have X:∀x,BE F2 x∨Ff x->¬V x:=(by intro x g hfy;obtain⟨s,hs⟩:=Kc x g;exact Q s x hs hfy);have rG:(f++j).map (·.map DV.er)=rows++ys:=(by rw[ABL,hrm,K]);have hkk:∀r∈f++j,r.length=i.size:=by
          intro r hr;rcases AAz.1 hr with l|l
          . exact hxk r l
          . exact hyk r l
         have hU:Nx w S (BE Fr) w S1 (λx=>BE F1 x∨V x):=vU;have Ie:∀U,(∀x,U x->Ff x)->Jm w S1 f.flatten U->Jm w S1 (f++j).flatten (λx=>U x∨V x):=(by intro U Bx vV;rw[List.flatten_append];exact Lt vV hyok (λx g=>X x (.inr (Bx x g))));have grow:∀(base:AB8 Addr) (n PL:Nat),C7 δ x= .slice base n PL->n=f.length->PL<f.length+j.length->Qu P G w S Fr a o σ':=by
          intro base n PL J hn T;subst hn;rw[J]at hxr;have M:=UI (P:=P) (ty:=o.type) hu hi hz hxr O R F T Pm h63;have lS:=grownCap_ge w (f.length+j.length) PL e;obtain⟨W1,m⟩:∃W1,W1=w.drew.alloc (.cells ((f.flatten.map DV.A0++j.flatten.map DV.A0).toArray++Builtin.zeroCells z.cells (grownCap w (f.length+j.length) PL e-(f.length+j.length))) e):=⟨_,rfl⟩;rw[← m]at M;refine Y1 (w':=W1) (Fr:=Fr) (U1:=λx=>BE F1 x∨V x) (rows:=f++j) (Fd:=λx=>Fc' x∨V x) (arr:=(f.flatten.map DV.A0++j.flatten.map DV.A0).toArray++Builtin.zeroCells z.cells (grownCap w (f.length+j.length) PL e-(f.length+j.length))) (E:=e) KY N ha2 hd
           (by rw[ABK];exact VQ _ _ (by rw[J];exact M)) (by rw[m];rfl) (by rw[m];rfl) (by rw[m];rfl) (by rw[m];rfl) (Ie Fc' LB hxok') ?_ hkk ⟨Xr hzk O F lS,by simpa using lS⟩ ?_ (by rw[rG];exact B) ?_ hU
          . rintro s x g (l|l)
            . exact Mm s x g (LB x l)
            . exact X x (.inl ⟨s,g⟩) l
          . intro n d hn;rw[List.flatten_append]at hn;have T:n<(f.flatten++j.flatten).length:=(AAj.1 hn).1;rw[Array.getElem?_append_left (by rw[List.size_toArray,ABK,ABI,ABI,← ABK];exact T),List.getElem?_toArray,← ABL,AAt,hn];rfl
          . rintro x (g|l|l)
            . exact .inl (Kc x (.inl g))
            . exact .inl (Kc x (.inr (LB x l)))
            . exact .inr l
         rcases b6 Cj with⟨J,_,hr0,hF0⟩|⟨b,cc,arr,E,U,J,hb,hk,D6,hS,vV,KW,hF,Qx⟩
         . subst hr0;by_cases hm:j.length=0
           . have hy0:j=[]:=ABs hm;subst hy0;have M:=UJ (P:=P) (w:=w) (ty:=o.type) hu hi (base:=none) (n:=0) (c:=0) (AA8 0) (by simpa using R);have hys:ys=[]:=(by rw[← K];rfl);have vW:rows=[]:=(by rw[← hrm];rfl);subst hys;subst vW;refine KV (D:=.own (.slice none 0 0) false i.size []) (Ff:=λ_=>False) KY ha2 hd (by simpa using VQ _ _ (by rw[J];exact M)) (λ_ _=>rfl) (λ_ _ _=>rfl) (λ_ h=>h) (λs x g=>(KY.ok s).E7 x g) (.nil _ _ (λ_ h=>h)) (λ_ _ _ h=>h) (.own _ _ _ _) (by simpa using B) ?_;exact hU.trans (Nx.less λx g=>.inl (Kc x (.inl (g.elim id False.elim))))
           . exact grow none 0 0 J rfl (by omega)
         . by_cases vP:f.length+j.length≤cc
           . -- room
             simp only[AAr,AAx]at D6;have hsz2:f.length*i.size+(j.flatten.map DV.A0).length≤arr.size:=(by rw[F,← D6.1,← Nat.add_mul];exact ABQ _ vP);have M:=eW (P:=P) (ty:=o.type) hu hi hb R F (by intro q hq;obtain⟨dd,MV,rfl⟩:=AB0.1 hq;exact xB (hypl dd MV)) vP hsz2;generalize C:w.setRow b (arr.toList.take (f.length*i.size)++j.flatten.map DV.A0++arr.toList.drop (f.length*i.size+(j.flatten.map DV.A0).length)).toArray=w1 at M;have Z:w1.heap[b]? =some (.cells (arr.toList.take (f.length*i.size)++j.flatten.map DV.A0++arr.toList.drop (f.length*i.size+(j.flatten.map DV.A0).length)).toArray E (0,0)):=(by rw[← C];exact setRow_heap w b arr _ E _ hb);have V2:∀x,x≠b->w1.heap[x]? =w.heap[x]? :=λx g=>(by rw[← C];exact setRow_other w b x _ g);have p:Ff b:=(hF b).2 (.inl rfl);have hFc:∀x,U x->Ff x:=λx g=>(hF x).2 (.inr g);have hnb:∀x,U x∨V x->x≠b:=by
              rintro x (l|l) rfl
              . exact KW l
              . exact X x (.inr p) l
             have I:=Ie U hFc vV;have jF:Ok w1 S1 (.own (Jp false b (f++j).length cc) false i.size (f++j)) (λx=>x=b∨(U x∨V x)):=by
              refine pF Z hkk ?_ hS (I.mono (λx g=>V2 x (by rintro rfl;exact hS g)) (λx g=>V2 x (hnb x g)) (λ_ h=>h) (B2.2 I).E7) (λg=>hnb b g rfl) ?_
              . simp only[AAr,AAx,List.size_toArray,ABK,List.length_take,List.length_drop,Array.length_toList];refine⟨?_,by simpa using vP⟩;rw[D6.1];omega
              . intro n d hn;rw[List.flatten_append]at hn;have hxl':f.flatten.length=f.length*i.size:=Dk hxk;rw[List.getElem?_toArray];have T:n<(f.flatten++j.flatten).length:=(AAj.1 hn).1;have htl:(arr.toList.take (f.length*i.size)).length=f.flatten.length:=(by have e0:arr.toList.length=arr.size:=Array.length_toList;rw[hxl',List.length_take];exact Nat.min_eq_left (by omega));rw[ABA (by rw[ABK,htl,ABI];simpa using T)];by_cases Eu:n<f.flatten.length
                . rw[ABA (by omega)]at hn ⊢;rw[ABi,AAs (by omega)]
                  have:=Qx n d hn;simpa using this
                . rw[ABC (by omega)]at hn ⊢;rw[htl,AAt,hn];rfl
             refine KV (D:=.own (Jp false b (f++j).length cc) false i.size (f++j)) (S1:=S1) (S':=S1) KY ha2 hd (by simpa[Jp]using VQ _ _ (by rw[J];simpa[Jp]using M)) (λx g=>V2 x (by rintro rfl;exact hS g))
              (λs x g=>V2 x (by rintro rfl;exact Mm s x g p)) (λ_ h=>h) (λs x g=>(KY.ok s).E7 x g) jF ?_ (.own _ _ _ _) (by rw[Et,rG];exact B) ?_
             . rintro s x g (rfl|l|l)
               . exact Mm s x g p
               . exact Mm s x g (hFc x l)
               . exact X x (.inl ⟨s,g⟩) l
             . refine hU.trans ⟨by rw[← C];rfl,by rw[← C];rfl,by rw[← C];rfl,by rw[← C];simp[World.setRow],?_,λ_ h=>h,λ_ h=>.inl h,λhl q hq=>by have:=hl q hq;rw[← C];simpa[World.setRow]using this,?_⟩
               . intro x _ hUx;refine V2 x ?_;rintro rfl;exact hUx (.inl (Kc x (.inr p)))
               . rintro x (g|rfl|l|l)
                 . exact .inl (.inl (Kc x (.inl g)))
                 . exact .inl (.inl (Kc x (.inr p)))
                 . exact .inl (.inl (Kc x (.inr (hFc x l))))
                 . exact .inl (.inr l)
           . exact grow _ _ cc (by rw[J];rfl) rfl (by omega)
       . cases hn
     . cases B
   . -- a frozen slice without room
     rename_i e0 k0 rows τ' hX;rcases E8.Vu g hX with⟨_,hn,_⟩|⟨LL,hn,hτ,Uo,N4⟩
     . cases hn
     . simp only[AV.sl.injEq]at hn;obtain⟨rfl,rfl,rfl⟩:=hn;subst hτ;rw[hav]at N4;have RP:Rd δ1 a:=λs=>(ha s).trans (KH s).symm;obtain⟨ad,cap,J⟩:=Pc N4;have W:cap=rows.length:=by
        rw[J]at N4;cases N4 with
        |nil _ _ _ _ g=>exact g rfl
        |sl _ _ _ _ _ _ _ g=>exact g rfl
       subst W;split at B
       . -- nothing to append
         rename_i hem;obtain rfl:=List.isEmpty_iff.1 hem;have hy0:j=[]:=ABs (by rw[H];rfl);subst hy0;have M:=UJ (P:=P) (w:=w) (ty:=o.type) hu hi (base:=ad) (n:=rows.length) (c:=rows.length) (AA8 _) (by simpa using R);refine KV (D:=.lf (.sl false i.size rows) (.slice ad rows.length rows.length)) (Ff:=λ_=>False) (S1:=S1) (S':=S1) E8 RP hd (by simpa using VQ _ _ (by rw[J];exact M)) (λ_ _=>rfl) (λ_ _ _=>rfl) (λ_ h=>h) (λs x g=>(E8.ok s).E7 x g) (.lf _ _ _ (by rw[← J];exact fz_weak N4) (λ_ h=>h)) (λ_ _ _ h=>h) (.lf _ _ trivial) (by rw[Ei];exact B) ?_;exact vU.trans (Nx.less λx g=>.inl (g.elim id False.elim))
       . rename_i Pk;obtain⟨y0,L,rfl⟩:∃y0 L,ys=y0::L:=by
          cases ys with
          |nil=>exact absurd rfl Pk
          |cons y0 L=>exact⟨y0,L,rfl⟩
         split at B
         . rename_i Pm;simp only[Ak,AA1]at Pm;obtain⟨f,l,h2,h3,h4,h5⟩:=Rv N4;rw[Uv Uo]at l;have hyl1:j.length=(y0::L).length:=H;rw[← h5,← hyl1]at Pm;have h63:f.length+j.length≤9223372036854775807:=(by have:=Nat.le_mul_of_pos_right (f.length+j.length) vL;omega);have O:(f.flatten.map DV.A0).length=f.length*i.size:=(by rw[ABI,Dk h2]);have F:(j.flatten.map DV.A0).length=j.length*i.size:=(by rw[ABI,Dk hyk]);rw[J,← h5]at h4;have T:f.length<f.length+j.length:=(by rw[hyl1];simp);have M:=UI (P:=P) (ty:=o.type) hu hi hz h4 O R F T Pm h63;have lS:=grownCap_ge w (f.length+j.length) f.length e;obtain⟨W1,m⟩:∃W1,W1=w.drew.alloc (.cells ((f.flatten.map DV.A0++j.flatten.map DV.A0).toArray++Builtin.zeroCells z.cells (grownCap w (f.length+j.length) f.length e-(f.length+j.length))) e):=⟨_,rfl⟩;rw[← m]at M;have rG:(f++j).map (·.map DV.er)=rows++y0::L:=(by rw[ABL,l,K]);refine Y1 (w':=W1) (Fr:=Fr) (U1:=λx=>BE F1 x∨V x) (rows:=f++j) (Fd:=λx=>False∨V x) (arr:=(f.flatten.map DV.A0++j.flatten.map DV.A0).toArray++Builtin.zeroCells z.cells (grownCap w (f.length+j.length) f.length e-(f.length+j.length))) (E:=e) E8 N RP hd
            (by rw[ABK];exact VQ _ _ (by rw[J,← h5];exact M)) (by rw[m];rfl) (by rw[m];rfl) (by rw[m];rfl) (by rw[m];rfl) (by rw[List.flatten_append];exact Lt h3 hyok (λ_ h=>h.elim)) ?_ ?_ ⟨Xr hzk O F lS,by simpa using lS⟩ ?_ (by rw[rG];exact B) ?_ vU
           . rintro s x g (l|l)
             . exact l
             . exact Q s x g l
           . intro r hr;rcases AAz.1 hr with l|l
             . exact h2 r l
             . exact hyk r l
           . intro n d hn;rw[List.flatten_append]at hn;have T:n<(f.flatten++j.flatten).length:=(AAj.1 hn).1;rw[Array.getElem?_append_left (by rw[List.size_toArray,ABK,ABI,ABI,← ABK];exact T),List.getElem?_toArray,← ABL,AAt,hn];rfl
           . rintro x (g|l|l)
             . exact .inl g
             . exact l.elim
             . exact .inr l
         . cases B
   . cases B
 . cases B
end Go.Abs
namespace Go.Abs
variable {w w':World} {S S':Nat->Prop} {G:Gi} {δ:Nat->DV} {Fr:Nat->Nat->Prop} {P:Program}
def placeOf (P:Program) (t:TypeId):Nat->AB8 (Nat×Nat):=λi=>match P.underlying t with
 |some (.struct fs)=>match fs[i]? with
  |some f=>match Gv P f.type with
   |some n=>some (f.offset,n)
   |none=>none
  |none=>none
 |some (.array _ e)=>match Gv P e with
  |some k=>some (i*k,k)
  |none=>none
 |_=>none
def fB (P:Program) (t:TypeId):Bool:=match P.underlying t with
 |some (.struct fs)=>fs.toList.all λf=>(Gv P f.type).isSome
 |some (.array _ e)=>(Gv P e).isSome
 |_=>false
def eU (zc:Array Value) (n:Nat):List Value:=((Array.range n).map (zc[· %zc.size]!)).toList
def Jn (P:Program):Op->ZR->Bool
 | .move x,.cp y=>CM x y
 | .assign x,.mv y=>CM x y
 | .assign x,.cp y=>CM x y
 | .pick c a b,.pick c' a' b'=>CM c c'&&CM a a'&&CM b b'
 | .alloc t,.bx n (.c z)=>Gv P t==some n&&(match(P.info? t).bind (·.zero),JE z with|some v,some D=>r5 v D.A0|_,_=>false)
 | .box t x,.bx n y=>Gv P t==some n&&CM x y
 | .build t parts,.Uc z ps=>(match(P.info? t).bind (·.zero),Xj z with
  |some v,some zd=>UM v.cells.toList (zd.map DV.A0)&&z.all Fj&&fB P t&&Ly (placeOf P t) parts.toList ps
  |_,_=>false)
 | .buildSlice t len parts,.Na k z ps=>(match P.underlying t with
  |some (.slice e)=>Gv P e==some k&&decide (len*k≤16777216)&&(match(P.info? e).bind (·.zero),uM z with
   |some v,some zd=>UM (eU (if len*k=0 then #[]else v.cells) (len*k)) (zd.flatten.map DV.A0)&&z.length==len&&z.all (·.length==k)&&OE k parts.toList ps
   |_,_=>false)
  |_=>false)
 | .load t a,.ld g n b=>Gv P t==some n&&Jb P t==some g&&(g||n==1)&&CM a b
 | .store t a x,.st n b y=>Gv P t==some n&&CM a b&&CM x y
 | .fieldAddr t x f,.VK off y=>(match P.underlying t with
  |some (.struct fs)=>match fs[f]? with
   |some fd=>fd.offset==off&&(match Gv P fd.type with|some n=>n != 0|none=>false)
   |none=>false
  |_=>false)&&CM x y
 | .indexAddr t x i,.W4 k y j=>(match P.underlying t with|some (.slice e)=>Gv P e==some k|_=>false)&&CM x y&&CM i j
 | .indexAddr t x i,.aad len k y j=>(match P.underlying t with|some (.array n e)=>n==len&&Gv P e==some k|_=>false)&&CM x y&&CM i j
 | .makeSlice t x y,.mk k bytes z x' y'=>(match P.underlying t with
  |some (.slice e)=>match P.info? e with
   |some i=>i.size==k&&i.bytes==bytes&&decide (0<bytes)&&decide (0<k)&&z.length==k&&(match i.zero,Xj z with|some v,some zd=>UM v.cells.toList (zd.map DV.A0)|_,_=>false)
   |none=>false
  |_=>false)&&CM x x'&&CM y y'
 | .field t x f,.fld agg off n y=>(match P.underlying t with
  |some (.struct fs)=>match fs[f]? with
   |some fd=>fd.offset==off&&Gv P fd.type==some n&&Jb P fd.type==some agg&&(agg||n==1)
   |none=>false
  |_=>false)&&CM x y
 | .index t x i,.idx agg len k y j=>(match P.underlying t with|some (.array n e)=>n==len&&Gv P e==some k&&Jb P e==some agg&&(agg||k==1)|_=>false)&&CM x y&&CM i j
 | .index t x i,.lE y j=>(match P.underlying t with|some .string=>true|_=>false)&&CM x y&&CM i j
 | .binOp op _ x y _,.bin op' x' y'=>decide (op=op')&&CM x x'&&CM y y'
 | .binOp op t x y _,.beq neg x' y'=>decide (op=if neg=true then .neq else .eql)&&(match P.underlying t with|some .bool=>true|_=>false)&&CM x x'&&CM y y'
 | .binOp op t x y _,.Wf neg kd x' y'=>decide (op=if neg=true then .neq else .eql)&&nO P t kd&&CM x x'&&CM y y'
 | .load t a,.YO b=>Gv P t==some 1&&Jb P t==some false&&CM a b
 | .store t a x,.XC b y=>Gv P t==some 1&&CM a b&&CM x y
 | .nilCheck x,.KK y=>CM x y
 | .makeFunc (.func f) first dJ,.mkf f' ys=>f==f'&&first.isEmpty&&G3 dJ.toList ys
 | .unOp op _ x,.un op' y=>decide (op=op')&&CM x y
 | .convert s d x,.cvt k y=>(match P.underlying s,P.underlying d with|some (.int _),some (.int k')=>decide (k=k')|_,_=>false)&&CM x y
 | .call c,.len y=>(match c.callee,c.args.toList,c.argTypes.toList with
  | .builtin .len,[x],[t]=>(match P.underlying t with|some (.slice _)=>true|_=>false)&&CM x y
  |_,_,_=>false)
 | .call c,.Z6 y=>(match c.callee,c.args.toList,c.argTypes.toList with
  | .builtin .len,[x],[t]=>(match P.underlying t with|some .string=>true|_=>false)&&CM x y
  |_,_,_=>false)
 | .call c,.mm mx x y=>(match c.callee,c.args.toList with
  | .builtin b,[u,v]=>(match b,mx with| .max,true=>true| .min,false=>true|_,_=>false)&&CM u x&&CM v y
  |_,_=>false)
 | .call c,.app k bytes x y=>(match c.callee,c.args.toList,c.argTypes.toList with
  | .builtin .append,[u,v],[t,t']=>t==t'&&(match P.underlying t with
   |some (.slice e)=>match P.info? e with
    |some i=>i.size==k&&i.bytes==bytes&&decide (0<bytes)&&(match i.zero with|some z=>z.cells.size==k|none=>false)
    |none=>false
   |_=>false)&&CM u x&&CM v y
  |_,_,_=>false)
 | .slice t x lo hi mx,.zC k fr y lo' hi' jZ=>(match P.underlying t with|some (.slice e)=>Gv P e==some k|_=>false)&&(mx.isNone||hi.isSome)&&CM x y&&Ro lo lo'&&Ro hi hi'&&Ro mx jZ
 | .extract x i,.ext y j=>decide (i=j)&&CM x y
 |_,.bad=>true
 |_,_=>false
theorem arr2 {b:Type} {a:Array b} {x y:b} (h:a.toList=[x,y]):a= #[x,y]:=by apply ABx;simpa using h
theorem run_mapM {c d:Type} (l:List c) (f:c->Sem d) (g:c->d) (h:∀a∈l,(f a).run P w= .ok (g a) w):(l.mapM f).run P w= .ok (l.map g) w:=by
 induction l with
 |nil=>simp
 |cons a l ih=>have e:=h a (by simp);have i:=ih (λb j=>h b (by simp[j]));simp[List.mapM_cons,e,i]
theorem run_build {t:TypeId} {v:Value} {b:Array (Nat×Value)} {i:TypeInfo} (hi:P.info? t=some i) (p:i.zero=some v) (c:fB P t=true) (a:Array Value) (l:Instr.fill (placeOf P t) v.cells b.toList=some a):
 (Instr.build t b).run P w= .ok (.agg a) w:=by
 unfold fB at c;split at c
 . rename_i g h;have q:(g.mapM (m:=Sem) λ(f:Field)=>Prod.mk f.offset <$> sizeOf f.type).run P w= .ok (g.map λf=>(f.offset,(Gv P f.type).getD 0)) w:=by
    rw[Array.mapM_eq_mapM_toList]
    have:=run_mapM (P:=P) (w:=w) g.toList (λ(f:Field)=>(Prod.mk f.offset <$> sizeOf f.type:Sem (Nat×Nat))) (λf=>(f.offset,(Gv P f.type).getD 0)) (by
     intro f d;rw[AAm]at c
     have:=c f d;obtain⟨n,hn⟩:=Option.isSome_iff_exists.1 this;simp[run_sizeOf hn,hn])
    simp only[Sem.run_map,this,Result.andThen_ok];congr 1;apply ABx;simp
   have j:(λi=>Option.map (λ(f:Field)=>(f.offset,(Gv P f.type).getD 0)) g[i]?)=placeOf P t:=by
    funext i;simp only[placeOf,h];cases d:g[i]? with
    |none=>rfl
    |some f=>
     rw[AAm]at c
     have:=c f (by rw[Array.mem_toList_iff];exact Array.mem_of_getElem? d);obtain⟨n,hn⟩:=Option.isSome_iff_exists.1 this;simp[hn]
   simp only[Instr.build,zeroValue,typeInfo,Sem.run_bind,run_underlying h];simp[program,Sem.run,hi,p,q];rw[j,l];simp
 . rename_i n e h;obtain⟨k,o⟩:=Option.isSome_iff_exists.1 c;have j:(λi=>some (i*k,k))=placeOf P t:=(by funext i;simp[placeOf,h,o]);simp only[Instr.build,zeroValue,typeInfo,Sem.run_bind,run_underlying h];simp[program,Sem.run,hi,p,run_sizeOf o];rw[j,l];simp
 . cases c
theorem Yz {t e:TypeId} {v:Value} {len k:Nat} {b:Array (Nat×Value)} {i:TypeInfo} (h:P.underlying t=some (.slice e)) (g:Gv P e=some k) (j:len*k≤16777216) (hi:P.info? e=some i) (l:i.zero=some v) (a:Array Value)
 (c:Instr.fill (λi=>some (i*k,k)) (eU (if len*k=0 then #[]else v.cells) (len*k)).toArray b.toList=some a):
 (Instr.buildSlice t len b).run P w= .ok (.slice (some ⟨w.heap.size,0,none⟩) len len) (w.alloc (.cells a e)):=by
 have f:¬(16777216<len*k):=by omega
 simp only[eU,Array.toArray_toList]at c;by_cases d:len*k=0
 . simp only[d,AA5]at c;simp[Instr.buildSlice,run_underlying h,run_sizeOf g,d];simp at c;rw[c];simp[newRow]
 . simp only[d,AAx]at c;simp[Instr.buildSlice,run_underlying h,run_sizeOf g,d,f,zeroValue,typeInfo,hi,l];rw[c];simp[newRow]
theorem Uu {c:Type} [BEq c] [LawfulBEq c] {a:AB8 c} {b:c} (h:(a==some b)=true):a=some b:=by simpa using h
theorem op_sound (h:St G w S δ Fr) (W:∀b,S b->b<w.heap.size) {a:Act} (E:Rd δ a) {o:Oper} {io:ZR} {d:AB8 Dn} (hd:JL G a o d) (l:Jn P o.op io=true) {σ':Sg} (H:Gn G io d (λs=>(δ s).er)=some σ'):Qu P G w S Fr a o σ':=by
 have val:∀{v:AV},(∀{d},Gn G io (some d) (λs=>(δ s).er)=(match valOf io (λs=>(δ s).er)with|some v=>wr d v (λs=>(δ s).er)|none=>none))->(Gn G io none (λs=>(δ s).er)=none)->
  (∀v,valOf io (λs=>(δ s).er)=some v->Gives P w S δ a o v)->Qu P G w S Fr a o σ':=by
  intro _ m C F;cases d with
  |none=>rw[C]at H;cases H
  |some d=>
   rw[m]at H;split at H
   . rename_i v B;exact Z4 h E hd (F v B) H
   . cases H
 have O:∀{io:ZR},(Gn G io none (λs=>(δ s).er)=none)->Gn G io d (λs=>(δ s).er)=some σ'->∃M,d=some M:=by
  intro io m C;cases d with
  |none=>rw[m]at C;cases C
  |some d=>exact⟨d,rfl⟩
 unfold Jn at l;split at l
 . rename_i x y p;exact val (v:=.dead) rfl rfl λv B=>TO h E (.inl p) l B
 . rename_i x y p;obtain⟨M,rfl⟩:=O rfl H;exact runs_mv h E hd p l H
 . rename_i x y p;exact val (v:=.dead) rfl rfl λv B=>TO h E (.inr p) l B
 . rename_i c x y c' Z y' p;simp only[AAi]at l;exact val (v:=.dead) rfl rfl λv B=>oE h E p l.1.1 l.1.2 l.2 B
 . rename_i t n z p;simp only[AAi]at l;obtain⟨m,C⟩:=l;split at C
   . rename_i v D B hD;obtain⟨i,hi,N⟩:=Option.bind_eq_some_iff.1 B;obtain⟨M,rfl⟩:=O rfl H;refine rW (t:=t) (y:=.c z) h W E hd ⟨D,hD⟩ ?_ H
     have:=xO (P:=P) t i v hi N w;simp only[execOp,p,Sem.run_bind,this,Result.andThen_ok,Sem.run_pure,C7,hD,kX C]
   . cases C
 . rename_i t x n y p;simp only[AAi]at l;obtain⟨hy,NJ⟩:=Am l.2 E;obtain⟨M,rfl⟩:=O rfl H;refine rW (t:=t) h W E hd hy ?_ H;simp only[execOp,p,Sem.run_bind,rV,Result.andThen_ok,Sem.run_pure,NJ]
 . rename_i t V z ps p;split at l
   . rename_i v zd B N;simp only[AAi]at l;obtain⟨⟨⟨m,C⟩,F⟩,Q⟩:=l;obtain⟨i,hi,U⟩:=Option.bind_eq_some_iff.1 B;obtain⟨M,rfl⟩:=O rfl H;refine runs_bld h E hd p N C Q (λJ T=> ?_) H;refine run_build hi U F J ?_
     have:=QJ m;have e:v.cells=(zd.map DV.A0).toArray:=(by apply ABx;simpa using this);rw[e];simpa using T
   . cases l
 . rename_i t len V k z ps p;split at l
   . rename_i e I;simp only[AAi,AA1]at l;obtain⟨⟨m,C⟩,F⟩:=l;split at F
     . rename_i v zd B N;simp only[AAi,AAw]at F;obtain⟨⟨⟨L,g2⟩,K⟩,R⟩:=F;obtain⟨i,hi,U⟩:=Option.bind_eq_some_iff.1 B;obtain⟨M,rfl⟩:=O rfl H;refine runs_bsl (e:=e) h W E hd p N (λr hr=>by rw[AAm]at K;simpa using K r hr) g2 R (λJ T=> ?_) H;refine Yz I (Uu m) C hi U J ?_;rw[QJ L];simpa using T
     . cases F
   . cases l
 . rename_i t x g n y p;simp only[AAi,ABE,AAw]at l;exact val (v:=.dead) rfl rfl λv B=>TP h E p l.1.1.1 l.1.1.2 l.1.2 l.2 B
 . rename_i t x u n y z p;simp only[AAi,AAw]at l;cases d with
   |some d=>simp[Gn,valOf]at H
   |none=>exact rX h E hd p l.1.1 l.1.2 l.2 H
 . rename_i t x f off y p;simp only[AAi]at l;obtain⟨m,C⟩:=l;split at m
   . rename_i fs I;split at m
     . rename_i fd T;simp only[AAi,AAw]at m;obtain⟨L,g2⟩:=m;split at g2
       . rename_i n hn;simp only[bne_iff_ne]at g2;exact val (v:=.dead) rfl rfl λv B=>bB h E p I T L hn g2 C B
       . cases g2
     . cases m
   . cases m
 . rename_i t x i k y j p;simp only[AAi]at l;obtain⟨⟨m,C⟩,F⟩:=l;split at m
   . rename_i e I;exact val (v:=.dead) rfl rfl λv B=>bC h E p I (Uu m) C F B
   . cases m
 . rename_i t x i len k y j p;simp only[AAi]at l;obtain⟨⟨m,C⟩,F⟩:=l;split at m
   . rename_i n e I;simp only[AAi,AAw]at m;obtain⟨rfl,g2⟩:=m;exact val (v:=.dead) rfl rfl λv B=>uY h E p I g2 C F B
   . cases m
 . rename_i t x y k bytes z Z y' p;simp only[AAi]at l;obtain⟨⟨m,C⟩,F⟩:=l;split at m
   . rename_i e I;split at m
     . rename_i i hi;simp only[AAi,AAw,AA1]at m;obtain⟨⟨⟨⟨⟨L,g2⟩,K⟩,R⟩,g5⟩,g6⟩:=m;split at g6
       . rename_i v zd B N;obtain⟨M,rfl⟩:=O rfl H;exact runs_mk h W E hd p I hi B L g2 K R N (QJ g6) g5 C F H
       . cases g6
     . cases m
   . cases m
 . rename_i t x f agg off n y p;simp only[AAi]at l;obtain⟨m,C⟩:=l;split at m
   . rename_i fs I;split at m
     . rename_i fd T;simp only[AAi,AAw,ABE]at m;obtain⟨⟨⟨L,g2⟩,K⟩,R⟩:=m;exact val (v:=.dead) rfl rfl λv B=>vB h E p I T L g2 K R C B
     . cases m
   . cases m
 . rename_i t x i agg len k y j p;simp only[AAi]at l;obtain⟨⟨m,C⟩,F⟩:=l;split at m
   . rename_i n e I;simp only[AAi,AAw,ABE]at m;obtain⟨⟨⟨rfl,g2⟩,K⟩,R⟩:=m;exact val (v:=.dead) rfl rfl λv B=>vD h E p I g2 K R C F B
   . cases m
 . rename_i t x i y j p;simp only[AAi]at l;obtain⟨⟨m,C⟩,F⟩:=l;split at m
   . rename_i I;exact val (v:=.dead) rfl rfl λv B=>oG h E p I C F B
   . cases m
 . rename_i op t x y u op' Z y' p;simp only[AAi,AA1]at l;obtain⟨⟨rfl,C⟩,F⟩:=l;exact val (v:=.dead) rfl rfl λv B=>u6 h E p C F B
 . rename_i op t x y u neg Z y' p;simp only[AAi,AA1]at l;obtain⟨⟨⟨m,C⟩,F⟩,Q⟩:=l;split at C
   . rename_i I;exact val (v:=.dead) rfl rfl λv B=>uZ h E p m I F Q B
   . cases C
 . rename_i op t x y u neg kd Z y' p;simp only[AAi,AA1]at l;obtain⟨⟨⟨m,C⟩,F⟩,Q⟩:=l;exact val (v:=.dead) rfl rfl λv B=>oF h E p m C F Q B
 . rename_i t x y p;simp only[AAi,AAw]at l;exact val (v:=.dead) rfl rfl λv B=>TP h E p l.1.1 l.1.2 (.inr rfl) l.2 (lda_ld B)
 . rename_i t x u y z p;simp only[AAi,AAw]at l;cases d with
   |some d=>simp[Gn,valOf]at H
   |none=>exact rX h E hd p l.1.1 l.1.2 l.2 (sts_st H)
 . rename_i x y p;exact val (v:=.dead) rfl rfl λv B=>oC h E p l B
 . rename_i f first dJ f' ys p
   simp only[AAi,AAw]at l;obtain⟨⟨rfl,m⟩,C⟩:=l;exact val (v:=.dead) rfl rfl λv B=>bD h E p (by simpa using m) C B
 . rename_i op t x op' y p;simp only[AAi,AA1]at l;obtain⟨rfl,C⟩:=l;exact val (v:=.dead) rfl rfl λv B=>gives_un h E p C B
 . rename_i s t x k y p;simp only[AAi]at l;obtain⟨m,C⟩:=l;split at m
   . rename_i k0 k' hs ht;simp only[AA1]at m;subst m;exact val (v:=.dead) rfl rfl λv B=>u7 h E p hs ht C B
   . cases m
 . rename_i c y p;split at l
   . rename_i x t L g2 K;simp only[AAi]at l;obtain⟨m,C⟩:=l;split at m
     . rename_i e I;exact val (v:=.dead) rfl rfl λv B=>vE h E p L g2 K ⟨e,I⟩ C B
     . cases m
   . cases l
 . rename_i c y p;split at l
   . rename_i x t L g2 K;simp only[AAi]at l;obtain⟨m,C⟩:=l;split at m
     . rename_i I;exact val (v:=.dead) rfl rfl λv B=>oH h E p L g2 K I C B
     . cases m
   . cases l
 . rename_i c mx x y p;split at l
   . rename_i b u v Mb GM;simp only[AAi]at l;obtain⟨⟨m,C⟩,F⟩:=l;have hb:b=(if mx=true then .max else .min):=by
      split at m
      . rfl
      . rfl
      . cases m
     exact val (v:=.dead) rfl rfl λv B=>gives_mm h E p (by rw[Mb,hb]) GM C F B
   . cases l
 . rename_i c k bytes x y p;split at l
   . rename_i u v t t' L g2 K;simp only[AAi,AAw]at l;obtain⟨⟨⟨rfl,m⟩,C⟩,F⟩:=l;split at m
     . rename_i e I;split at m
       . rename_i i hi;simp only[AAi,AAw,AA1]at m;obtain⟨⟨⟨k1,k2⟩,k3⟩,X⟩:=m;split at X
         . rename_i z N;simp only[AAw]at X;obtain⟨M,rfl⟩:=O rfl H;exact runs_app h W E hd p L (arr2 g2) (arr2 K) I hi k1 k2 k3 N X C F H
         . cases X
       . cases m
     . cases m
   . cases l
 . rename_i t x lo hi mx k fr y lo' hi' jZ p;simp only[AAi,ABE,ABX]at l;obtain⟨⟨⟨⟨⟨m,C⟩,F⟩,Q⟩,h5⟩,h6⟩:=l;split at m
   . rename_i e I;obtain⟨M,rfl⟩:=O rfl H;cases fr with
     |true=>exact kV h E hd p I (Uu m) F Q h5 h6 (C.imp id (by intro q hq;simp[hq]at q)) H
     |false=>exact xP h E hd p I (Uu m) F Q h5 h6 (C.imp id (by intro q hq;simp[hq]at q)) H
   . cases m
 . rename_i x i y j p;simp only[AAi,AA1]at l;obtain⟨rfl,C⟩:=l;exact val (v:=.dead) rfl rfl λv B=>u9 h E p C B
 . cases d<;>simp[Gn,valOf]at H
 . cases l
end Go.Abs
namespace Go.Abs
variable {w w':World} {S S':Nat->Prop} {G:Gi} {δ:Nat->DV} {Fr:Nat->Nat->Prop} {P:Program}
def Rel (G:Gi) (n:Nat) (w0:World) (S0 U0:Nat->Prop) (a:Act) (w:World) (σ:Sg):Prop:=
 ∃(S:Nat->Prop) (δ:Nat->DV) (F:Nat->Nat->Prop),a.tmps.size=n/\a.defers=[]/\Rd δ a/\(λs=>(δ s).er)=σ/\St G w S δ F/\Nx w0 S0 U0 w S (BE F)/\(∀b,S b->b<w.heap.size)
def ZX (w0:World) (S0 U0:Nat->Prop):Prop:=GI w0 S0/\∀b,S0 b->¬U0 b/\b<w0.heap.size
theorem GI.mono (h:GI w S) (c:∀b,S b->S' b):GI w S':=λx a=>⟨c _ (h x a).1,(h x a).2⟩
theorem ZX.now {f:World} {b c U:Nat->Prop} (e:ZX f b c) (a:Nx f b c w S U):GI w S:=by intro x k;obtain⟨d,arr,E,fz,g,h⟩:=e.1 x k;obtain⟨i,j⟩:=e.2 _ d;exact⟨a.sub _ d,arr,E,fz,by rw[a.block _ j i];exact g,h⟩
theorem Jt (h:St G w S δ Fr) {d:DV} {F:Nat->Prop} (hd:Ok w S d F) (R:∀x,F x->BE Fr x) (Q:Dd δ d) {a:AV} (f:Tz (λs=>(δ s).er) d.er=some a):
 ∃D,D.er=a/\D.A0=d.A0/\Ok w (λx=>S x∨BE Fr x) D (λ_=>False):=by
 have C:∀(b:AV) (v:Value),Fz w (λx=>S x∨BE Fr x) b v->C9 b=true->(∀y,b≠ .fp y)->(b≠ .un)->∃D:DV,D.er=b/\D.A0=v/\Ok w (λx=>S x∨BE Fr x) D (λ_=>False):=by
  intro b v n g M O;refine⟨.lf b v,by simp,by simp,.lf _ _ _ ?_ (λ_ h=>h)⟩;cases b with
  |sc u=>cases n with|sc _ N=>exact⟨rfl,N⟩
  |sl=>exact n
  |dead=>trivial
  |cl=>trivial
  |vb=>cases n
  |nY=>cases n
  |al=>trivial
  |K2=>trivial
  |fp y=>exact absurd rfl (M y)
  |un=>exact absurd rfl O
  |own=>simp[C9]at g
  |agg=>simp[C9]at g
  |BM=>simp[C9]at g
 have U:∀{D:DV} {B:Nat->Prop} {k:Nat} {i:List AV},Ok w S D B->(∀x,B x->BE Fr x)->D.er= .own true k [i]->∃z,z.er= .fp (i.map JZ)/\z.A0=D.A0/\Ok w (λx=>S x∨BE Fr x) z (λ_=>False):=by
  intro D B k i m P l;refine⟨.lf (.fp (i.map JZ)) D.A0,by simp,by simp,.lf _ _ _ ?_ (λ_ h=>h)⟩;cases m with
  |lf b v _ ha _=>simp only[Ei]at l;subst l;exact ha.elim
  |nil=>simp at l
  |agg=>simp at l
  |BM=>simp at l
  |own bx T rows b c arr E Fs _ hb hk D6 Lk hv eA MV Bi KW oJ=>
   simp only[Et,AV.own.injEq]at l;obtain⟨rfl,rfl,I⟩:=l;refine⟨b,0,by simp[Jp],.inr (P b ((oJ b).2 (.inl rfl))),λj a J=> ?_⟩
   match rows,I with
   |[I3],I=>
    simp only[AAy,ABF,List.cons.injEq,and_true]at I;subst I;simp only[List.map_map,AAt]at J;cases hjd:I3[j]? with
    |none=>simp[hjd]at J
    |some d=>
     simp only[hjd,AA9,AAh,Function.comp]at J;subst J;refine⟨d.A0,?_,?_⟩
     . have:=hv 0 j I3 d rfl hjd;simp only[World.cell?,hb];simpa using this
     . exact(eA 0 j I3 d rfl hjd).freeze.mono (λ_ _=>rfl) (λx o=>o.imp id (λn=>P x ((oJ x).2 (.inr ⟨0,j,n⟩))))
 cases hd with
 |lf b v _ ha oJ=>
  simp only[Ei]at f;cases b with
  |sc u=>simp only[Tz,AAh]at f;subst f;obtain⟨rfl,N⟩:=ha;exact C _ _ (.sc _ N) rfl (by simp) (by simp)
  |sl e k rows=>
   simp only[Tz,AAh]at f;subst f;have n:Fz w (λx=>S x∨BE Fr x) (.sl false k rows) v:=by
    have L:Fz w (λx=>S x∨BE Fr x) (.sl e k rows) v:=Fz.mono ha (λ_ _=>rfl) (λ_ h=>.inl h);cases L with
    |nil x k a c o=>exact .nil _ _ _ _ (by simp)
    |sl x k rows b off c vs o Qy hS hk hc f=>exact .sl _ _ _ b off c vs (by simp) Qy hS hk hc f
   exact C _ _ n rfl (by simp) (by simp)
  |al r p=>
   simp only[Tz]at f;split at f
   . rename_i k rows hn;simp only[AAh]at f;cases Q with
     |lf _ _ g=>obtain⟨bx,T,t,g⟩:=g;obtain⟨D,H,l⟩:=Dr (h.ok r).LD hn;rw[g]at H;obtain rfl:=AAl H;obtain⟨B,m,K⟩:=(h.ok r).Au g;have q:=m.freeze;rw[l,f]at q;subst f;simp only[OK]at q ⊢;exact C _ _ (q.mono (λ_ _=>rfl) (λx o=>o.imp id (λn=>⟨r,K x n⟩))) rfl (by simp) (by simp)
   . rename_i k i hn;simp only[AAh]at f;cases Q with
     |lf _ _ g=>obtain⟨bx,T,t,g⟩:=g;obtain⟨D,H,l⟩:=Dr (h.ok r).LD hn;rw[g]at H;obtain rfl:=AAl H;obtain⟨B,m,K⟩:=(h.ok r).Au g;subst f;obtain⟨z,V,W,X⟩:=U m (λx o=>⟨r,K x o⟩) l;exact⟨z,V,by simpa using W,X⟩
   . cases f
  |own=>exact ha.elim
  |fp y=>simp only[Tz,AAh]at f;subst f;exact⟨.lf (.fp y) v,by simp,by simp,.lf _ _ _ (IA.mono (a:=.fp y) ha (λ_ _=>rfl) (λ_ h=>.inl h)) (λ_ h=>h)⟩
  |_=>simp[Tz]at f
 |nil k _ oJ=>simp only[Et,ABF,Tz,AAh]at f;subst f;simp only[OK,ABF];exact C _ _ (.nil false k none 0 (by simp)) rfl (by simp) (by simp)
 |own bx k rows b c arr E Fs _ hb hk D6 Lk hv eA MV Bi KW oJ=>
  have m:=Ok.own bx k rows b c arr E Fs F hb hk D6 Lk hv eA MV Bi KW oJ;have q:=m.freeze;cases bx with
  |true=>
   simp only[Et]at f
   match rows,f,m with
   |[i],f,m=>simp only[AAy,ABF,Tz,AAh]at f;subst f;exact U (k:=k) m R (by simp)
   |[],f,_=>simp[Tz]at f
   |_::_::_,f,_=>simp[Tz]at f
  |false=>simp only[Et,Tz,AAh]at f;rw[Et,f]at q;subst f;simp only[OK]at q ⊢;exact C _ _ (q.mono (λ_ _=>rfl) (λx o=>o.imp id (R x))) rfl (by simp) (by simp)
 |agg=>simp[Tz]at f
 |BM=>simp[Tz]at f
theorem xI (h:St G w S δ Fr) (ds:List DV):∀{l:List AV},(∀d∈ds,∃F,Ok w S d F/\∀x,F x->BE Fr x)->(∀d∈ds,Dd δ d)->zB (λs=>(δ s).er) (ds.map DV.er)=some l->
 ∃b:List DV,b.map DV.er=l/\b.map DV.A0=ds.map DV.A0/\∀D∈b,Ok w (λx=>S x∨BE Fr x) D (λ_=>False):=by
 induction ds with
 |nil=>intro l _ _ a;simp only[ABF,zB,AAh]at a;simp_all
 |cons d ds ih=>
  intro l f g a;simp only[AAy,zB]at a;split at a
  . rename_i x l' j k;simp only[AAh]at a;subst a;obtain⟨F,i,g2⟩:=f d (by simp);obtain⟨D,m,n,o⟩:=Jt h i g2 (g d (by simp)) j;obtain⟨b,p,q,r⟩:=ih (λe c=>f e (by simp[c])) (λe c=>g e (by simp[c])) k;refine⟨D::b,by grind,by grind,?_⟩;simp_all
  . cases a
theorem cC (h:St G w S δ Fr) {d:DV} {F:Nat->Prop} (hd:Ok w S d F) (j:∀x,F x->BE Fr x) (g:Dd δ d) {a:AV} (f:kE (λs=>(δ s).er) d.er=some a):
 ∃D,D.er=a/\D.A0=d.A0/\Ok w (λx=>S x∨BE Fr x) D (λ_=>False):=by
 cases RR:d.er with
 |agg cs=>
  obtain⟨ds,rfl⟩:∃ds,d= .agg ds:=by
   have:=hd.LD;cases d with
   |agg ds=>simp_all
   |lf c v=>cases this with|lf _ _ n=>simp at RR;subst RR;simp[C9]at n
   |own=>simp at RR
   |BM=>simp at RR
  simp only[Hi,kE]at f;split at f
  . rename_i l n;simp only[AAh]at f;subst f;cases hd with
    |agg _ Fs _ h1 h2 h3 h4=>
     cases g with
     |agg _ g=>obtain⟨o,t,u,y⟩:=xI h ds (λe m=>by obtain⟨i,hi⟩:=AA7 m;exact⟨Fs i,h1 i e hi,λx q=>j x ((h4 x).2 ⟨i,q⟩)⟩) (λe m=>by obtain⟨i,hi⟩:=AA7 m;grind) n;exact⟨.agg o,by simp[t],by simp[u],B2.2 (CC y)⟩
  . cases f
 |al r p=>rw[RR]at f;simp only[kE]at f;rw[← RR]at f;exact Jt h hd j g f
 |own b k rows=>rw[RR]at f;simp only[kE]at f;rw[← RR]at f;exact Jt h hd j g f
 |sc v=>rw[RR]at f;simp only[kE]at f;rw[← RR]at f;exact Jt h hd j g f
 |sl e k rows=>rw[RR]at f;simp only[kE]at f;rw[← RR]at f;exact Jt h hd j g f
 |fp cs=>rw[RR]at f;simp only[kE]at f;rw[← RR]at f;exact Jt h hd j g f
 |_=>simp[RR,kE]at f
theorem Ty (h:St G w S δ Fr) {a:Act} (B:Rd δ a) (k:List Ar):∀{f:List Operand} {d:List AV},G3 f k=true->KM (λs=>(δ s).er) k=some d->
 ∃i:List DV,i.map DV.er=d/\i.map DV.A0=f.map a.eval/\∀D∈i,Ok w (λx=>S x∨BE Fr x) D (λ_=>False):=by
 induction k with
 |nil=>
  intro f d g e;cases f with
  |cons=>simp[G3]at g
  |nil=>simp only[KM,AAh]at e;simp_all
 |cons y k ih=>
  intro f d g e;cases f with
  |nil=>simp[G3]at g
  |cons x f=>
   simp only[G3,AAi]at g;obtain⟨E,F⟩:=Am g.1 B;simp only[KM]at e;split at e
   . rename_i b l j z;simp only[AAh]at e;subst e;obtain⟨D,m,n,o⟩:∃D,D.er=b/\D.A0=C7 δ y/\Ok w (λx=>S x∨BE Fr x) D (λ_=>False):=by
      cases y with
      |t s=>exact cC h (h.ok s) (λx C=>⟨s,C⟩) (h.al s) j
      |c c=>obtain⟨q,p⟩:=E;obtain⟨r,u,v,_⟩:=Iu (w:=w) (S:=S) (δ:=δ) c q p;simp only[ar]at j;rw[← r]at j;obtain⟨D,m,n,o⟩:=cC h u (λ_ h=>h.elim) v j;exact⟨D,m,by rw[n];simp[C7,p],o⟩
     obtain⟨i,H,I,J⟩:=ih g.2 z;refine⟨D::i,by grind,by simp_all,?_⟩;simp_all
   . cases e
theorem Rw {d:DV} {F:Nat->Prop} (h:Ok w S d F):∃D,D.er=JZ d.er/\D.A0=d.A0/\Ok w (λx=>S x∨F x) D (λ_=>False)/\Dd δ D:=by
 induction h with
 |lf a v F ha hF=>
  have g:=ha.C9;cases a with
  |sc u=>exact⟨.lf (.sc u) v,by simp,by simp,.lf _ _ _ ha (λ_ h=>h),.lf _ _ trivial⟩
  |sl e k rows=>exact⟨.lf (.sl e k rows) v,by simp,by simp,.lf _ _ _ (Fz.mono ha (λ_ _=>rfl) (λ_ h=>.inl h)) (λ_ h=>h),.lf _ _ trivial⟩
  |own=>exact ha.elim
  |agg=>exact ha.elim
  |BM=>exact ha.elim
  |_=>exact⟨.lf .dead v,by simp[JZ],by simp,.lf _ _ _ trivial (λ_ h=>h),.lf _ _ trivial⟩
 |nil k F hF=>exact⟨.lf (.sl false k []) (.slice none 0 0),by simp,by simp,.lf _ _ _ (Fz.nil false k none 0 (by simp)) (λ_ h=>h),.lf _ _ trivial⟩
 |own bx k rows b c arr E Fs F hb hk D6 Lk hv hr hd Bi KW hF ih=>
  have y:=(Ok.own bx k rows b c arr E Fs F hb hk D6 Lk hv hr hd Bi KW hF).freeze;cases bx with
  |true=>exact⟨.lf .dead (Jp true b rows.length c),by simp,by simp,.lf _ _ _ trivial (λ_ h=>h),.lf _ _ trivial⟩
  |false=>simp only[Et,OK,Kz]at y ⊢;exact⟨.lf (.sl false k (List.map (λ(x:List AV)=>List.map JZ x) (List.map (λ(x:List DV)=>List.map DV.er x) rows))) (Jp false b rows.length c),by rw[Ei],by simp,.lf _ _ _ y (λ_ h=>h),.lf _ _ trivial⟩
 |agg cs Fs F hr hd Bi hF ih=>
  obtain⟨o,g,j⟩:=LX cs (λi d D=>D.er=JZ d.er/\D.A0=d.A0/\Ok w (λx=>S x∨F x) D (λ_=>False)/\Dd δ D) (by intro i d n;obtain⟨D,p,q,r,s⟩:=ih i d n;exact⟨D,p,q,r.mono (λ_ _=>rfl) (λ_ _=>rfl) (λx t=>t.imp id (λh=>(hF x).2 ⟨i,h⟩)) (λ_ h=>h.elim),s⟩);refine⟨.agg o,?_,?_,B2.2 (CC λD l=> ?_),.agg _ λi D l=> ?_⟩
  . simp only[Hi,qV,AV.agg.injEq,List.map_map];exact map_mk g j _ _ (by simp) λi c D f m=>by simp[m,f.1]
  . simp only[KE];congr 2;exact map_mk g j _ _ (by simp) λi c D f m=>by simp[m,f.2.1]
  . obtain⟨i,hi⟩:=AA7 l;obtain⟨c,_,f⟩:=mem_mk g j i D hi;exact f.2.2.1
  . obtain⟨c,_,f⟩:=mem_mk g j i D l;exact f.2.2.2
 |BM cs Fs F hr hd Bi hF ih=>
  obtain⟨o,g,j⟩:=LX cs (λi d D=>D.er=JZ d.er/\D.A0=d.A0/\Ok w (λx=>S x∨F x) D (λ_=>False)/\Dd δ D) (by intro i d n;obtain⟨D,p,q,r,s⟩:=ih i d n;exact⟨D,p,q,r.mono (λ_ _=>rfl) (λ_ _=>rfl) (λx t=>t.imp id (λh=>(hF x).2 ⟨i,h⟩)) (λ_ h=>h.elim),s⟩);refine⟨.BM o,?_,?_,A8.2 (CC λD l=> ?_),.BM _ λi D l=> ?_⟩
  . simp only[JY,qX,AV.BM.injEq,List.map_map];exact map_mk g j _ _ (by simp) λi c D f m=>by simp[m,f.1]
  . simp only[Lg];congr 2;exact map_mk g j _ _ (by simp) λi c D f m=>by simp[m,f.2.1]
  . obtain⟨i,hi⟩:=AA7 l;obtain⟨c,_,f⟩:=mem_mk g j i D hi;exact f.2.2.1
  . obtain⟨c,_,f⟩:=mem_mk g j i D l;exact f.2.2.2
theorem Rt (l:List AV):Pb l=l.all fresh:=by
 induction l with
 |nil=>rfl
 |cons a l ih=>simp[Pb,ih]
theorem oA (l:List (List AV)):Ru l=l.all (·.all fresh):=by
 induction l with
 |nil=>rfl
 |cons a l ih=>simp[Ru,Rt,ih]
@[simp]theorem fresh_sc (v:Value):fresh (.sc v)=true:=by simp[fresh]
@[simp]theorem uX (b:Bool) (k:Nat) (rows:List (List AV)):fresh (.own b k rows)=rows.all (·.all fresh):=by simp[fresh,oA]
@[simp]theorem Um (a:List AV):fresh (.agg a)=a.all fresh:=by simp[fresh,Rt]
@[simp]theorem Un (a:List AV):fresh (.BM a)=a.all fresh:=by simp[fresh,Rt]
theorem TL {d:DV} {F:Nat->Prop} (h:Ok w S d F):fresh d.er=true->(∀x,F x->¬S' x)->Ok w S' d F:=by
 induction h with
 |lf a v F ha hF=>
  intro e hn;simp only[Ei]at e;cases a with
  |sc u=>exact .lf _ _ _ ha hF
  |own=>exact ha.elim
  |agg=>exact ha.elim
  |BM=>exact ha.elim
  |_=>simp[fresh]at e
 |nil k F hF=>intro _ _;exact .nil k F hF
 |own bx k rows b c arr E Fs F hb hk D6 Lk hv hr hd Bi KW hF ih=>
  intro e hn;simp only[Et,uX,ABf,AAm]at e;refine .own bx k rows b c arr E Fs F hb hk D6 (hn b ((hF b).2 (.inl rfl))) hv (λi j l d f m=>ih i j l d f m ?_ ?_) hd Bi KW hF
  all_goals grind
 |agg cs Fs F hr hd Bi hF ih=>intro e hn;simp only[Hi,Um,ABf,AAm]at e;exact .agg cs Fs F (λi d f=>ih i d f (e d (AAu f)) (λx g=>hn x ((hF x).2 ⟨i,g⟩))) hd Bi hF
 |BM cs Fs F hr hd Bi hF ih=>intro e hn;simp only[JY,Un,ABf,AAm]at e;exact .BM cs Fs F (λi d f=>ih i d f (e d (AAu f)) (λx g=>hn x ((hF x).2 ⟨i,g⟩))) hd Bi hF
theorem Xn {a:AV} (h:aX a=true):fresh a=true:=by
 cases a with
 |sc=>simp
 |agg cs=>
  simp only[aX,AAm]at h;simp only[Um,AAm];intro c b
  have:=h c b;cases c<;>simp_all
 |BM cs=>
  simp only[aX,AAm]at h;simp only[Un,AAm];intro c b
  have:=h c b;cases c<;>simp_all
 |_=>simp[aX]at h
theorem TK {d:DV} {F:Nat->Prop} (h:Ok w S d F):fresh d.er=true->Dd δ d:=by
 induction h with
 |lf a v F ha hF=>intro b;simp only[Ei]at b;refine .lf a v ?_;cases a<;>simp_all [fresh,ND]
 |nil=>intro _;exact .own _ _ _ _
 |own=>intro _;exact .own _ _ _ _
 |agg cs Fs F hr hd Bi hF ih=>intro b;simp only[Hi,Um,ABf,AAm]at b;exact .agg cs λi d c=>ih i d c (b d (AAu c))
 |BM cs Fs F hr hd Bi hF ih=>intro b;simp only[JY,Un,ABf,AAm]at b;exact .BM cs λi d c=>ih i d c (b d (AAu c))
theorem Xf {d:DV} {F:Nat->Prop} (h:Ok w S d F) (b:clean d.er=true):Dd δ d:=by
 have leaf:∀{e:DV},aF e->Ki e.er=true->Dd δ e:=by
  intro e c b;cases c with
  |lf a v c=>refine .lf _ _ ?_;simp only[Ei]at b;cases a<;>simp_all [Ki,ND]
  |own=>exact .own _ _ _ _
  |agg=>simp[Ki]at b
  |BM=>simp[Ki]at b
 have l:∀{f:List DV},(∀(i:Nat) d,f[i]? =some d->aF d)->(f.map DV.er).all Ki=true->Dd δ (.agg f):=by intro f g b;refine .agg _ λi e hi=>leaf (g i e hi) ?_;rw[AAm]at b;exact b _ (ABm (AAu hi))
 have c:=h.LD;cases c with
 |lf a v c=>refine leaf (.lf a v c) ?_;simp only[Ei]at b ⊢;cases a<;>simp_all [clean,Ki,C9]
 |own=>exact .own _ _ _ _
 |agg f g=>simp only[Hi,clean]at b;grind
 |BM f g=>
  simp only[JY,clean]at b;refine .BM _ λi e hi=> ?_;rw[AAm]at b;have j:=b _ (ABm (AAu hi));have k:=g i e hi;cases k with
  |lf a v c=>refine leaf (.lf a v c) ?_;simp only[Ei]at j ⊢;cases a<;>simp_all [Ki,C9]
  |own=>exact .own _ _ _ _
  |agg f g=>simp only[Hi]at j;grind
  |BM=>simp[Ki]at j
theorem UK {a:Act} {o:Oper} {c:Call} {f:Nat} {b:Func} (k:o.op= .call c) (i:c.callee= .value (.func f)) (j:P.funcs[f]? =some b) (m:b.body.isSome=true) (hn:(b.name != "runtime.NumGoroutine")=true):
 (execOp a.eval o).run P w= .ok (.enter f (c.args.toList.map a.eval).toArray) w:=by
 have d:b.body.isNone=false:=by cases h:b.body<;>simp_all
 have e:(b.name== "runtime.NumGoroutine")=false:=by simpa using hn
 have g:c.args.map a.eval=(c.args.toList.map a.eval).toArray:=by apply ABx;simp
 simp only[execOp,k,resolve,i,Act.eval,Deferred.ofValue,Sem.run_bind,Sem.run_pure,Result.andThen_ok,invoke,callFunc,g];have l:(program).run P w= .ok P w:=rfl;rw[l];simp only[Result.andThen_ok,j,e,d,AAr,AAx,Sem.run_pure];simp
def KF (P:Program):Op->Nat->List Ar->Nat->Bool
 | .call c,f,args,m=>(match c.callee with
  | .value (.func g)=>f==g&&(match P.funcs[f]? with|some fn=>fn.body.isSome&&fn.name != "runtime.NumGoroutine" |none=>false)&&decide (m<5)&&G3 c.args.toList args
  |_=>false)
 |_,_,_,_=>false
theorem iV {d:DV} {F:Nat->Prop} (h:Ok w S d F):∃D,D.er=yT d.er/\D.A0=d.A0/\Ok w (λx=>S x∨F x) D (λ_=>False):=by
 have leaf:∀{e:DV} {p:Nat->Prop},Ok w S e p->(∀x,p x->F x)->∃D:DV,D.er=fzl e.er/\D.A0=e.A0/\Ok w (λx=>S x∨F x) D (λ_=>False):=by
  intro e p y s;obtain⟨D,f,n,o,_⟩:=Rw (δ:=λ_=>default) y;have g:Ok w (λx=>S x∨F x) D (λ_=>False):=o.mono (λ_ _=>rfl) (λ_ _=>rfl) (λx l=>l.imp id (s x)) (λ_ h=>h.elim);cases hee:e.er with
  |sl ee k rows=>
   rw[hee]at f;simp only[frz_sl]at f;refine⟨.lf (.sl false k rows) D.A0,by simp[fzl],by simp_all,.lf _ _ _ ?_ (λ_ h=>h)⟩;cases g with
   |lf a v _ ha _=>
    simp only[Ei]at f;subst f;simp only[Kh];have z:Fz w (λx=>S x∨F x) (.sl ee k rows) v:=ha;cases z with
    |nil x k a c l=>exact Fz.nil _ _ _ _ (by simp)
    |sl x k rows b off c vs l Qy hS hk r hr=>exact Fz.sl _ _ _ b off c vs (by simp) Qy hS hk r hr
   |nil=>simp at f
   |own=>simp at f
   |agg=>simp at f
   |BM=>simp at f
  |_=>rw[hee]at f;exact⟨D,by rw[f];simp only[fzl],n,g⟩
 cases RR:d.er with
 |agg cs=>
  obtain⟨ds,rfl⟩:∃ds,d= .agg ds:=by
   have:=h.LD;cases d with
   |agg ds=>simp_all
   |lf c v=>cases this with|lf _ _ j=>simp at RR;subst RR;simp[C9]at j
   |own=>simp at RR
   |BM=>simp at RR
  simp only[Hi,AV.agg.injEq]at RR;subst RR;cases h with
  |agg _ Fs _ f n o h4=>
   obtain⟨t,j,q⟩:=LX ds (λi d D=>D.er=fzl d.er/\D.A0=d.A0/\Ok w (λx=>S x∨F x) D (λ_=>False)) (λi d hd=>leaf (f i d hd) (λx l=>(h4 x).2 ⟨i,l⟩));refine⟨.agg t,?_,?_,B2.2 (CC λD u=> ?_)⟩
   . simp only[Hi,yT,AV.agg.injEq,List.map_map];exact map_mk j q _ _ (by simp) λi c D m r=>by simp_all
   . simp only[KE];congr 2;exact map_mk j q _ _ (by simp) λi c D m r=>by simp_all
   . obtain⟨i,hi⟩:=AA7 u;obtain⟨c,_,m⟩:=mem_mk j q i D hi;grind
 |_=>obtain⟨D,f,n,o⟩:=leaf h (λ_ h=>h);refine⟨D,?_,n,o⟩;rw[f];simp only[RR,yT]
theorem fJ {a:Act} (n:List Ar):∀{g:List Operand} {δ:Nat->DV} {Fr:Nat->Nat->Prop} {d:List AV} {τ:Sg},St G w S δ Fr->Rd δ a->G3 g n=true->NW G n (λs=>(δ s).er)=some (d,τ)->
 ∃(i:Nat->DV) (o:Nat->Nat->Prop) (k:List DV) (Fd:Nat->Prop),St G w S i o/\(λs=>(i s).er)=τ/\(∀s,(i s).A0=(δ s).A0)/\k.map DV.er=d/\k.map DV.A0=g.map a.eval/\(∀D∈k,Ok w (λx=>S x∨Fd x) D (λ_=>False))/\
  (∀s x,o s x->¬Fd x)/\(∀x,BE o x∨Fd x->BE Fr x):=by
 induction n with
 |nil=>
  intro g δ Fr d τ h p j c;cases g with
  |cons=>simp[G3]at j
  |nil=>simp only[NW,AAh,AAv]at c;obtain⟨rfl,rfl⟩:=c;exact⟨δ,Fr,[],λ_=>False,h,rfl,λ_=>rfl,rfl,rfl,by simp,λ_ _ _ h=>h,λx b=>b.elim id False.elim⟩
 |cons y n ih=>
  intro g δ Fr d τ h p j c;cases g with
  |nil=>simp[G3]at j
  |cons x g=>
   simp only[G3,AAi]at j;obtain⟨H,R⟩:=Am j.1 p;simp only[NW]at c;split at c
   . rename_i v O q;split at c
     . rename_i l P r;simp only[AAh,AAv]at c;obtain⟨rfl,rfl⟩:=c;obtain⟨N,Q,D,Ff,f,F,E,T⟩:=h.tk H q;subst F;subst E;obtain⟨B,U,V,I⟩:=iV f.ok;obtain⟨z,C,k,Fd,J,K,L,W,X,M,Z,u⟩:=ih f.st (λs=>(p s).trans (f.A0 s).symm) j.2 r;refine⟨z,C,B::k,λx=>Ff x∨Fd x,J,K,λs=>(L s).trans (f.A0 s),by grind,by simp_all,?_,?_,?_⟩
       . intro e m;simp only[ABH]at m;rcases m with rfl|m
         . exact I.mono (λ_ _=>rfl) (λ_ _=>rfl) (λx b=>b.imp id .inl) (λ_ h=>h.elim)
         . exact(M e m).mono (λ_ _=>rfl) (λ_ _=>rfl) (λx b=>b.imp id .inr) (λ_ h=>h.elim)
       . rintro s x b (h1|h1)
         . obtain⟨t,c⟩:=u x (.inl ⟨s,b⟩);exact f.MT t x c h1
         grind
       . rintro x (b|b|b)
         . exact f.own x (.inl (u x (.inl b)))
         . exact f.own x (.inr b)
         . exact f.own x (.inl (u x (.inr b)))
     . cases c
   . cases c
theorem Li {op:Op} {f m:Nat} {args:List Ar} (h:KF P op f args m=true):∃c a,op= .call c/\c.callee= .value (.func f)/\P.funcs[f]? =some a/\a.body.isSome=true/\(a.name != "runtime.NumGoroutine")=true/\m<5/\G3 c.args.toList args=true:=by
 cases op with
 |call c=>simp only[KF]at h;grind
 |_=>simp[KF]at h
theorem Lu {n:Nat} {H:World} {u y S1 S2:Nat->Prop} {a:Act} {o:Oper} {dst:AB8 Dn} {e:Nat->DV} {g:Nat->Nat->Prop} {D:DV} {FD:Nat->Prop} {v:AV} {K:Sg->Prop} (i:St G w S1 e g) (hn:a.tmps.size=n) (M:a.defers=[]) (R:Rd e a) (hd:JL G a o dst) (Z:D.er=v)
 (q:∀b,b<w.heap.size->w'.heap[b]? =w.heap[b]?) (L:∀b,S1 b->b<w.heap.size) (t:∀b,S1 b->S2 b) (l:∀b,S2 b->S1 b∨w.heap.size≤b) (c:∀b,S2 b->b<w'.heap.size) (hD:Ok w' S2 D FD) (k:∀x,FD x->w.heap.size≤x) (G4:Dd e D)
 (X:Nx H u y w S1 (BE g)) (C:w'.os=w.os) (F:w'.tape=w.tape) (E:w'.output=w.output) (Pn:w.heap.size≤w'.heap.size)
 (p:C3 dst v K (λs=>(e s).er)):∃σ',Rel G n H u y (a.put o.dst D.A0) w' σ'/\K σ':=by
 have S:∀s x,g s x->w'.heap[x]? =w.heap[x]? :=λs x f=>q x ((i.ok s).lt x f);have Q:∀s x,g s x->¬S2 x:=by
  intro s x f j;have T:=(i.ok s).lt x f;rcases l x j with m|m
  . exact(i.ok s).E7 x f m
  . omega
 have V:∀s x,g s x->¬FD x:=by
  intro s x f j;have T:=(i.ok s).lt x f
  have:=k x j;omega
 have O:∀r:Nat->Nat->Prop,(∀x,BE r x->BE g x∨FD x)->Nx H u y w' S2 (BE r):=by intro r Xv;refine X.trans ⟨C,F,E,Pn,λb h _=>q b h,t,λb h=>(l b h).imp id .inr,λ_=>c,λx f=>(Xv x f).imp id (k x)⟩
 cases dst with
 |none=>
  have z:o.dst=none:=hd;refine⟨_,⟨S2,e,g,?_,?_,?_,rfl,i.world (λb h=>q b (L b h)) S t Q,O g (λx f=>.inl f),c⟩,p⟩
  . rw[z];exact hn
  . rw[z];exact M
  . rw[z];exact R
 |some d=>
  simp only[C3]at p;split at p
  . rename_i J P;obtain⟨B,j,m,h4⟩:=hd;rw[← Z]at P;obtain⟨I,N,Kn,JU,W,U⟩:=i.wr j m (λb h=>q b (L b h)) S t Q hD V G4 P;refine⟨J,⟨S2,I,N,?_,?_,?_,JU,Kn,O N U,c⟩,p⟩
    . rw[B];simpa[Act.put]using hn
    . rw[B];simpa[Act.put]using M
    . intro s;rw[B,I1 a d.d D.A0 h4 s,W s];split
      . rfl
      . exact R s
  simp_all
theorem borrow {n:Nat} {C:World} {q t:Nat->Prop} {a:Act} {o:Oper} {dst:AB8 Dn} {D:List Operand} {args:List Ar} {g:List AV} {c v:AV} {f:Nat} {K:Sg->Prop} {Q:Exit->Act->World->Prop} (O:GI w S) (j:St G w S δ Fr) (I:Nx C q t w S (BE Fr)) (l:∀b,S b->b<w.heap.size) (hn:a.tmps.size=n) (H:a.defers=[]) (y:Rd δ a) (hd:JL G a o dst)
 (M:G3 D args=true) (hr:KM (λs=>(δ s).er) args=some g) (N:Says P f g c) (lR:fresh c=true) (hv:c=v)
 (L:C3 dst v K (λs=>(δ s).er)):
 Calls P f (D.map a.eval).toArray w λ
  | .returned v,w''=>(λX w'=>∃σ',Rel G n C q t X w' σ'/\K σ') (a.put o.dst v) w''
  | .panicked chain,w''=>Q (.panic chain) a w''
  | .outgrown,_=>LetsOut Q:=by
 obtain⟨F,J,V,Z⟩:=Ty j y args M hr;have p:=N w (λx=>S x∨BE Fr x) F (λ_=>False) (O.mono λ_ h=>.inl h) J (A8.2 (CC Z)) (by
  rintro b (i|⟨s,z⟩)
  . simp_all
  . exact(j.ok s).lt b z)
 rw[V]at p;refine p.mono ?_;rintro e w' ⟨r,os,S',F',rfl,U,hoe,yV,E,d,MU,q7,K8,W⟩;obtain⟨m,Fb,u,_,_,T⟩:=A8.1 E;have k:∀x,m x->w.heap.size≤x:=λx B=>(W x ((T x).2 (.inl B))).resolve_left id;have R:Ok w' S r m:=TL u (by simp_all) (λx B z=>by grind);simp only;exact Lu (S2:=S) j hn H y hd (U.trans hv) (λb i=>d.block b i id) l (λ_ h=>h) (λ_ h=>.inl h) (λb i=>ABk (l b i) d.size) R k (TK u (by simp_all)) I d.os d.tape d.output d.size L
theorem lI {a:Act} (o:List Ar):∀{f:List Operand} {δ:Nat->DV} {Fr:Nat->Nat->Prop} {d:List AV} {τ:Sg},St G w S δ Fr->Rd δ a->G3 f o=true->Ri G o (λs=>(δ s).er)=some (d,τ)->
 ∃(g:Nat->DV) (p:Nat->Nat->Prop) (j:List DV) (Fd:Nat->Prop),St G w S g p/\(λs=>(g s).er)=τ/\(∀s,(g s).A0=(δ s).A0)/\j.map DV.er=d/\j.map DV.A0=f.map a.eval/\Jm w S j Fd/\
  (∀s x,p s x->¬Fd x)/\(∀x,BE p x∨Fd x->BE Fr x):=by
 induction o with
 |nil=>
  intro f δ Fr d τ h q i b;cases f with
  |cons=>simp[G3]at i
  |nil=>simp only[Ri,AAh,AAv]at b;obtain⟨rfl,rfl⟩:=b;exact⟨δ,Fr,[],λ_=>False,h,rfl,λ_=>rfl,rfl,rfl,λ_ h=>h,λ_ _ _ h=>h,λx e=>e.elim id False.elim⟩
 |cons y o ih=>
  intro f δ Fr d τ h q i b;cases f with
  |nil=>simp[G3]at i
  |cons x f=>
   simp only[G3,AAi]at i;obtain⟨H,R⟩:=Am i.1 q;simp only[Ri]at b;split at b
   . rename_i v O r;split at b
     . rename_i l P u;simp only[AAh,AAv]at b;obtain⟨rfl,rfl⟩:=b;obtain⟨N,Q,D,Ff,c,E,C,T⟩:=h.tk H r;subst E;subst C;obtain⟨z,B,j,Fd,I,J,K,L,U,M,V,n⟩:=ih c.st (λs=>(q s).trans (c.A0 s).symm) i.2 u;have k:∀x,Ff x->¬Fd x:=λx m F=>(by obtain⟨t,b⟩:=n x (.inr F);exact c.MT t x b m);refine⟨z,B,D::j,λx=>Ff x∨Fd x,I,J,λs=>(K s).trans (c.A0 s),by simp[L],by simp_all,⟨Ff,Fd,c.ok,M,k,λx=>AB7⟩,?_,?_⟩
       . rintro s x e (m|m)
         . obtain⟨t,b⟩:=n x (.inl ⟨s,e⟩);exact c.MT t x b m
         grind
       . rintro x (e|e|e)
         . exact c.own x (.inl (n x (.inl e)))
         . exact c.own x (.inr e)
         . exact c.own x (.inl (n x (.inr e)))
     . cases b
   . cases b
theorem nA (h:St G w S δ Fr) (rs:List (Nat×List Step)):∀{vs:List Value} {e:List (List AV)},vs.length=rs.length->(∀(i:Nat) r p u,rs[i]? =some (r,p)->vs[i]? =some u->∃bx k rows,Au (δ r) p=some (.own u bx k rows))->Xc (λs=>(δ s).er) rs=some e->
 vs.length=e.length/\∀(i:Nat) g u,e[i]? =some g->vs[i]? =some u->zK w (λx=>S x∨BE Fr x) g u:=by
 induction rs with
 |nil=>
  intro vs e f _ b;cases vs with
  |nil=>simp only[Xc,AAh]at b;simp_all
  |cons=>simp at f
 |cons x rs ih=>
  obtain⟨r,p⟩:=x;intro vs e f n b;cases vs with
  |nil=>simp at f
  |cons v vs=>
   simp only[Xc]at b;split at b
   . rename_i g m q t;simp only[AAh]at b;subst b;obtain⟨bx,k,rows,y⟩:=n 0 r p v rfl rfl;obtain⟨D,c,l,z⟩:=Jt h (d:=.lf (.al r p) v) (F:=λ_=>False) (.lf _ _ _ trivial (λ_ h=>h)) (λ_ h=>h.elim) (.lf _ _ ⟨bx,k,rows,y⟩) (by simpa using q);obtain⟨B,C⟩:=ih (by simpa using f) (λi r p u hi j=>n (i+1) r p u (by simp_all) (by simp_all)) t;refine⟨by simp[B],λi o u hi j=> ?_⟩;cases i with
     |zero=>
      simp only[ABO,AAh]at hi j;subst hi;subst j;simp only[Kh]at l;cases z with
      |lf a v' _ ha _=>simp only[Ei]at c;subst c;simp only[Kh]at l;subst l;exact ha
      |nil=>simp at c
      |own=>simp at c
      |agg=>simp at c
      |BM=>simp at c
     |succ i=>grind
   . cases b
theorem ZK {a:Act} (m:List Ar):∀{i:List Operand} {δ:Nat->DV} {Fr:Nat->Nat->Prop} {g:List AV} {τ:Sg},St G w S δ Fr->Rd δ a->G3 i m=true->Wi G m (λs=>(δ s).er)=some (g,τ)->
 ∃(j:Nat->DV) (r:Nat->Nat->Prop) (n:List DV) (Fd:Nat->Prop),St G w S j r/\(λs=>(j s).er)=τ/\(∀s,(j s).A0=(δ s).A0)/\n.map DV.er=g/\n.map DV.A0=i.map a.eval/\Jm w (λx=>S x∨BE r x) n Fd/\
  (∀s x,r s x->¬Fd x)/\(∀x,BE r x∨Fd x->BE Fr x):=by
 induction m with
 |nil=>intro i δ Fr g τ h C k b;simp[Wi]at b
 |cons y m ih=>
  intro i δ Fr g τ h C k b;cases i with
  |nil=>simp[G3]at k
  |cons x i=>
   simp only[G3,AAi]at k;obtain⟨M,Q⟩:=Am k.1 C;cases m with
   |nil=>
    cases i with
    |cons=>simp[G3]at k
    |nil=>
     simp only[Wi]at b;split at b
     . rename_i f rs z;split at b
       . rename_i R o;simp only[AAh,AAv]at b;obtain⟨rfl,rfl⟩:=b;obtain⟨vs,N,H,I⟩:ND δ (.cl f rs) (C7 δ y):=by
          cases y with
          |t s=>exact(h.leaf z rfl).2.2
          |c c0=>obtain⟨D0,oI⟩:=M;simp only[ar]at z;subst z;simp[JE]at oI
         obtain⟨W,X⟩:=nA h rs H I o;refine⟨δ,Fr,[.lf (.nY f R) (C7 δ y)],λ_=>False,h,rfl,λ_=>rfl,by simp,by simp[Q],CC (λD L=> ?_),λ_ _ _ h=>h,λx d=>d.elim id False.elim⟩;simp only[ABG]at L;subst L;exact .lf _ _ _ ⟨vs,N,W,X⟩ (λ_ h=>h)
       . cases b
     . cases b
   |cons y2 m=>
    simp only[Wi]at b;split at b
    . rename_i v τ1 E;split at b
      . rename_i l τ2 F;simp only[AAh,AAv]at b;obtain⟨rfl,rfl⟩:=b;obtain⟨δ1,F1,D,Ff,e,P,O,Ud⟩:=h.tk M E;subst P;subst O;obtain⟨J,K,n,Fd,Z,m2,m3,m4,m5,m6,m7,q⟩:=ih e.st (λs=>(C s).trans (e.A0 s).symm) k.2 F;have p:∀x,Ff x->¬Fd x:=λx u T=>(by obtain⟨t,b⟩:=q x (.inr T);exact e.MT t x b u);have B:Ok w (λx=>S x∨BE K x) D Ff:=e.ok.mono (λ_ _=>rfl) (λ_ _=>rfl) (λ_ h=>.inl h) (λx d V=>V.elim (e.ok.E7 x d) (λU=>by obtain⟨t,b⟩:=q x (.inl U);exact e.MT t x b d));refine⟨J,K,D::n,λx=>Ff x∨Fd x,Z,m2,λs=>(m3 s).trans (e.A0 s),by simp[m4],by simp_all,⟨Ff,Fd,B,m6,p,λx=>AB7⟩,?_,?_⟩
        . rintro s x d (u|u)
          . obtain⟨t,b⟩:=q x (.inl ⟨s,d⟩);exact e.MT t x b u
          grind
        . rintro x (d|d|d)
          . exact e.own x (.inl (q x (.inl d)))
          . exact e.own x (.inr d)
          . exact e.own x (.inl (q x (.inr d)))
      . cases b
    . cases b
theorem mZ {n:Nat} {w0:World} {S0 U0:Nat->Prop} (hG:ZX w0 S0 U0) {a:Act} {σ:Sg} (h:Rel G n w0 S0 U0 a w σ) {o:Oper} {io:BN} {f m:Nat} {args:List Ar} (hio:io.op= .call f args m) (Pg:KF P o.op f args m=true) (hd:JL G a o io.dst) {K:Sg->Prop} (Ce:EK P G io K σ)
 (Q:Exit->Act->World->Prop):o.wp P a w (λa' w'=>∃σ',Rel G n w0 S0 U0 a' w' σ'/\K σ') Q:=by
 obtain⟨S,δ,Fr,hn,W,U,rfl,L,Eu,J⟩:=h;have Nl:=hG.now Eu;obtain⟨c,fn,ho,Mb,I,hfb,hfn,hm3,HP⟩:=Li Pg;unfold EK at Ce;rw[hio]at Ce;simp only at Ce;split at Ce
 . rename_i aZ9 τ q;obtain⟨res,Jq,y⟩:=Ce;split at y
   . rename_i v k;unfold Oper.wp;rw[UK ho Mb I hfb hfn,Oper.upon_enter]
     match m,hm3,q,k with
     |1,_,q,k=>
      simp only[Gm]at q;obtain⟨z,u,Ds,Fd,F,X0,KH,Fk,Ud,dT,M,C⟩:=fJ _ L U HP q;subst X0;have B:∀x,Fd x->x<w.heap.size:=λx g=>(by obtain⟨t,ht⟩:=C x (.inr g);exact(L.ok t).lt x ht);have N:=Jq w (λx=>S x∨Fd x) Ds (λ_=>False) (Nl.mono λ_ h=>.inl h) Fk (A8.2 (CC dT)) (λb j=>j.elim (J b) (B b));rw[Ud]at N;refine N.mono ?_;rintro e w' ⟨r,os,S',F',rfl,O,hoe,yV,Cj,p,MU,q7,K8,Xu⟩;obtain⟨H,Fb,R,_,_,Qw⟩:=A8.1 Cj;obtain⟨D,k1,k2,k3,k4⟩:=Rw (δ:=z) R;simp only[Sh,AAh]at k;have hfa:∀x,H x->w.heap.size≤x:=λx g=>(Xu x ((Qw x).2 (.inl g))).resolve_left id;have hst1':St G w (λx=>S x∨Fd x) z u:=F.world (λ_ _=>rfl) (λ_ _ _=>rfl) (λ_ h=>.inl h) (λs x g V=>V.elim ((F.ok s).E7 x g) (M s x g));have vU:Nx w0 S0 U0 w (λx=>S x∨Fd x) (BE u):=Eu.trans (Nx.JZ (λx g=>C x g) B);simp only;rw[← k2];refine Lu (S2:=λx=>S' x∨H x) hst1' hn W (λs=>(U s).trans (KH s).symm) hd (by rw[k1,O];exact k) (λb j=>p.block b j id) (λb j=>j.elim (J b) (B b)) (λb j=>.inl (MU b j)) ?_ ?_ k3 (λ_ h=>h.elim) k4 vU p.os p.tape p.output p.size y
      . rintro b (j|j)
        . rcases q7 b j with i|i|i
          . exact .inl i
          . exact i.elim
          . exact .inr i
        . exact .inr (hfa b j)
      . rintro b (j|j)
        . exact K8 b j
        . exact R.lt b j
     |0,_,q,k=>
      simp only[Gm]at q;split at q
      . rename_i l hr;simp only[AAh,AAv]at q;obtain⟨rfl,rfl⟩:=q;simp only[Sh]at k;split at k
        . rename_i FU;exact borrow Nl L Eu J hn W U hd HP hr Jq (Xn FU) (AAl k) y
        . cases k
      . cases q
     |3,_,q,k=>
      simp only[Gm]at q;obtain⟨z,u,Ds,Fd,F,X0,KH,Fk,Ud,dT,M,C⟩:=lI _ L U HP q;subst X0;simp only[Sh]at k;split at k
      . rename_i lR;obtain rfl:=AAl k;have N:=Jq w S Ds Fd Nl Fk (A8.2 dT) J;rw[Ud]at N;refine N.mono ?_;rintro e w' ⟨r,os,S',F',rfl,O,hoe,yV,Cj,p,MU,q7,K8,Xu⟩;obtain⟨H,Fb,R,_,_,Qw⟩:=A8.1 Cj;have vK:∀x,H x->Fd x∨w.heap.size≤x:=λx g=>Xu x ((Qw x).2 (.inl g));have X:∀s x,u s x->x<w.heap.size:=λs x g=>(F.ok s).lt x g;have rJ:∀b,S b->w'.heap[b]? =w.heap[b]? :=λb j=>p.block b (J b j) λI=>(by obtain⟨t,ht⟩:=C b (.inr I);exact(L.ok t).E7 b ht j);have oT:∀s x,u s x->w'.heap[x]? =w.heap[x]? :=λs x g=>p.block x (X s x g) (M s x g);have PB:∀s x,u s x->¬S' x:=by
         intro s x g h';rcases q7 x h' with i|i|i
         . exact(F.ok s).E7 x g i
         . exact M s x g i
         . have:=X s x g;omega
        have rB:∀s x,u s x->¬H x:=by
         intro s x g h';rcases vK x h' with i|i
         . exact M s x g i
         . have:=X s x g;omega
        have HK:∀E:Nat->Nat->Prop,(∀x,BE E x->BE u x∨H x)->Nx w0 S0 U0 w' S' (BE E):=by
         intro E Xv;refine Eu.trans ⟨p.os,p.tape,p.output,p.size,λb j LA=>p.block b j λI=>LA (C b (.inr I)),MU,λb j=>(q7 b j).imp id (Or.imp (λh=>C b (.inr h)) id),λ_=>K8,λx g=> ?_⟩;rcases Xv x g with i|i
         . exact .inl (C x (.inl i))
         . exact(vK x i).imp (λh=>C x (.inr h)) id
        have RP:Rd z a:=λs=>(U s).trans (KH s).symm;simp only;cases K9:io.dst with
        |none=>
         rw[K9]at hd y;have Z:o.dst=none:=hd;refine⟨_,⟨S',z,u,?_,?_,?_,rfl,F.world rJ oT MU PB,HK u (λx g=>.inl g),K8⟩,y⟩
         . rw[Z];exact hn
         . rw[Z];exact W
         . rw[Z];exact RP
        |some d=>
         rw[K9]at hd y;simp only[C3]at y;split at y
         . rename_i τ' Mo;obtain⟨i,h2,h3,h4⟩:=hd;rw[← O]at Mo;obtain⟨δ',E,Kn,JU,Dh,X5⟩:=F.wr h2 h3 rJ oT MU PB R rB (Xf R (by rw[O];exact lR)) Mo;refine⟨τ',⟨S',δ',E,?_,?_,?_,JU,Kn,HK E X5,K8⟩,y⟩
           . rw[i];simpa[Act.put]using hn
           . rw[i];simpa[Act.put]using W
           . intro s;rw[i,I1 a d.d r.A0 h4 s,Dh s];split
             . rfl
             . exact RP s
         . exact y.elim
      . cases k
     |4,_,q,k=>
      simp only[Gm]at q;obtain⟨z,u,Ds,Fd,F,X0,KH,Fk,Ud,dT,M,C⟩:=ZK _ L U HP q;subst X0;simp only[Sh]at k;split at k
      . rename_i lR;obtain rfl:=AAl k;have X:∀s x,u s x->x<w.heap.size:=λs x g=>(F.ok s).lt x g;have N:=Jq w (λx=>S x∨BE u x) Ds Fd (Nl.mono λ_ h=>.inl h) Fk (A8.2 dT) (λb j=>j.elim (J b) (λ⟨s,V⟩=>X s b V));rw[Ud]at N;refine N.mono ?_;rintro e w' ⟨r,os,S',F',rfl,O,hoe,yV,Cj,p,MU,q7,K8,Xu⟩;obtain⟨H,Fb,hra0,_,_,Qw⟩:=A8.1 Cj;have vK:∀x,H x->Fd x∨w.heap.size≤x:=λx g=>Xu x ((Qw x).2 (.inl g));have T:∀x,Fd x->¬S x:=λx I V=>(by obtain⟨t,ht⟩:=C x (.inr I);exact(L.ok t).E7 x ht V);have R:Ok w' S r H:=TL hra0 (by rw[O];exact lR) (λx g V=>(vK x g).elim (λi=>T x i V) (λi=>by have:=J x V;omega));have rJ:∀b,S b->w'.heap[b]? =w.heap[b]? :=λb j=>p.block b (J b j) λI=>T b I j;have oT:∀s x,u s x->w'.heap[x]? =w.heap[x]? :=λs x g=>p.block x (X s x g) (M s x g);have PB:∀s x,u s x->¬S x:=λs x g=>(F.ok s).E7 x g;have VP:∀b,S b->b<w'.heap.size:=λb j=>ABk (J b j) p.size;have rB:∀s x,u s x->¬H x:=by
         intro s x g h';rcases vK x h' with i|i
         . exact M s x g i
         . have:=X s x g;omega
        have HK:∀E:Nat->Nat->Prop,(∀x,BE E x->BE u x∨H x)->Nx w0 S0 U0 w' S (BE E):=by
         intro E Xv;refine Eu.trans ⟨p.os,p.tape,p.output,p.size,λb j LA=>p.block b j λI=>LA (C b (.inr I)),λ_ h=>h,λ_ h=>.inl h,λ_=>VP,λx g=> ?_⟩;rcases Xv x g with i|i
         . exact .inl (C x (.inl i))
         . exact(vK x i).imp (λh=>C x (.inr h)) id
        have RP:Rd z a:=λs=>(U s).trans (KH s).symm;simp only;cases K9:io.dst with
        |none=>
         rw[K9]at hd y;have Z:o.dst=none:=hd;refine⟨_,⟨S,z,u,?_,?_,?_,rfl,F.world rJ oT (λ_ h=>h) PB,HK u (λx g=>.inl g),VP⟩,y⟩
         . rw[Z];exact hn
         . rw[Z];exact W
         . rw[Z];exact RP
        |some d=>
         rw[K9]at hd y;simp only[C3]at y;split at y
         . rename_i τ' Mo;obtain⟨i,h2,h3,h4⟩:=hd;rw[← O]at Mo;obtain⟨δ',E,Kn,JU,Dh,X5⟩:=F.wr h2 h3 rJ oT (λ_ h=>h) PB R rB (TK R (by rw[O];exact lR)) Mo;refine⟨τ',⟨S,δ',E,?_,?_,?_,JU,Kn,HK E X5,VP⟩,y⟩
           . rw[i];simpa[Act.put]using hn
           . rw[i];simpa[Act.put]using W
           . intro s;rw[i,I1 a d.d r.A0 h4 s,Dh s];split
             . rfl
             . exact RP s
         . exact y.elim
      . cases k
     |2,_,q,k=>
      simp only[Gm]at q;split at q
      . rename_i l hr;simp only[AAh,AAv]at q;obtain⟨rfl,rfl⟩:=q;simp only[Sh]at k;split at k
        . rename_i FU;exact borrow Nl L Eu J hn W U hd HP hr Jq FU (AAl k) y
        . cases k
      . cases q
   . exact y.elim
 . exact Ce.elim
theorem gX {n:Nat} {W:World} {T U:Nat->Prop} (hG:ZX W T U) {a:Act} {σ:Sg} (h:Rel G n W T U a w σ) {o:Oper} {io:BN} {f:Nat} {args:List Ar} (hio:io.op= .call f args 4) (Pg:KF P o.op f args 4=true) (hd:JL G a o io.dst) {K:Sg->Prop} (B:EK P G io K σ) {rr kb:Nat} (J:∀I τ,Gm G 4 args σ=some (I,τ)->∃rows,τ rr= .own true kb rows)
 (Q:Exit->Act->World->Prop):o.wp P a w (λa' w'=>(∃σ',Rel G n W T U a' w' σ'/\K σ')/\(∀b,a.tmps.getD rr undef= .pointer (some ⟨b,0,none⟩)->w'.heap[b]? =w.heap[b]?)/\∃u,a'=a.put o.dst u) Q:=by
 obtain⟨S,δ,Fr,hn,EO,ha,rfl,CJ,Eu,N⟩:=h;have Nl:=hG.now Eu;obtain⟨c,fn,ho,Mb,z,hfb,hfn,hm3,HP⟩:=Li Pg;unfold EK at B;rw[hio]at B;simp only at B;split at B
 . rename_i I τ X;obtain⟨res,Jq,p⟩:=B;split at p
   . rename_i v V;unfold Oper.wp;rw[UK ho Mb z hfb hfn,Oper.upon_enter];have L:=X;simp only[Gm]at X;obtain⟨k,m,Ds,Fd,H,X0,KH,Fk,Ud,dT,DA,O⟩:=ZK _ CJ ha HP X;subst X0;simp only[Sh]at V;split at V
     . rename_i lR;obtain rfl:=AAl V;have X3:∀s x,m s x->x<w.heap.size:=λs x i=>(H.ok s).lt x i;have Gs:=Jq w (λx=>S x∨BE m x) Ds Fd (Nl.mono λ_ h=>.inl h) Fk (A8.2 dT) (λb l=>l.elim (N b) (λ⟨s,D⟩=>X3 s b D));rw[Ud]at Gs;refine Gs.mono ?_;rintro e w' ⟨r,os,S',F',rfl,SA,hoe,yV,Cj,q,MU,q7,K8,Xu⟩;obtain⟨R,Fb,M,_,_,Qw⟩:=A8.1 Cj;have vK:∀x,R x->Fd x∨w.heap.size≤x:=λx i=>Xu x ((Qw x).2 (.inl i));have y:∀x,Fd x->¬S x:=λx z D=>(by obtain⟨t,ht⟩:=O x (.inr z);exact(CJ.ok t).E7 x ht D);have eC:Ok w' S r R:=TL M (by rw[SA];exact lR) (λx i D=>(vK x i).elim (λg=>y x g D) (λg=>by have:=N x D;omega));have rJ:∀b,S b->w'.heap[b]? =w.heap[b]? :=λb l=>q.block b (N b l) λz=>y b z l;have oT:∀s x,m s x->w'.heap[x]? =w.heap[x]? :=λs x i=>q.block x (X3 s x i) (DA s x i);have PB:∀s x,m s x->¬S x:=λs x i=>(H.ok s).E7 x i;have VP:∀b,S b->b<w'.heap.size:=λb l=>ABk (N b l) q.size;have rB:∀s x,m s x->¬R x:=by
        intro s x i h';rcases vK x h' with g|g
        . exact DA s x i g
        . have:=X3 s x i;omega
       have HK:∀C:Nat->Nat->Prop,(∀x,BE C x->BE m x∨R x)->Nx W T U w' S (BE C):=by
        intro C Xv;refine Eu.trans ⟨q.os,q.tape,q.output,q.size,λb l LA=>q.block b l λz=>LA (O b (.inr z)),λ_ h=>h,λ_ h=>.inl h,λ_=>VP,λx i=> ?_⟩;rcases Xv x i with g|g
        . exact .inl (O x (.inl g))
        . exact(vK x g).imp (λh=>O x (.inr h)) id
       have Z:Rd k a:=λs=>(ha s).trans (KH s).symm;have I8:∀b,a.tmps.getD rr undef= .pointer (some ⟨b,0,none⟩)->w'.heap[b]? =w.heap[b]? :=by
        intro b l;obtain⟨rows,hrr⟩:=J _ _ L;have F:=H.ok rr;have g:(k rr).A0= .pointer (some ⟨b,0,none⟩):=(by rw[← Z rr];exact l);have j:(k rr).er= .own true kb rows:=hrr;cases hδ:k rr with
        |lf x v=>rw[hδ]at j F;simp at j;subst j;cases F with|lf _ _ _ hl _=>simp[IA]at hl
        |agg=>rw[hδ]at j;simp at j
        |BM=>rw[hδ]at j;simp at j
        |own hh bx k0 Ao=>
         rw[hδ]at g j F;simp only[Et,AV.own.injEq]at j;obtain⟨rfl,rfl,_⟩:=j;simp only[Kz]at g;generalize hF1:m rr=Fx at F;generalize hvv:hh=oS at F;cases F with
         |own _ _ _ b' c arr E Fs _ lX hk D6 Lk fP hr W0 Bi KW hF=>
          rw[hvv]at g;simp only[Jp,AA5,Value.pointer.injEq,AAh,Addr.mk.injEq,and_true]at g;have e:b'=b:=by first|exact g|exact g.1
          subst e;exact oT rr b' (by rw[hF1];first|exact(hF b').2 (.inl rfl)|exact KW|simp[hF])
       simp only;cases K9:io.dst with
       |none=>
        rw[K9]at hd p;have h0:o.dst=none:=hd;refine⟨⟨_,⟨S,k,m,?_,?_,?_,rfl,H.world rJ oT (λ_ h=>h) PB,HK m (λx i=>.inl i),VP⟩,p⟩,I8,_,rfl⟩
        . rw[h0];exact hn
        . rw[h0];exact EO
        . rw[h0];exact Z
       |some d=>
        rw[K9]at hd p;simp only[C3]at p;split at p
        . rename_i τ' Mo;obtain⟨g,j,h3,h4⟩:=hd;rw[← SA]at Mo;obtain⟨δ',C,Kn,JU,Dh,X5⟩:=H.wr j h3 rJ oT (λ_ h=>h) PB eC rB (TK eC (by rw[SA];exact lR)) Mo;refine⟨⟨τ',⟨S,δ',C,?_,?_,?_,JU,Kn,HK C X5,VP⟩,p⟩,I8,_,rfl⟩
          . rw[g];simpa[Act.put]using hn
          . rw[g];simpa[Act.put]using EO
          . intro s;rw[g,I1 a d.d r.A0 h4 s,Dh s];split
            . rfl
            . exact Z s
        . exact p.elim
     . cases V
   . exact p.elim
 . exact B.elim
end Go.Abs
namespace Go.Abs
variable {w w':World} {S S':Nat->Prop} {G:Gi} {δ:Nat->DV} {Fr:Nat->Nat->Prop} {P:Program}
def Dz (G:Gi) (n:Nat) (o:AB8 Tmp) (d:AB8 Dn):Bool:=
 match o,d with
 |none,none=>true
 |some t,some d=>t==d.d&&d.kl==G.Oj d.d&&d.rs==G.HI d.d&&decide (d.d<n)
 |_,_=>false
theorem Ee {n:Nat} {a:Act} {o:Oper} {d:AB8 Dn} (h:Dz G n o.dst d=true) (hn:a.tmps.size=n):JL G a o d:=by
 unfold Dz at h;split at h
 . rename_i b;exact b
 . rename_i t d b;simp only[AAi,AAw,AA1]at h;obtain⟨⟨⟨rfl,c⟩,e⟩,f⟩:=h;exact⟨b,c,e,by omega⟩
 . cases h
theorem Uw (h:St G w S δ Fr) {x:Ar} {r:Nat} {p:List Step} {b:Bool} {k:Nat} {rows:List (List AV)} (c:xD (λs=>(δ s).er) x=some (r,p)) (n:sub (δ r).er p=some (.own b k rows)):
 ∃e,Au (δ r) p=some (.own (C7 δ x) b k e)/\(DV.own (C7 δ x) b k e).er= .own b k rows:=by
 obtain⟨D,g,f⟩:=Dr (h.ok r).LD n;have j:∃v e,D= .own v b k e:=by
  have:=(h.ok r).LD.Au g;cases D with
  |own v bx o d=>simp_all
  |lf a v=>cases this with|lf _ _ i=>simp at f;subst f;simp[C9]at i
  |agg cs=>simp at f
  |BM cs=>simp at f
 obtain⟨v,e,rfl⟩:=j;unfold xD at c;split at c
 . rename_i s;split at c
   . rename_i t p' m;simp only[AAh,AAv]at c;obtain⟨rfl,rfl⟩:=c;obtain⟨q,_,l⟩:=h.leaf m rfl;obtain⟨bx,o,d,i⟩:=l;rw[g]at i;simp only[AAh,DV.own.injEq]at i;obtain⟨rfl,rfl,rfl,rfl⟩:=i;exact⟨_,g,f⟩
   . simp only[AAh,AAv]at c;obtain⟨rfl,rfl⟩:=c;simp only[Au,AAh]at g;refine⟨e,?_,?_⟩
     . simp[Au,C7,g]
     simp_all
   . cases c
 . cases c
theorem Ui {d:DV} (h:Ib d.er=true):Dd δ d:=by
 cases d with
 |own=>exact .own _ _ _ _
 |lf a v=>refine .lf _ _ ?_;simp only[Ei]at h;cases a<;>simp_all [Ib,ND]
 |agg=>simp[Ib]at h
 |BM=>simp[Ib]at h
theorem OD {L:List Nat} {a:AV} (h:Ib a=true):F9 L a=true:=by cases a<;>simp_all [Ib]
theorem YY {d:DV} {F:Nat->Prop} (h:Ok w S d F):∃D,D.er=SU d.er/\D.A0=d.A0/\Ok w S D (λ_=>False):=by
 have dead:SU d.er= .dead->∃D,D.er=SU d.er/\D.A0=d.A0/\Ok w S D (λ_=>False):=λe=>⟨.lf .dead d.A0,by simp[e],by simp,.lf _ _ _ trivial (λ_ h=>h)⟩;cases h with
 |lf a v _ ha _=>
  cases a with
  |sc u=>exact⟨.lf (.sc u) v,by simp[SU],by simp,.lf _ _ _ ha (λ_ h=>h)⟩
  |sl e k rows=>
   refine⟨.lf (.sl false k rows) v,by simp[SU],by simp,.lf _ _ _ ?_ (λ_ h=>h)⟩;have f:Fz w S (.sl e k rows) v:=ha;show Fz w S (.sl false k rows) v;cases f with
   |nil x k a c hx=>exact .nil _ _ _ _ (by simp)
   |sl x k rows b off c vs hx Qy hS hk hc hr=>exact .sl _ _ _ b off c vs (by simp) Qy hS hk hc hr
  |_=>exact dead (by simp[SU])
 |nil=>exact dead (by simp[SU])
 |own=>exact dead (by simp[SU])
 |agg=>exact dead (by simp[SU])
 |BM=>exact dead (by simp[SU])
theorem Vd {ds:List DV} (h:∀(i:Nat) d,ds[i]? =some d->∃F,Ok w S d F):∃a:List DV,a.map DV.er=(ds.map DV.er).map SU/\a.map DV.A0=ds.map DV.A0/\∀D∈a,Ok w S D (λ_=>False):=by
 induction ds with
 |nil=>simp_all
 |cons d ds ih=>obtain⟨F,b⟩:=h 0 d rfl;obtain⟨D,g,j,k⟩:=YY b;obtain⟨a,c,g2,f⟩:=ih (λi e hi=>h (i+1) e hi);refine⟨D::a,by grind,by grind,λe l=> ?_⟩;grind
theorem Qc {d:DV} {F:Nat->Prop} {b:List AV} (h:Ok w S d F) (a:d.er= .agg b):∃ds,d= .agg ds/\ds.map DV.er=b:=by
 have:=h.LD;cases d with
 |agg ds=>simp_all
 |lf c v=>cases this with|lf _ _ hl=>simp at a;subst a;simp[C9]at hl
 |own=>simp at a
 |BM=>simp at a
theorem xH (h:St G w S δ Fr) {x:Ar} (p:XE x) {b:AV} (e:rdF (λs=>(δ s).er) x=some b):∃D,D.er=b/\D.A0=C7 δ x/\Ok w S D (λ_=>False):=by
 cases x with
 |t s=>
  simp only[rdF]at e;cases hs:(δ s).er with
  |agg cs=>
   rw[hs]at e;simp only[AAh]at e;subst e;obtain⟨ds,hd,u⟩:=Qc (h.ok s) hs;have l:=h.ok s;rw[hd]at l;cases l with
   |agg _ Fs _ h1 h2 h3 h4=>obtain⟨n,r,g2,o⟩:=Vd (λi d hi=>⟨_,h1 i d hi⟩);exact⟨.agg n,by simp_all,by simp[C7,hd,g2],B2.2 (CC o)⟩
  |_=>rw[hs]at e;simp only[AAh]at e;subst e;rw[← hs];exact YY (h.ok s)
 |c c=>
  obtain⟨g,j⟩:=p;obtain⟨f,m,q,_⟩:=Iu (w:=w) (S:=S) (δ:=δ) c g j;simp only[rdF]at e;split at e
  . rename_i v;simp only[AAh]at e;subst e;exact⟨g,f,by simp[C7,j],m⟩
  . rename_i k _;simp only[AAh]at e;subst e;refine⟨.lf (.sl false k []) g.A0,by simp,by simp[C7,j],.lf _ _ _ ?_ (λ_ h=>h)⟩
    have:=m;cases g with
    |own v bx k' rows=>
     simp only[Et,AV.own.injEq,List.map_eq_nil_iff]at f;obtain⟨rfl,rfl,rfl⟩:=f;cases this with
     |nil=>rw[Kz];exact Fz.nil false k' none 0 (by simp)
     |own _ _ _ b c arr E Fs _ hb hk D6 Lk hv eA MV Bi KW oJ=>simp_all
    |lf a v=>simp only[Ei]at f;subst f;cases this with|lf _ _ _ ha _=>exact ha.elim
    |agg=>simp at f
    |BM=>simp at f
  . cases e
theorem SV (h:St G w S δ Fr) {a:Act} (m:Rd δ a) (i:List Ar):∀{e:List Operand} {c:List AV},G3 e i=true->NO (λs=>(δ s).er) i=some c->
 ∃g:List DV,g.map DV.er=c/\g.map DV.A0=e.map a.eval/\∀D∈g,Ok w S D (λ_=>False):=by
 induction i with
 |nil=>
  intro e c f d;cases e with
  |cons=>simp[G3]at f
  |nil=>simp only[NO,AAh]at d;simp_all
 |cons y i ih=>
  intro e c f d;cases e with
  |nil=>simp[G3]at f
  |cons x e=>
   simp only[G3,AAi]at f;obtain⟨n,o⟩:=Am f.1 m;simp only[NO]at d;split at d
   . rename_i b l j k;simp only[AAh]at d;subst d;obtain⟨D,p,q,r⟩:=xH h n j;obtain⟨g,t,u,v⟩:=ih f.2 k;refine⟨D::g,by grind,by simp_all,?_⟩;simp_all
   . cases d
theorem qF {l r:List DV} {D:DV} {F:Nat->Prop} (c:∀d∈l,Ok w S d (λ_=>False)) (b:Ok w S D F) (e:∀d∈r,Ok w S d (λ_=>False)):Jm w S (l++D::r) F:=by have a:Jm w S (D::r) F:=⟨F,λ_=>False,b,CC e,λ_ _ h=>h,λx=>by simp⟩;exact(Lt (CC c) a (λ_ h=>h.elim)).congr λx=>by simp
theorem zO {l r:List DV} {D:DV} {F:Nat->Prop} (h:Jm w S (l++D::r) F):∃a,Ok w S D a/\∀x,a x->F x:=by obtain⟨b,c,f,g,d⟩:=KB.1 h;exact⟨b l.length,c _ D (by simp),λx e=>(d x).2 ⟨_,e⟩⟩
theorem pH (h:St G w S δ Fr) {x:Ar} (hx:XE x) {c:AB8 Nat} {r:Nat} {p:List Step} {b:Bool} {k:Nat} {rows:List (List AV)} (f:P1 (λs=>(δ s).er) x c=some (r,p)) (X:sub (δ r).er p=some (.own b k rows)):
 ∃v e,Au (δ r) p=some (.own v b k e)/\(DV.own v b k e).er= .own b k rows/\∀(H:Nat->Prop),Ok w S (.own v b k e) H->
  ∃D,D.er=Td (λs=>(δ s).er) x c (.own b k rows)/\D.A0=C7 δ x/\Ok w S D H/\∀(w':World) (S' B:Nat->Prop) (z:DV) (o:AV),z.A0=D.A0->S5 c z.er=some o->Ok w' S' z B->∃(o':DV) (F'':Nat->Prop),o'.er=o/\o'.A0=v/\Ok w' S' o' F''/\∀y,F'' y->B y:=by
 cases c with
 |none=>obtain⟨e,E,M⟩:=Uw h (x:=x) f X;refine⟨_,e,E,M,λH K=>⟨_,M,by simp,K,?_⟩⟩;intro w' S' B z o O g J;simp only[S5,AAh]at g;exact⟨z,B,g,by simp_all,J,λ_ h=>h⟩
 |some j=>
  cases x with
  |c=>simp[P1]at f
  |t s=>
   simp only[P1]at f;cases hse:(δ s).er with
   |agg cs=>
    rw[hse]at f;simp only at f;obtain⟨ds,hd,W⟩:=Qc (h.ok s) hse;have m:=h.ok s;rw[hd]at m;cases m with
    |agg _ Fs _ g1 g2 g3 g4=>
     cases hdj:ds[j]? with
     |none=>grind
     |some dj=>
      have Q:cs[j]? =some dj.er:=(by rw[← W];simp[hdj]);rw[Q]at f
      try simp only at f
      obtain⟨v,e,e1,T,e3⟩:∃v e,Au (δ r) p=some (.own v b k e)/\(DV.own v b k e).er= .own b k rows/\dj.A0=v:=by
       obtain⟨D,N,C⟩:=Dr (h.ok r).LD X;have D8:∃v e,D= .own v b k e:=by
        have:=(h.ok r).LD.Au N;cases D with
        |own v bx k' n=>simp_all
        |lf a v=>cases this with|lf _ _ U=>simp at C;subst C;simp[C9]at U
        |agg cs=>simp at C
        |BM cs=>simp at C
       obtain⟨v,e,rfl⟩:=D8;refine⟨v,e,N,C,?_⟩;split at f
       . rename_i r' p' l;simp only[AAh,AAh,AAv]at f l;obtain⟨rfl,rfl⟩:=f;have I:=h.al s;rw[hd]at I;cases I with
         |agg _ I=>
          have E:=I j dj hdj;have M:=g1 j dj hdj;cases dj with
          |lf a u=>
           simp only[Ei]at l;subst l;cases E with
           |lf _ _ E=>obtain⟨bx,k',n,U⟩:=E;simp_all
          |own=>simp at l
          |agg=>simp at l
          |BM=>simp at l
       . rename_i l;simp only[AAh,AAv]at f;obtain⟨rfl,rfl⟩:=f;simp only[hd,Au,hdj,AAh]at N;simp_all
       . cases f
      refine⟨v,e,e1,T,λH K=> ?_⟩;obtain⟨q,k1,Z,k3⟩:=Vd (λi d hi=>⟨_,g1 i d hi⟩);have hjl:j<ds.length:=(AAj.1 hdj).1;have V:q.length=ds.length:=(by have:=AB6 List.length Z;simpa using this);have oR:q.set j (.own v b k e)=q.take j++ .own v b k e::q.drop (j+1):=List.set_eq_take_append_cons_drop.trans (by simp_all);refine⟨.agg (q.set j (.own v b k e)),?_,?_,?_,?_⟩
      . simp only[Hi,Td,ar,hse,ABY,k1,T,W]
      . simp only[KE,C7,hd,ABY,Z,Kz];congr 2;rw[← e3];apply ABu;grind
      . rw[oR];exact B2.2 (qF (λd L=>k3 d (AB4 L)) K (λd L=>k3 d (List.mem_of_mem_drop L)))
      . intro w' S' B z o O g J;simp only[S5]at g;split at g
        . rename_i os l;obtain⟨F,rfl,R⟩:=Qc J l;rw[← R]at g;simp only[AAt]at g;cases hoj:F[j]? with
          |none=>simp_all
          |some oj=>
           simp only[hoj,AA9,AAh]at g;cases J with
           |agg _ Fs' _ m1 m2 m3 m4=>
            refine⟨oj,Fs' j,g,?_,m1 j oj hoj,λy hy=>(m4 y).2 ⟨j,hy⟩⟩;simp only[KE,Value.agg.injEq]at O;have P:F.map DV.A0=(q.set j (.own v b k e)).map DV.A0:=by have:=AB6 Array.toList O;simpa using this
            have:=AB6 (·[j]?) P;simp only[AAt,hoj,AA9,List.getElem?_set]at this;simp_all
        . cases g
   |_=>simp_all
theorem wR {n:Nat} {w0:World} {S0 U0:Nat->Prop} (hG:ZX w0 S0 U0) {a:Act} {σ:Sg} (h:Rel G n w0 S0 U0 a w σ) {o:Oper} {d:AB8 Dn} {f:Nat} {x:Ar} {c:AB8 Nat} {B u:List Ar} {K:Sg->Prop} {r:Nat} {p:List Step} {O bs:List AV} {b:Bool} {k:Nat} {rows:List (List AV)} {res out ou t:AV}
 (Pg:KF P o.op f (B++x::u) 0=true) (iY:Dz G n o.dst d=true) (hp:P1 σ x c=some (r,p)) (Zk:NO σ B=some O) (Nn:NO σ u=some bs) (hs:sub (σ r) p=some (.own b k rows))
 (Jq:BA P f (O++Td σ x c (.own b k rows)::bs) res ((O.map λ_=>.dead)++out::bs.map λ_=>.dead)) (hba:S5 c out=some ou) (Pf:Ib ou=true) (HP:clean res=true) (Hf:put (σ r) p ou=some t) (hK:C3 d res K (DZ (Fq G (Te ou b k p) r σ) r t)) (Q:Exit->Act->World->Prop):
 o.wp P a w (λa' w'=>∃σ',Rel G n w0 S0 U0 a' w' σ'/\K σ') Q:=by
 obtain⟨S,δ,Fr,hn,EO,ha,rfl,m,Eu,C8⟩:=h;obtain⟨cc,fn,ho,Mb,hf,hfb,hfn,hm3,M⟩:=Li Pg;have hd:=Ee iY hn;obtain⟨xs,x0,ys,GM,hxs,hx0,hys⟩:∃xs x0 ys,cc.args.toList=xs++x0::ys/\G3 xs B=true/\CM x0 x=true/\G3 ys u=true:=by
  generalize cc.args.toList=l at M;clear Zk Nn hp Jq Pg;induction B generalizing l with
  |nil=>
   cases l with
   |nil=>simp[G3]at M
   |cons x0 xs=>simp only[List.nil_append,G3,AAi]at M;exact⟨[],x0,xs,rfl,rfl,M.1,M.2⟩
  |cons y B ih=>
   cases l with
   |nil=>simp[G3]at M
   |cons y0 l=>simp only[ABV,G3,AAi]at M;obtain⟨xs,x0,ys,i,z,h3,h4⟩:=ih l M.2;exact⟨y0::xs,x0,ys,by simp[i],by simp[G3,M.1,z],h3,h4⟩
 obtain⟨hxo,ex0⟩:=Am hx0 ha;obtain⟨v,Ao,hD,Fk,hlent⟩:=pH m hxo hp hs;obtain⟨R,Zj,Bx,NL⟩:=(m.ok r).replace p hD;obtain⟨Dx,hDx,hDxa,hDxo,hbk⟩:=hlent R Zj;obtain⟨F,p1,p2,p3⟩:=SV m ha B hxs Zk;obtain⟨Ds2,q1,q2,q3⟩:=SV m ha u hys Nn;have Gs:=Jq w S (F++Dx::Ds2) R (hG.now Eu) (by simp[p1,q1,hDx]) (A8.2 (qF p3 hDxo q3)) C8;have Xw:(List.map DV.A0 (F++Dx::Ds2))=cc.args.toList.map a.eval:=by rw[GM];simp[p2,q2,hDxa,ex0]
 unfold Oper.wp;rw[UK ho Mb hf hfb hfn,Oper.upon_enter,← Xw];refine Gs.mono ?_;rintro e w' ⟨rD,os,S',F',rfl,SA,hoe,yV,Cj,X,MU,q7,K8,Xu⟩;obtain⟨Fa,Fb,V,hosk,hdab,Qw⟩:=A8.1 Cj;obtain⟨os1,oX,os2,rfl,hl1,hXe,hXa⟩:∃os1 oX os2,os=os1++oX::os2/\os1.length=F.length/\oX.er=out/\oX.A0=Dx.A0:=by
  have D:O.length=F.length:=by rw[← p1];simp
  have hlen:os.length=F.length+(Ds2.length+1):=by have:=AB6 List.length yV;simpa using this
  have I:F.length<os.length:=by omega
  refine⟨os.take F.length,os[F.length],os.drop (F.length+1),?_,by simp;omega,?_,?_⟩
  . rw[← ABd I,ABq]
  . have:=AB6 (·[F.length]?) hoe;simp only[AAt,AAo I,AA9]at this;rw[ABC (by simp[D])]at this;simpa[D]using this
  . have:=AB6 (·[F.length]?) yV;simp only[AAt,AAo I,AA9]at this;simpa using this
 obtain⟨FX,hoX,hFX⟩:=zO hosk;obtain⟨oD,Fc,W,E,hoD,hFcX⟩:=hbk w' S' FX oX ou hXa (by rw[hXe];exact hba) hoX;have I:∀s x,Fr s x->x<w.heap.size:=λs x g=>(m.ok s).lt x g;have T:∀x,Fc x->Fb x:=λx g=>hFX x (hFcX x g);have hFc:∀x,Fc x->R x∨w.heap.size≤x:=λx g=>Xu x ((Qw x).2 (.inr (T x g)));have vK:∀x,Fa x->R x∨w.heap.size≤x:=λx g=>Xu x ((Qw x).2 (.inl g));have rJ:∀b,S b->w'.heap[b]? =w.heap[b]? :=λb j=>X.block b (C8 b j) (λhf=>Zj.E7 b hf j);have oT:∀s b,Fr s b->¬R b->w'.heap[b]? =w.heap[b]? :=λs b j J=>X.block b (I s b j) J;have U:∀s b,Fr s b->¬R b->¬S' b:=by
  intro s b j J h';rcases q7 b h' with i|i|i
  . exact(m.ok s).E7 b j i
  . exact J i
  . have:=I s b j;omega
 have TU:∀s,s≠r->∀x,Fr s x->¬R x:=λs C x g hf=>C (m.MT s r x g (Bx x hf));obtain⟨tD,Z,rI,hokt,IW,Dh⟩:=NL w' S' oD Fc (by rw[E];simp) hoD (λx g hr=>(hFc x g).elim id λlS=>absurd (I r x hr) (by omega)) rJ (λb j J=>oT r b j J) MU (λb j J=>U r b j J);have vX:tD.er=t:=by obtain⟨t',i,z⟩:=HS (d:=δ r) (p:=p) (a:=t) oD (m.ok r).LD (by rw[W];exact Hf);rw[rI]at i;obtain rfl:=AAl i;exact z
 have hdisr:∀s,s≠r->∀x,Z x->¬Fr s x:=by
  intro s C x g hy;rcases(IW x).1 g with⟨i,_⟩|i
  . exact C (m.MT s r x hy i)
  . rcases hFc x i with z|z
    . exact TU s C x hy z
    . have:=I s x hy;omega
 have lX:Ib oD.er=true:=by rw[W];exact Pf
 have G4:Dd δ oD:=Ui lX;have hrin:∀L,F9 L oD.er=true:=λL=>OD lX;generalize hN:Te ou b k p=N at hK;have hab:∀q v' bx k' H,q.length<N->Au (δ r) q=some (.own v' bx k' H)->∃I9,Au tD q=some (.own v' bx k' I9):=by
  intro q v' bx k' H hq hsq;subst hN;unfold Te at hq;split at hq
  . rename_i b1 k1 Ju;split at hq
    . rename_i e;obtain⟨rfl,rfl⟩:=e;refine Nu q p (by omega) rI (λ_ v2 bx2 k2 I9 z=> ?_) hsq;rw[hD]at z;cases z;cases oD with
      |own hh b2 k2 I9=>simp only[Et,AV.own.injEq]at W;obtain⟨rfl,rfl,_⟩:=W;simp only[Kz]at E;exact⟨I9,by rw[E]⟩
      |lf a v=>simp only[Ei]at W;subst W;cases hoD with|lf _ _ _ h=>exact h.elim
      |agg=>simp at W
      |BM=>simp at W
    . omega
  . omega
 have E8:St G w' S' (DZ (EY G N r δ) r tD) (DZ Fr r Z):=
  m.setn N r tD Z rJ (λs C x g=>oT s x g (TU s C x g)) MU (λs C x g=>U s x g (TU s C x g)) hokt hdisr (MH p rI (m.rt r) (hrin _)) (My p rI (m.al r) G4) hab
 have X0:(λs=>(DZ (EY G N r δ) r tD s).er)=DZ (Fq G N r λs=>(δ s).er) r t:=by
  funext s;unfold DZ;split
  . exact vX
  . exact m.Ql N r s
 have KH:∀s,(DZ (EY G N r δ) r tD s).A0=(δ s).A0:=by
  intro s;unfold DZ;split
  . rename_i e;rw[e,Dh]
  . exact m.MD N r s
 have hF1:∀s x,DZ Fr r Z s x->(Fr s x/\¬R x)∨(s=r/\Fc x):=by
  intro s x g;by_cases C:s=r
  . subst C;rw[BI]at g;exact((IW x).1 g).imp id λh=>⟨rfl,h⟩
  . rw[Ba _ _ C]at g;exact .inl ⟨g,TU s C x g⟩
 have hdisD:∀s x,DZ Fr r Z s x->¬Fa x:=by
  intro s x g hy;rcases hF1 s x g with⟨i,z⟩|⟨_,i⟩
  . rcases vK x hy with h3|h3
    . exact z h3
    . have:=I s x i;omega
  . exact hdab x hy (T x i)
 have hOwn1:∀x,BE (DZ Fr r Z) x->BE Fr x∨w.heap.size≤x:=by
  rintro x ⟨s,g⟩;rcases hF1 s x g with⟨i,_⟩|⟨_,i⟩
  . exact .inl ⟨s,i⟩
  . exact(hFc x i).imp (λh=>⟨r,Bx x h⟩) id
 have HK:∀F3:Nat->Nat->Prop,(∀x,BE F3 x->BE (DZ Fr r Z) x∨Fa x)->Nx w0 S0 U0 w' S' (BE F3):=by
  intro F3 hF3;refine Eu.trans ⟨X.os,X.tape,X.output,X.size,λb j J=>X.block b j λhf=>J ⟨r,Bx b hf⟩,MU,λb j=>(q7 b j).imp id (Or.imp (λh=>⟨r,Bx b h⟩) id),λ_=>K8,λx g=> ?_⟩;rcases hF3 x g with i|i
  . exact hOwn1 x i
  . exact(vK x i).imp (λh=>⟨r,Bx x h⟩) id
 rw[← X0]at hK;have RP:Rd (DZ (EY G N r δ) r tD) a:=λs=>(ha s).trans (KH s).symm;simp only;cases d with
 |none=>
  have h0:o.dst=none:=hd;refine⟨_,⟨S',_,_,?_,?_,?_,rfl,E8,HK _ (λx g=>.inl g),K8⟩,hK⟩
  . rw[h0];exact hn
  . rw[h0];exact EO
  . rw[h0];exact RP
 |some d=>
  simp only[C3]at hK;split at hK
  . rename_i τ' Mo;obtain⟨i,z,h3,h4⟩:=hd;rw[← SA]at Mo;obtain⟨δ',F3,Kn,JU,RQ,D8⟩:=E8.wr z h3 (λ_ _=>rfl) (λ_ _ _=>rfl) (λ_ h=>h) (λs x g=>(E8.ok s).E7 x g) V hdisD (Xf V (by rw[SA];exact HP)) Mo;refine⟨τ',⟨S',δ',F3,?_,?_,?_,JU,Kn,HK F3 D8,K8⟩,hK⟩
    . rw[i];simpa[Act.put]using hn
    . rw[i];simpa[Act.put]using EO
    . intro s;rw[i,I1 a d.d rD.A0 h4 s,RQ s];split
      . rfl
      . exact RP s
  . exact hK.elim
end Go.Abs
namespace Go.Abs
variable {w w':World} {S S':Nat->Prop} {G:Gi} {δ:Nat->DV} {Fr:Nat->Nat->Prop} {P:Program}
def K5 (n:Nat) (ops:Array Oper) (g:AB8 (Nat×Bool)) (h:AB8 (Nat×Bool)):Bool:=
 match g,h with
 |none,none=>true
 |some (j,b),some (s,b')=>(ops[j]?).bind (·.dst)==some s&&b==b'&&decide (s<n)
 |_,_=>false
def HN (P:Program) (G:Gi) (n:Nat) (ops:Array Oper) (o:Oper) (io:BN):Bool:=
 Dz G n o.dst io.dst&&K5 n ops o.guard io.guard&&(match io.op with
  | .call f args m=>KF P o.op f args m
  | .VW f pre x _ post=>KF P o.op f (pre++x::post) 0
  |op=>Jn P o.op op)
theorem XZ {n:Nat} {u:World} {j k:Nat->Prop} (I:ZX u j k) {a:Act} {σ:Sg} (h:Rel G n u j k a w σ) {ops:Array Oper} {o:Oper} {io:BN} (J:HN P G n ops o io=true) {K:Sg->Prop} (d:EK P G io K σ) (Q:Exit->Act->World->Prop):
 o.wp P a w (λy w'=>∃σ',Rel G n u j k y w' σ'/\K σ') Q:=by
 simp only[HN,AAi]at J;obtain⟨⟨H,_⟩,g⟩:=J;have F:=h;obtain⟨S,δ,Fr,hn,M,ha,rfl,L,N,E⟩:=h;have hd:=Ee H hn;have i:∀{op:ZR},io.op=op->(match Gn G op io.dst (λs=>(δ s).er)with|some τ=>K τ|none=>False)->Jn P o.op op=true->o.wp P a w (λy w'=>∃σ',Rel G n u j k y w' σ'/\K σ') Q:=by
  intro op _ B hk;split at B
  . rename_i τ l;obtain⟨nx,v,w',S',D,O,q,C,Sv,U,W,e⟩:=op_sound L E ha hd hk l;have key:∃σ',Rel G n u j k (a.put o.dst v) w' σ'/\K σ':=by
     refine⟨τ,⟨S',D,O,?_,?_,Sv,U,W,N.trans e,e.lt E⟩,B⟩
     . cases ho:o.dst<;>simp[Act.put,hn]
     . cases ho:o.dst<;>simp[Act.put,M]
    unfold Oper.wp;rw[q];rcases C with rfl|⟨rfl,rfl⟩
    . rw[Oper.upon_value];exact key
    . rw[Oper.upon_skip];exact key
  . exact B.elim
 cases IL:io.op with
 |call f args m=>rw[IL]at g;exact mZ I F IL g hd d Q
 |VW f pre x c post=>
  rw[IL]at g;unfold EK at d;rw[IL]at d;simp only at d g;split at d
  . rename_i r p aZ9 bs hp Zk X;split at d
    . rename_i b kk rows hs;obtain⟨res,out,ou,V,z,Z,R,q⟩:=d;split at q
      . rename_i t T;exact wR I F g H hp Zk X hs V z Z R T q Q
      . exact q.elim
    . exact d.elim
  . exact d.elim
 |_=>rw[IL]at g;unfold EK at d;rw[IL]at d;exact i IL d g
theorem Pe {n:Nat} {W:World} {N O:Nat->Prop} {a:Act} {σ:Sg} (h:Rel G n W N O a w σ) {ops:Array Oper} {o:Oper} {y:AB8 Dn} {I:AB8 (Nat×Bool)} (h1:Dz G n o.dst y=true) (c:K5 n ops o.guard I=true) {A K:Sg->Prop} {next:Act->World->Prop} (Q:Exit->Act->World->Prop)
 (T:A σ->o.wp P a w next Q) (U:∀R σ',Rel G n W N O R w σ'->K σ'->next R w) (k:gdP I A (ZF y K) σ) {i:Nat} (hi:ops[i]? =some o):wpOp P ops Q i next a w:=by
 unfold wpOp;rw[hi];simp only;have skip:ZF y K σ->next (a.put o.dst undef) w:=by
  intro t;unfold ZF at t;obtain⟨S,δ,Fr,hn,z,r,rfl,q,M,L⟩:=h;have hd:=Ee h1 hn;cases MV:y with
  |none=>rw[MV]at t hd;have h0:o.dst=none:=hd;rw[h0];exact U _ _ ⟨S,δ,Fr,hn,z,r,rfl,q,M,L⟩ t
  |some d=>
   rw[MV]at t hd;obtain⟨B,g2,g3,g4⟩:=hd;have Mo:wr d (DV.lf .un undef).er (λs=>(δ s).er)=some (DZ (Js d.kl d.d λs=>(δ s).er) d.d .un):=(by simp[wr]);obtain⟨J,F',Kn,JU,Z,X⟩:=q.wr (D:=.lf .un undef) (Ff:=λ_=>False) g2 g3 (λ_ _=>rfl) (λ_ _ _=>rfl) (λ_ h=>h) (λs x H=>(q.ok s).E7 x H) (.lf _ _ _ rfl (λ_ h=>h)) (λ_ _ _ h=>h) (.lf _ _ trivial) Mo;refine U _ _ ⟨S,J,F',?_,?_,?_,JU,Kn,M.trans (Nx.less λx H=>(X x H).elim (λh=>h) False.elim),L⟩ t
   . rw[B];simpa[Act.put]using hn
   . rw[B];simpa[Act.put]using z
   . intro s;rw[B,I1 a d.d undef g4 s,Z s];split
     . rfl
     . exact r s
 cases I with
 |none=>
  have e:o.guard=none:=by
   cases ho:o.guard with
   |none=>rfl
   |some g=>rw[ho]at c;simp[K5]at c
  have hw:Region.wanted o (yielded ops a.tmps)=true:=by simp[Region.wanted,e]
  rw[AAs hw];exact .inl (T k)
 |some g=>
  obtain⟨s,l⟩:=g;simp only[gdP]at k;obtain⟨j,e,E,F⟩:∃j,o.guard=some (j,l)/\(ops[j]?).bind (·.dst)=some s/\s<n:=by
   cases ho:o.guard with
   |none=>rw[ho]at c;simp[K5]at c
   |some g=>obtain⟨j,b⟩:=g;rw[ho]at c;simp only[K5,AAi,AAw,AA1]at c;exact⟨j,by rw[c.1.2],c.1.1,c.2⟩
  have V:yielded ops a.tmps j=match a.tmps.getD s undef with| .bool b=>some b|_=>none:=by obtain⟨S,δ,Fr,hn,_⟩:=h;have u:s<a.tmps.size:=(by rw[hn];exact F);unfold yielded;rw[E];simp only[AAg,Array.getElem?_eq_getElem u,AA4,Option.getD_some];cases a.tmps[s]<;>rfl
  have p:a.tmps.getD s undef=match σ s with| .sc v=>v| .un=>undef|_=>a.tmps.getD s undef:=by
   obtain⟨S,δ,Fr,hn,z,r,rfl,q,_⟩:=h;simp only;cases u:(δ s).er with
   |sc v=>rw[r s];exact(q.leaf u rfl).2.1.1
   |un=>rw[r s];exact(q.leaf u rfl).2.1
   |_=>rfl
  split at k
  . rename_i b C;rw[C]at p;simp only at p;have f:Region.wanted o (yielded ops a.tmps)=(some b==some l):=(by simp only[Region.wanted,e,V,p]);split at k
    . rename_i m;subst m;rw[AAs (by rw[f];simp)];exact .inl (T k)
    . rename_i m;rw[AAp (by rw[f];simp[m])];exact skip k
  . rename_i C;rw[C]at p;simp only at p;have f:Region.wanted o (yielded ops a.tmps)=false:=(by simp only[Region.wanted,e,V,p];rfl);rw[AAp (by rw[f];simp)];exact skip k
  . exact k.elim
theorem Is {n:Nat} {e:World} {b d:Nat->Prop} (l:ZX e b d) {a:Act} {σ:Sg} (h:Rel G n e b d a w σ) {ops:Array Oper} {o:Oper} {io:BN} (f:HN P G n ops o io=true) {K:Sg->Prop} (g:K3 P G io K σ) (Q:Exit->Act->World->Prop) {i:Nat} (hi:ops[i]? =some o):
 wpOp P ops Q i (λj w'=>∃σ',Rel G n e b d j w' σ'/\K σ') a w:=by
 have c:=f;simp only[HN,AAi]at c;exact Pe h c.1.1 c.1.2 (A:=EK P G io K) Q (λm=>XZ l h f m Q) (λ_ _ r k=>⟨_,r,k⟩) g hi
def Lx (P:Program) (G:Gi) (n:Nat) (ops:Array Oper):List Oper->List BN->Bool
 |[],[]=>true
 |o::os,io::Dj=>HN P G n ops o io&&Lx P G n ops os Dj
 |_,_=>false
theorem mL {n:Nat} {j:World} {d e:Nat->Prop} (q:ZX j d e) {ops:Array Oper} {K:Sg->Prop} (Q:Exit->Act->World->Prop) (r:∀a w σ,Rel G n j d e a w σ->K σ->Q .normal a w) (c:List BN):
 ∀(k:Nat) {a:Act} {w:World} {σ:Sg},Rel G n j d e a w σ->Lx P G n ops (ops.toList.drop k) c=true->OA P G c K σ->wpOps P ops Q (List.range' k (ops.size-k)) a w:=by
 induction c with
 |nil=>
  intro k a w σ h b i;have l:ops.toList.drop k=[]:=by cases hd:ops.toList.drop k with|nil=>rfl|cons o os=>rw[hd]at b;simp[Lx]at b
  have m:ops.size≤k:=by simpa using l
  rw[show ops.size-k=0 from by omega];exact r a w σ h i
 |cons io c ih=>
  intro k a w σ h b i;cases hd:ops.toList.drop k with
  |nil=>rw[hd]at b;simp[Lx]at b
  |cons o os=>rw[hd]at b;simp only[Lx,AAi]at b;have l:k<ops.size:=(by have:(ops.toList.drop k).length=os.length+1:=(by rw[hd];rfl);simp at this;omega);have s:ops[k]? =some o:=(by have:(ops.toList.drop k)[0]? =some o:=(by rw[hd];rfl);simpa using this);have g:ops.toList.drop (k+1)=os:=(by have:(ops.toList.drop k).drop 1=os:=(by rw[hd];rfl);rw[List.drop_drop]at this;exact this);rw[show ops.size-k=(ops.size-(k+1))+1 from by omega,List.range'_succ,wpOps_cons];refine wpOp_mono ?_ (Is q h b.1 i Q s);rintro t w' ⟨σ',p,f⟩;exact ih (k+1) p (by rw[g];exact b.2) f
end Go.Abs
namespace Go.Abs
variable {w w':World} {S S':Nat->Prop} {G:Gi} {δ:Nat->DV} {Fr:Nat->Nat->Prop} {P:Program}
theorem O2 (d:Nat) (t e:TypeId) (a:AB8 Addr) (n c:Nat) (h:P.underlying t=some (.slice e)):(Op.equalIn (d+1) t (.slice a n c) (.slice none 0 0)).run P w= .ok a.isNone w:=by have b:(underlying t).run P w= .ok (.slice e) w:=run_underlying h w;cases a<;>simp[Op.equalIn,b]
theorem kS (t e:TypeId) (a:AB8 Addr) (n c:Nat) (h:P.underlying t=some (.slice e)):(binOp .eql t (.slice a n c) (.slice none 0 0)).run P w= .ok (.bool a.isNone) w:=by simp only[binOp];have:(Op.equal t (.slice a n c) (.slice none 0 0)).run P w= .ok a.isNone w:=O2 9999 t e a n c h;simp[this]
theorem kT (t e:TypeId) (a:AB8 Addr) (n c:Nat) (h:P.underlying t=some (.slice e)):(binOp .neq t (.slice a n c) (.slice none 0 0)).run P w= .ok (.bool (!a.isNone)) w:=by simp only[binOp];have:(Op.equal t (.slice a n c) (.slice none 0 0)).run P w= .ok a.isNone w:=O2 9999 t e a n c h;simp[this]
def nN (P:Program) (o:Op) (neg:Bool) (y:Ar):Bool:=match o with
 | .binOp op t x (.const (.slice none 0 0)) _=>(match op with| .eql=> !neg| .neq=>neg|_=>false)&&(match P.underlying t with|some (.slice _)=>true|_=>false)&&CM x y
 |_=>false
theorem o5 {n:Nat} {w0:World} {L M:Nat->Prop} {a:Act} {σ:Sg} (h:Rel G n w0 L M a w σ) {o:Oper} {d:Dn} {g:Bool} {x:Ar} {K:Sg->Prop} {rows:List (List AV)} {z:AV} {pl:AB8 (Nat×List Step)} (j:nN P o.op g x=true) (iY:Dz G n o.dst (some d)=true)
 (W:hd σ x=some (z,pl)) (i:rowsOf z=some rows) (hK:∀b:Bool,(b=true->rows=[])->C3 (some d) (.sc (.bool (if g=true then !b else b))) K σ) (Q:Exit->Act->World->Prop):
 o.wp P a w (λa' w'=>∃σ',Rel G n w0 L M a' w' σ'/\K σ') Q:=by
 obtain⟨S,δ,Fr,hn,EO,R,rfl,q,Eu,B⟩:=h;unfold nN at j;split at j
 . rename_i op t x' u Z;simp only[AAi]at j;obtain⟨⟨r,O⟩,h3⟩:=j;obtain⟨hx,N⟩:=Am h3 R;obtain⟨e,U⟩:∃e,P.underlying t=some (.slice e):=by
    split at O
    . exact⟨_,‹_›⟩
    . cases O
   -- the slice's own value
   obtain⟨f,l,c,p,m⟩:∃f l c,C7 δ x= .slice f l c/\(f.isNone=true->rows=[]):=by
    obtain⟨g1,g2⟩:=q.rB hx W;cases z with
    |own b k rows'=>
     cases b with
     |true=>simp[rowsOf]at i
     |false=>
      simp only[rowsOf,AAh]at i;subst i;obtain⟨Ao,F,e1,C,_⟩:=g1 _ _ _ rfl;generalize C7 δ x=v at C;cases C with
      |nil=>exact⟨none,0,0,rfl,λ_=>by rw[← e1];rfl⟩
      |own _ _ _ b c arr E Fs _ T X D6 Lk hvv hr H p KW hF=>exact⟨_,_,_,by simp[Jp];exact⟨rfl,rfl,rfl⟩,by simp⟩
    |sl e' k rows'=>
     simp only[rowsOf,AAh]at i;subst i;obtain⟨s,y,rH⟩:=q.hdSl hx W;have I:=g2 _ _ _ rfl ⟨s,y,rH⟩;generalize C7 δ x=v at I;cases I with
     |nil=>exact⟨_,_,_,rfl,λ_=>rfl⟩
     |sl=>exact⟨_,_,_,rfl,by simp⟩
    |_=>simp[rowsOf]at i
   have T:(execOp a.eval o).run P w= .ok (.value (.bool (if g=true then !f.isNone else f.isNone))) w:=by
    have V:∀op,(eqGuard op t x' (.const (.slice none 0 0)) (.slice f l c) (.slice none 0 0)).run P w= .ok () w:=(by intro op;cases op<;>simp[eqGuard]);have J:a.eval (.const (.slice none 0 0))= .slice none 0 0:=rfl;cases op<;>simp only[AAr]at r
    . have:g=false:=(by simpa using r);subst this;simp only[execOp,Z,N,p,J,Sem.run_bind,V,Result.andThen_ok,kS t e f l c U,Sem.run_pure,AAr,AAx]
    . subst r;simp only[execOp,Z,N,p,J,Sem.run_bind,V,Result.andThen_ok,kT t e f l c U,Sem.run_pure,AA5]
   have X:=hK f.isNone m;have H:=Ee iY hn;unfold Oper.wp;rw[T,Oper.upon_value];exact Lu (S2:=S) (D:=.lf (.sc (.bool (if g=true then !f.isNone else f.isNone))) (.bool (if g=true then !f.isNone else f.isNone))) (FD:=λ_=>False) q hn EO R H (by simp) (λ_ _=>rfl) B (λ_ h=>h) (λ_ h=>.inl h) B (.lf _ _ _ ⟨rfl,rfl⟩ (λ_ h=>h)) (λ_ h=>h.elim) (.lf _ _ trivial) Eu rfl rfl rfl (AA8 _) X
 . cases j
theorem nF (h:St G w S δ Fr) (rs:List (Nat×List Step)):∀{vs:List Value} {f:List AV},vs.length=rs.length->(∀(i:Nat) r p u,rs[i]? =some (r,p)->vs[i]? =some u->∃bx k rows,Au (δ r) p=some (.own u bx k rows))->uE (λs=>(δ s).er) rs=some f->
 ∃c:List DV,c.map DV.er=f/\c.map DV.A0=vs/\∀D∈c,Ok w (λx=>S x∨BE Fr x) D (λ_=>False):=by
 induction rs with
 |nil=>
  intro vs f g _ b;cases vs with
  |nil=>simp only[uE,AAh]at b;subst b;exact⟨[],rfl,rfl,by simp⟩
  |cons=>simp at g
 |cons x rs ih=>
  obtain⟨r,p⟩:=x;intro vs f g l b;cases vs with
  |nil=>simp at g
  |cons v vs=>
   simp only[uE]at b;split at b
   . rename_i a m n o;simp only[AAh]at b;subst b;obtain⟨bx,k,rows,q⟩:=l 0 r p v rfl rfl;obtain⟨D,y,z,B⟩:=Jt h (d:=.lf (.al r p) v) (F:=λ_=>False) (.lf _ _ _ trivial (λ_ h=>h)) (λ_ h=>h.elim) (.lf _ _ ⟨bx,k,rows,q⟩) (by simpa using n);obtain⟨c,C,E,H⟩:=ih (by simpa using g) (λi r p u hi t=>l (i+1) r p u (by simpa using hi) (by simpa using t)) o;refine⟨D::c,by simp[y,C],by simpa[E]using z,?_⟩;intro e j;rcases ABH.1 j with rfl|j
     . exact B
     . exact H e j
   . cases b
def nI (P:Program) (o:Op) (f:Nat) (y:Ar) (ys:List Ar):Bool:=match o with
 | .call c=>(match c.callee with
  | .value x=>CM x y&&G3 c.args.toList ys&&(match P.funcs[f]? with|some fn=>fn.body.isSome&&fn.name != "runtime.NumGoroutine" |none=>false)
  |_=>false)
 |_=>false
theorem run_clo {a:Act} {o:Oper} {c:Call} {x:Operand} {f:Nat} {b:Func} {vs:List Value} (k:o.op= .call c) (i:c.callee= .value x) (m:a.eval x= .func (.func f) #[] vs.toArray) (j:P.funcs[f]? =some b) (n:b.body.isSome=true) (hn:(b.name != "runtime.NumGoroutine")=true):
 (execOp a.eval o).run P w= .ok (.enter f (c.args.toList.map a.eval++vs).toArray) w:=by
 have d:b.body.isNone=false:=by cases h:b.body<;>simp_all
 have e:(b.name== "runtime.NumGoroutine")=false:=by simpa using hn
 have g:c.args.map a.eval=(c.args.toList.map a.eval).toArray:=by apply ABx;simp
 simp only[execOp,k,resolve,i,m,Deferred.ofValue,Sem.run_bind,Sem.run_pure,Result.andThen_ok,invoke,callFunc,g];have l:(program).run P w= .ok P w:=rfl;rw[l];simp only[Result.andThen_ok,j,e,d,AAr,AAx,Sem.run_pure];simp
theorem uK {n:Nat} {R:World} {E H:Nat->Prop} (hG:ZX R E H) {a:Act} {σ:Sg} (h:Rel G n R E H a w σ) {o:Oper} {d:AB8 Dn} {f:Nat} {x:Ar} {args:List Ar} {K:Sg->Prop} {m:List AV} {z v:AV}
 (i:nI P o.op f x args=true) (iY:Dz G n o.dst d=true) (g:cloA σ f x args=some m) (Jq:Says P f m z) (l:Sh 0 z=some v) (hK:C3 d v K σ) (Q:Exit->Act->World->Prop):
 o.wp P a w (λa' w'=>∃σ',Rel G n R E H a' w' σ'/\K σ') Q:=by
 obtain⟨S,δ,Fr,hn,EO,I,rfl,k,T,B⟩:=h;have hd:=Ee iY hn;have Nl:=hG.now T;unfold nI at i;split at i
 . rename_i c ho;split at i
   . rename_i x0 Mb;simp only[AAi]at i;obtain⟨⟨h1,h2⟩,p⟩:=i;split at p
     . rename_i fn hf;simp only[AAi]at p;obtain⟨y,ex⟩:=Am h1 I;unfold cloA at g;split at g
       . rename_i f' rs C;split at g
         . rename_i e;subst e;split at g
           . rename_i as1 bs J L;simp only[AAh]at g;subst g;obtain⟨vs,Z,N,O⟩:ND δ (.cl f' rs) (C7 δ x):=by
              cases x with
              |t s=>exact(k.leaf C rfl).2.2
              |c c0=>obtain⟨D0,oI⟩:=y;simp only[ar]at C;subst C;simp[JE]at oI
             obtain⟨X,p1,p2,p3⟩:=Ty k I args h2 J;obtain⟨Ds2,q1,q2,q3⟩:=nF k rs N O L;have Gs:=Jq w (λx=>S x∨BE Fr x) (X++Ds2) (λ_=>False) (Nl.mono λ_ h=>.inl h) (by simp[p1,q1]) (A8.2 (CC λD hD=>(AAz.1 hD).elim (p3 D) (q3 D))) (by
              rintro b (q|⟨s,M⟩)
              . exact B b q
              . exact(k.ok s).lt b M)
             have Xw:(List.map DV.A0 (X++Ds2))=c.args.toList.map a.eval++vs:=(by simp[p2,q2]);simp only[Sh]at l;split at l
             . rename_i FU;simp only[AAh]at l;have W:=Xn FU;unfold Oper.wp;rw[run_clo ho Mb (by rw[ex,Z]) hf p.1 p.2,Oper.upon_enter,← Xw];refine Gs.mono ?_;rintro e w' ⟨r,os,S',F',rfl,F,hoe,yV,Cj,j,MU,q7,K8,Xu⟩;obtain⟨U,Fb,V,_,_,Qw⟩:=A8.1 Cj;have u:∀x,U x->w.heap.size≤x:=λx y=>(Xu x ((Qw x).2 (.inl y))).resolve_left id;have Pl:Ok w' S r U:=TL V (by rw[F];exact W) (λx y M=>by have:=B x M;have:=u x y;omega);simp only;exact Lu (S2:=S) k hn EO I hd (F.trans l) (λb q=>j.block b q id) B (λ_ h=>h) (λ_ h=>.inl h) (λb q=>ABk (B b q) j.size) Pl u (TK V (by rw[F];exact W)) T j.os j.tape j.output j.size hK
             . cases l
           . cases g
         . cases g
       . cases g
     . cases p
   . cases i
 . cases i
def nH (P:Program) (o:Op) (n s:Nat):Bool:=match o with
 | .box t (.tmp s')=>s==s'&&Gv P t==some n
 |_=>false
theorem uD {n:Nat} {C:World} {q r:Nat->Prop} {a:Act} {σ:Sg} (h:Rel G n C q r a w σ) {o:Oper} {d:Dn} {m s:Nat} {K:Sg->Prop} {y:List AV} (f:nH P o.op m s=true) (W:Dz G n o.dst (some d)=true)
 (V:σ s= .agg y) (O:y.length=m) (M:∀B:List Value,B.length=m->C3 (some d) (.vb s 0 B) K σ) (Q:Exit->Act->World->Prop):
 o.wp P a w (λL w'=>∃σ',Rel G n C q r L w' σ'/\K σ') Q:=by
 obtain⟨S,δ,Fr,hn,E,z,rfl,l,F,k⟩:=h;have hd:=Ee W hn;unfold nH at f;split at f
 . rename_i t X T;simp only[AAi,AAw]at f;obtain⟨rfl,_⟩:=f;obtain⟨ds,J,R⟩:=Qc (l.ok s) V;have p:(δ s).A0= .agg (ds.map DV.A0).toArray:=(by rw[J];simp);have H:a.eval (.tmp s)= .agg (ds.map DV.A0).toArray:=(by simp only[Act.eval];rw[z s,p]);have g:(ds.map DV.A0).length=m:=(by rw[← O,← R];simp);have U:(execOp a.eval o).run P w= .ok (.value (.pointer (some ⟨w.heap.size,0,none⟩))) (w.alloc (.cells (ds.map DV.A0).toArray t)):=(by simp only[execOp,T,H,Sem.run_bind,rV,Result.andThen_ok,Sem.run_pure,Value.cells]);unfold Oper.wp;rw[U,Oper.upon_value];have I:(w.alloc (.cells (ds.map DV.A0).toArray t)).heap.size=w.heap.size+1:=(by show(w.heap.push _).size=_;exact Array.size_push _);have i:∀b,(S b∨b=w.heap.size)->b<(w.alloc (.cells (ds.map DV.A0).toArray t)).heap.size:=by
    intro b c;rw[I];rcases c with c|c
    . have:=k b c;omega
    . omega
   have:=Lu (w':=w.alloc (.cells (ds.map DV.A0).toArray t)) (S2:=λx=>S x∨x=w.heap.size) (D:=.lf (.vb s 0 (ds.map DV.A0)) (.pointer (some ⟨w.heap.size,0,none⟩))) (FD:=λ_=>False) (v:=.vb s 0 (ds.map DV.A0)) (K:=K) l hn E z hd (by simp)
    (λb c=>alloc_old w _ b c) k (λ_ h=>.inl h) (λb c=>c.imp id (λe=>by omega)) i
    (.lf _ _ _ ⟨w.heap.size,rfl,.inr rfl,λj u N=>by simp only[World.cell?,aI];simpa using N⟩ (λ_ h=>h)) (λ_ h=>h.elim) (.lf _ _ p) F rfl rfl rfl (by omega) (M _ g)
   simpa using this
 . cases f
def nL (P:Program) (o:Op) (g n:Nat):Bool:=match o with
 | .load t (.global g')=>g==g'&&Gv P t==some n&&Jb P t==some true
 |_=>false
theorem vH {n:Nat} {q:World} {k l:Nat->Prop} (O:ZX q k l) {a:Act} {σ:Sg} (h:Rel G n q k l a w σ) {o:Oper} {d:Dn} {g m:Nat} {B:List Value} {K:Sg->Prop} (f:nL P o.op g m=true) (iY:Dz G n o.dst (some d)=true)
 (c:iW g m=some B) (R:C3 (some d) (.agg (B.map .sc)) K σ) (Q:Exit->Act->World->Prop):
 o.wp P a w (λL w'=>∃σ',Rel G n q k l L w' σ'/\K σ') Q:=by
 obtain⟨S,δ,Fr,hn,I,T,rfl,H,u,r⟩:=h;have J:=O.now u;have hd:=Ee iY hn;unfold iW at c;split at c
 . rename_i x C;split at c
   . rename_i z;obtain rfl:=AAl c;have oO:=AB1 C;have p:x.1=g:=(by have:=List.find?_some C;simpa using this);obtain⟨_,arr,E,fz,U,F⟩:=J x oO;unfold nL at f;split at f
     . rename_i t g' W;simp only[AAi,AAw]at f;obtain⟨⟨rfl,M⟩,N⟩:=f;have s:=LM (P:=P) (w:=w) (b:=g) (off:=0) (vs:=x.2) M N (.inl rfl) z.1 (by
        intro j v V
        have:=F j v V;simp only[World.cell?];rw[← p,U];simpa using this)
       simp only[AA5]at s;have X:(execOp a.eval o).run P w= .ok (.value (.agg x.2.toArray)) w:=(by simp only[execOp,W,Act.eval,Instr.loadAt,Instr.sureAddr,Sem.run_bind,Sem.run_pure,Result.andThen_ok,s]);unfold Oper.wp;rw[X,Oper.upon_value];have y:∀D∈x.2.map (λv=>DV.lf (.sc v) v),Ok w S D (λ_=>False)/\Dd δ D:=by intro D e;obtain⟨v,Z,rfl⟩:=AB0.1 e;exact⟨.lf _ _ _ ⟨rfl,AAm.1 z.2 v Z⟩ (λ_ h=>h),.lf _ _ trivial⟩
       have:=Lu (S2:=S) (D:=.agg (x.2.map λv=>DV.lf (.sc v) v)) (FD:=λ_=>False) (v:=.agg (x.2.map .sc)) (K:=K) H hn I T hd (by simp[Function.comp_def]) (λ_ _=>rfl) r (λ_ h=>h) (λ_ h=>.inl h) r (B2.2 (CC λD e=>(y D e).1)) (λ_ h=>h.elim) (.agg _ λi D e=>(y D (AAu e)).2) u rfl rfl rfl (AA8 _) R;simpa[Function.comp_def]using this
     . cases f
   . cases c
 . cases c
end Go.Abs
namespace Go.Abs
variable {G:Gi} {A:Nat->Prop} {σ σ' τ τ':Sg}
structure Ag (G:Gi) (A:Nat->Prop) (σ σ':Sg):Prop where
 eq:∀s,A s->σ' s=σ s
 ri:∀s,A s->F9 (G.HI s) (σ s)=true
structure Mv (G:Gi) (A:Nat->Prop) (σ σ' τ τ':Sg):Prop where
 ag:Ag G A τ τ'
 off:∀s,¬A s->τ' s=σ' s/\τ s=σ s
structure Cl (G:Gi) (A:Nat->Prop) (s:Nat):Prop where
 own:A s
 Oj:∀x∈G.Oj s,A x
 rt:∀r∈G.HI s,A r/\∀x∈G.Oj r,A x
def p9 (G:Gi) (A:Nat->Prop):Ar->Prop
 | .t s=>Cl G A s
 | .c a=>F9 [] a=true
theorem Mv.refl (h:Ag G A σ σ'):Mv G A σ σ' σ σ':=⟨h,λ_ _=>⟨rfl,rfl⟩⟩
theorem Mv.trans {d a:Sg} (h:Mv G A σ σ' τ τ') (c:Mv G A τ τ' d a):Mv G A σ σ' d a:=
 ⟨c.ag,λs b=>⟨(c.off s b).1.trans (h.off s b).1,(c.off s b).2.trans (h.off s b).2⟩⟩
theorem OW (L:List Nat) (d:Nat):∀(a:AV),F9 L a=true->F9 L (Dg d a)=true
 | .al r p,h=>by
  rw[YG];split
  . simp
  . exact h
 | .K2 r p i j k,h=>by
  rw[Ur];split
  . simp
  . exact h
 | .agg cs,h=>by rw[KT,AAm]at h;rw[bR,KT,ABf,AAm];intro c b;exact OW L d c (h c b)
 | .BM cs,h=>by rw[OX,AAm]at h;rw[bT,OX,ABf,AAm];intro c b;exact OW L d c (h c b)
 | .sc _,_=>by simp
 | .sl ..,_=>by simp
 | .own ..,_=>by simp
 | .fp _,_=>by simp
 | .dead,_=>by simp
 | .un,_=>by simp
 | .nY ..,_=>by simp[Dg,F9]
 | .vb s o us,h=>by
  rw[YH];split
  . simp
  . exact h
 | .cl f rs,h=>by
  rw[Ta];split
  . exact h
  . simp
theorem XB {L:List Nat} (p:List Step):∀{t x f:AV},put t p x=some f->F9 L t=true->F9 L x=true->F9 L f=true:=by
 induction p with
 |nil=>
  intro t x f h _ g;have:f=x:=by cases t<;>simp[put]at h<;>exact h.symm
  subst this;exact g
 |cons s p ih=>
  obtain⟨i,j,k⟩:=s;intro t x f h d g;cases t with
  |own b k rows=>
   simp only[put]at h;split at h
   . split at h
     . split at h
       . cases h;simp
       . cases h
     . cases h
   . cases h
  |agg cs=>
   simp only[put]at h;split at h
   . rename_i c m;split at h
     . rename_i c' l;cases h;rw[KT,AAm]at d ⊢;intro e a;rcases ABB a with a|rfl
       . exact d e a
       . exact ih l (d c (AAu m)) g
     . cases h
   . cases h
  |BM cs=>
   simp only[put]at h;split at h
   . rename_i c m;split at h
     . rename_i c' l;cases h;rw[OX,AAm]at d ⊢;intro e a;rcases ABB a with a|rfl
       . exact d e a
       . exact ih l (d c (AAu m)) g
     . cases h
   . cases h
  |_=>simp[put]at h
theorem Ag.kup (h:Ag G A σ σ') {r:Nat} {t:AV} (f:A r) (d:∀x∈G.Oj r,A x) (g:F9 (G.HI r) t=true):Mv G A σ σ' (DZ (Jr G r σ) r t) (DZ (Jr G r σ') r t):=by
 refine⟨⟨λs a=> ?_,λs a=> ?_⟩,λs a=> ?_⟩
 . simp only[DZ,Jr,h.eq s a]
 . simp only[DZ,Jr];split
   . rename_i e;subst e;exact g
   . split
     . exact OW _ _ _ (h.ri s a)
     . exact h.ri s a
 . have b:s≠r:=λe=>a (e▸f);have c:s∉G.Oj r:=λe=>a (d s e);simp[DZ,Jr,b,c]
theorem Ag.up (h:Ag G A σ σ') {r:Nat} {t:AV} (c:A r) (d:F9 (G.HI r) t=true):Mv G A σ σ' (DZ σ r t) (DZ σ' r t):=by
 refine⟨⟨λs a=> ?_,λs a=> ?_⟩,λs a=> ?_⟩
 . simp only[DZ,h.eq s a]
 . simp only[DZ];split
   . rename_i e;subst e;exact d
   . exact h.ri s a
 . have b:s≠r:=λe=>a (e▸c);simp[DZ,b]
theorem Ag.kupn (h:Ag G A σ σ') (n:Nat) {r:Nat} {t:AV} (f:A r) (d:∀x∈G.Oj r,A x) (g:F9 (G.HI r) t=true):Mv G A σ σ' (DZ (Fq G n r σ) r t) (DZ (Fq G n r σ') r t):=by
 refine⟨⟨λs a=> ?_,λs a=> ?_⟩,λs a=> ?_⟩
 . simp only[DZ,Fq,h.eq s a]
 . simp only[DZ,Fq];split
   . rename_i e;subst e;exact g
   . split
     . exact Qk _ _ _ _ (h.ri s a)
     . exact h.ri s a
 . have b:s≠r:=λe=>a (e▸f);have c:s∉G.Oj r:=λe=>a (d s e);simp[DZ,Fq,b,c]
theorem XD (h:Ag G A σ σ') {r:Nat} {p:List Step} {v:AV} (c:A r) (d:∀x∈G.Oj r,A x) (a:Z7 G r p σ=some (v,τ)):∃τ',Z7 G r p σ'=some (v,τ')/\Mv G A σ σ' τ τ':=by
 unfold Z7 at a ⊢;rw[h.eq r c];split at a
 . rename_i b k rows f;split at a
   . rename_i t e;cases a;exact⟨_,rfl,h.kupn _ c d (XB p e (h.ri r c) (by simp))⟩
   . cases a
 . cases a
theorem TN (h:Ag G A σ σ') {r:Nat} {p:List Step} {v:AV} (c:A r) (d:∀x∈G.Oj r,A x) (a:Qv G r p σ=some (v,τ)):∃τ',Qv G r p σ'=some (v,τ')/\Mv G A σ σ' τ τ':=by
 unfold Qv at a ⊢;rw[h.eq r c];split at a
 . rename_i b k rows f;split at a
   . rename_i t e;cases a;refine⟨_,rfl,h.kup c d (XB p e (h.ri r c) ?_)⟩;cases b<;>simp
   . cases a
 . cases a
theorem tkL_loc (c:List AV):∀{σ σ' τ:Sg} {l:List AV},Ag G A σ σ'->(∀r p,AV.al r p∈c->A r/\∀x∈G.Oj r,A x)->lU G c σ=some (l,τ)->∃τ',lU G c σ'=some (l,τ')/\Mv G A σ σ' τ τ':=by
 induction c with
 |nil=>intro σ σ' τ l h _ b;simp only[lU,AAh,AAv]at b ⊢;obtain⟨rfl,rfl⟩:=b;exact⟨σ',⟨rfl,rfl⟩,.refl h⟩
 |cons a c ih=>
  intro σ σ' τ l h m b;have k:∀r p,AV.al r p∈c->A r/\∀x∈G.Oj r,A x:=λr p v=>m r p (by simp[v]);have d:(∀r p,a≠ .al r p)->∃τ',lU G (a::c) σ'=some (l,τ')/\Mv G A σ σ' τ τ':=by
   intro i;have e:∀σ,lU G (a::c) σ=if Fj a=true then(match lU G c σ with|some (l,τ)=>some (a::l,τ)|none=>none)else none:=by intro σ;cases a<;>first|rfl|exact absurd rfl (i _ _)
   rw[e]at b ⊢;split at b
   . rename_i o;rw[AAs o];split at b
     . rename_i l' j g;cases b;obtain⟨τ',f,g2⟩:=ih h k g;exact⟨τ',by rw[f],g2⟩
     . cases b
   . cases b
  cases a with
  |al r p=>
   obtain⟨w,u⟩:=m r p (by simp);simp only[lU]at b ⊢;split at b
   . rename_i n j g;obtain⟨B,f,g2⟩:=XD h w u g;rw[f];simp only;split at b
     . rename_i l' z t;cases b;obtain⟨y,q,s⟩:=ih g2.ag k t;exact⟨y,by rw[q],g2.trans s⟩
     . cases b
   . cases b
  |_=>exact d (by simp)
theorem QP (h:Ag G A σ σ') {x:Ar} {v:AV} (u:p9 G A x) (d:tk G x σ=some (v,τ)):∃τ',tk G x σ'=some (v,τ')/\Mv G A σ σ' τ τ':=by
 cases x with
 |c a=>simp only[tk,AAh,AAv]at d ⊢;obtain⟨rfl,rfl⟩:=d;exact⟨σ',⟨rfl,rfl⟩,.refl h⟩
 |t s=>
  have e:Cl G A s:=u;have q:=h.eq s e.own;have f:=h.ri s e.own;simp only[tk]at d ⊢;rw[q];cases hv:σ s with
  |al r p=>rw[hv]at d f;simp only[KU,AA3]at f;obtain⟨g,o⟩:=e.rt r f;exact XD h g o d
  |own b k rows=>rw[hv]at d;cases d;exact⟨_,rfl,h.kup e.own e.Oj (by simp)⟩
  |agg cs=>
   rw[hv]at d f;simp only at d ⊢;split at d
   . rename_i i;cases d;rw[AAs i];exact⟨σ',rfl,.refl h⟩
   . rename_i i;rw[AAp i];split at d
     . rename_i l w g;cases d;have m:=h.kup (t:=.dead) e.own e.Oj (by simp);obtain⟨τ',n,g2⟩:=tkL_loc cs m.ag (by
        intro r p j;rw[KT,AAm]at f
        have:=f _ j;simp only[KU,AA3]at this;exact e.rt r this) g
       exact⟨τ',by rw[n],m.trans g2⟩
     . cases d
  |sc=>rw[hv]at d;cases d;exact⟨σ',rfl,.refl h⟩
  |sl=>rw[hv]at d;cases d;exact⟨σ',rfl,.refl h⟩
  |K2=>rw[hv]at d;cases d;exact⟨σ',rfl,.refl h⟩
  |fp=>rw[hv]at d;cases d;exact⟨σ',rfl,.refl h⟩
  |_=>rw[hv]at d;cases d
theorem p5 (c:List Ar):∀{σ σ' τ:Sg} {l:List AV},Ag G A σ σ'->(∀x∈c,p9 G A x)->NW G c σ=some (l,τ)->∃τ',NW G c σ'=some (l,τ')/\Mv G A σ σ' τ τ':=by
 induction c with
 |nil=>intro σ σ' τ l h _ b;simp only[NW,AAh,AAv]at b ⊢;obtain⟨rfl,rfl⟩:=b;exact⟨σ',⟨rfl,rfl⟩,.refl h⟩
 |cons x c ih=>
  intro σ σ' τ l h d b;simp only[NW]at b ⊢;split at b
  . rename_i a n i;obtain⟨p,e,g2⟩:=QP h (d x (by simp)) i;rw[e];simp only;split at b
    . rename_i l' o j;cases b;obtain⟨m,f,g⟩:=ih g2.ag (λy k=>d y (by simp[k])) j;exact⟨m,by rw[f],g2.trans g⟩
    . cases b
  . cases b
theorem x5 (c:List Ar):∀{σ σ' τ:Sg} {l:List AV},Ag G A σ σ'->(∀x∈c,p9 G A x)->Ri G c σ=some (l,τ)->∃τ',Ri G c σ'=some (l,τ')/\Mv G A σ σ' τ τ':=by
 induction c with
 |nil=>intro σ σ' τ l h _ b;simp only[Ri,AAh,AAv]at b ⊢;obtain⟨rfl,rfl⟩:=b;exact⟨σ',⟨rfl,rfl⟩,.refl h⟩
 |cons x c ih=>
  intro σ σ' τ l h d b;simp only[Ri]at b ⊢;split at b
  . rename_i a n i;obtain⟨p,e,g2⟩:=QP h (d x (by simp)) i;rw[e];simp only;split at b
    . rename_i l' o j;cases b;obtain⟨m,f,g⟩:=ih g2.ag (λy k=>d y (by simp[k])) j;exact⟨m,by rw[f],g2.trans g⟩
    . cases b
  . cases b
theorem AAc (c:List (Nat×Nat×Ar)):∀{σ σ' τ:Sg} {d l:List AV},Ag G A σ σ'->(∀p∈c,p9 G A p.2.2)->Vx G c d σ=some (l,τ)->∃τ',Vx G c d σ'=some (l,τ')/\Mv G A σ σ' τ τ':=by
 induction c with
 |nil=>intro σ σ' τ d l h _ b;simp only[Vx,AAh,AAv]at b ⊢;obtain⟨rfl,rfl⟩:=b;exact⟨σ',⟨rfl,rfl⟩,.refl h⟩
 |cons p c ih=>
  obtain⟨off,n,x⟩:=p;intro σ σ' τ d l h e b;simp only[Vx]at b ⊢;split at b
  . rename_i a q j;obtain⟨r,f,g2⟩:=QP h (e _ (ABj ..)) j;rw[f];simp only;split at b
    . rename_i k;rw[AAs k];obtain⟨o,g,i⟩:=ih g2.ag (λy m=>e y (by simp[m])) b;exact⟨o,g,g2.trans i⟩
    . cases b
  . cases b
theorem AAe (k:Nat) (c:List (Nat×Ar)):∀{σ σ' τ:Sg} {d l:List (List AV)},Ag G A σ σ'->(∀p∈c,p9 G A p.2)->Vy G k c d σ=some (l,τ)->∃τ',Vy G k c d σ'=some (l,τ')/\Mv G A σ σ' τ τ':=by
 induction c with
 |nil=>intro σ σ' τ d l h _ b;simp only[Vy,AAh,AAv]at b ⊢;obtain⟨rfl,rfl⟩:=b;exact⟨σ',⟨rfl,rfl⟩,.refl h⟩
 |cons p c ih=>
  obtain⟨i,x⟩:=p;intro σ σ' τ d l h e b;simp only[Vy]at b ⊢;split at b
  . rename_i a r m;obtain⟨s,f,g2⟩:=QP h (e _ (ABj ..)) m;rw[f];simp only;split at b
    . rename_i n;rw[AAs n];obtain⟨q,g,j⟩:=ih g2.ag (λy o=>e y (by simp[o])) b;exact⟨q,g,g2.trans j⟩
    . cases b
  . cases b
theorem AAA {k:Nat} {y:Ar} {rows:List (List AV)} (h:Ag G A σ σ') (q:p9 G A y) (d:XV G k y σ=some (rows,τ)):∃τ',XV G k y σ'=some (rows,τ')/\Mv G A σ σ' τ τ':=by
 cases y with
 |c a=>
  simp only[XV]at d ⊢;split at d
  . cases d;exact⟨σ',rfl,.refl h⟩
  . cases d
 |t s=>
  have f:Cl G A s:=q;have o:=h.eq s f.own;have i:=h.ri s f.own;simp only[XV]at d ⊢;rw[o];cases hv:σ s with
  |own b k' rows'=>
   rw[hv]at d;cases b with
   |true=>cases d
   |false=>
    simp only at d ⊢;split at d
    . rename_i g;cases d;rw[AAs g];exact⟨_,rfl,h.kup f.own f.Oj (by simp)⟩
    . cases d
  |sl e k' rows'=>
   rw[hv]at d;simp only at d ⊢;split at d
   . rename_i g;cases d;rw[AAs g];exact⟨_,rfl,.refl h⟩
   . cases d
  |al r p=>
   rw[hv]at d i;simp only[KU,AA3]at i;obtain⟨l,m⟩:=f.rt r i;simp only at d ⊢;split at d
   . rename_i n;obtain⟨u,j,g2⟩:=TN h l m n;rw[j];simp only;split at d
     . rename_i g;cases d;rw[AAs g];exact⟨_,rfl,g2⟩
     . cases d
   . cases d
  |_=>rw[hv]at d;cases d
theorem gN {k:Nat} {x:Ar} {v:AV} (h:Ag G A σ σ') (q:p9 G A x) (d:Vu G k x σ=some (v,τ)):∃τ',Vu G k x σ'=some (v,τ')/\Mv G A σ σ' τ τ':=by
 cases x with
 |c a=>
  simp only[Vu]at d ⊢;split at d
  . cases d;exact⟨σ',rfl,.refl h⟩
  . cases d
 |t s=>
  have f:Cl G A s:=q;have o:=h.eq s f.own;have i:=h.ri s f.own;simp only[Vu]at d ⊢;rw[o];cases hv:σ s with
  |own b k' rows'=>
   rw[hv]at d;cases b with
   |true=>cases d
   |false=>
    simp only at d ⊢;split at d
    . rename_i g;cases d;rw[AAs g];exact⟨_,rfl,h.kup f.own f.Oj (by simp)⟩
    . cases d
  |sl e k' rows'=>
   rw[hv]at d;cases e with
   |false=>cases d
   |true=>
    simp only at d ⊢;split at d
    . rename_i g;cases d;rw[AAs g];exact⟨_,rfl,.refl h⟩
    . cases d
  |al r p=>
   rw[hv]at d i;simp only[KU,AA3]at i;obtain⟨l,m⟩:=f.rt r i;simp only at d ⊢;split at d
   . rename_i n;obtain⟨u,j,g2⟩:=XD h l m n;rw[j];simp only;split at d
     . rename_i g;cases d;rw[AAs g];exact⟨_,rfl,g2⟩
     . cases d
   . cases d
  |_=>rw[hv]at d;cases d
end Go.Abs
namespace Go.Abs
variable {G:Gi} {A:Nat->Prop} {σ σ' τ τ':Sg} {P:Program}
def Vq (G:Gi) (A:Nat->Prop):Ar->Prop
 | .t s=>A s/\∀r∈G.HI s,A r
 | .c a=>F9 [] a=true
theorem Cl.look {s:Nat} (h:Cl G A s):Vq G A (.t s):=⟨h.own,λr a=>(h.rt r a).1⟩
theorem p9.look {x:Ar} (h:p9 G A x):Vq G A x:=by
 cases x with
 |t s=>exact Cl.look h
 |c=>exact h
theorem Ag.ar (h:Ag G A σ σ') {x:Ar} (a:Vq G A x):ar σ' x=ar σ x:=by
 cases x with
 |t s=>exact h.eq s a.1
 |c=>rfl
theorem Ag.root (h:Ag G A σ σ') {s r:Nat} {p:List Step} (a:Vq G A (.t s)) (b:σ s= .al r p):A r:=by have:=h.ri s a.1;rw[b]at this;simp only[KU,AA3]at this;exact a.2 r this
theorem Ag.rootAdr (h:Ag G A σ σ') {s r:Nat} {p:List Step} {i j k:Nat} (a:Vq G A (.t s)) (b:σ s= .K2 r p i j k):A r:=by have:=h.ri s a.1;rw[b]at this;simp only[XA,AA3]at this;exact a.2 r this
theorem Ag.hd (h:Ag G A σ σ') {x:Ar} (a:Vq G A x):hd σ' x=hd σ x:=by
 cases x with
 |c=>rfl
 |t s=>
  unfold Abs.hd;simp only;rw[h.eq s a.1];cases hs:σ s with
  |al r p=>simp only;rw[h.eq r (h.root a hs)]
  |_=>rfl
theorem Ag.EL (h:Ag G A σ σ') {x:Ar} (a:Vq G A x):EL σ' x=EL σ x:=by
 cases x with
 |c=>rfl
 |t s=>
  unfold Abs.EL;simp only;rw[h.eq s a.1];cases hs:σ s with
  |al r p=>simp only;rw[h.eq r (h.root a hs)]
  |own b k rows=>cases b<;>rfl
  |_=>rfl
theorem Ag.N9 (h:Ag G A σ σ') {x:Ar} (d:Vq G A x) {r:Nat} {p:List Step} {i j k:Nat} (a:Abs.EL σ x=some (r,p,i,j,k)):A r:=by
 cases x with
 |c=>cases a
 |t s=>
  unfold Abs.EL at a;simp only at a;cases hs:σ s with
  |al r' p'=>
   rw[hs]at a;simp only at a;split at a
   . cases a;exact h.root d hs
   . cases a
  |K2 r' p' i' j' k'=>rw[hs]at a;cases a;exact h.rootAdr d hs
  |own b k' rows=>rw[hs]at a;cases b<;>cases a;exact d.1
  |_=>rw[hs]at a;cases a
theorem Ag.Nt (h:Ag G A σ σ') {x:AB8 Ar} (a:∀y,x=some y->Vq G A y) (d:Nat):Nt σ' x d=Nt σ x d:=by
 cases x with
 |none=>rfl
 |some y=>simp only[Abs.Nt];rw[h.ar (a y rfl)]
theorem Ag.zA (h:Ag G A σ σ') {x:AB8 Ar} (a:∀y,x=some y->Vq G A y) (d:Nat):zA σ' x d=zA σ x d:=by
 cases x with
 |none=>rfl
 |some y=>simp only[Abs.zA];rw[h.Nt a]
def reads:ZR->List Ar
 | .cp x=>[x]
 | .pick c a b=>[c,a,b]
 | .ld _ _ a=>[a]
 | .VK _ x=>[x]
 | .fld _ _ _ x=>[x]
 | .W4 _ x i=>[x,i]
 | .aad _ _ x i=>[x,i]
 | .idx _ _ _ x i=>[x,i]
 | .bin _ x y=>[x,y]
 | .beq _ x y=>[x,y]
 | .un _ x=>[x]
 | .cvt _ x=>[x]
 | .mm _ x y=>[x,y]
 | .len x=>[x]
 | .Z6 x=>[x]
 | .lE x i=>[x,i]
 | .Wf _ _ x y=>[x,y]
 | .ext x _=>[x]
 | .flk x _=>[x]
 | .mk _ _ _ l c=>[l,c]
 | .KK x=>[x]
 | .std x=>[x]
 | .mkf _ xs=>xs
 | .YO a=>[a]
 | .jM r _ _ _ i=>[.t r,i]
 | .zC _ _ _ lo hi mx=>lo.toList++hi.toList++mx.toList
 | .call _ args m=>if m=1∨m=3∨m=4 then[]else args
 | .VW _ pre _ _ post=>pre++post
 |_=>[]
def takes:ZR->List Ar
 | .mv x=>[x]
 | .fz x=>[x]
 | .bx _ x=>[x]
 | .Uc _ ps=>ps.map (·.2.2)
 | .Na _ _ ps=>ps.map (·.2)
 | .st _ a v=>[a,v]
 | .XC a v=>[a,v]
 | .app _ _ x y=>[x,y]
 | .zC _ _ x _ _ _=>[x]
 | .call _ args m=>if m=1∨m=3∨m=4 then args else[]
 | .VW _ _ x _ _=>[x]
 |_=>[]
theorem Ag.valOf (h:Ag G A σ σ') (o:ZR) (d:∀x∈reads o,Vq G A x):valOf o σ'=valOf o σ:=by
 cases o with
 |cp x=>
  cases x with
  |c=>rfl
  |t s=>simp only[Abs.valOf];rw[h.eq s (d (.t s) (by simp[reads])).1]
 |pick c a b=>
  have g:=h.ar (d c (by simp[reads]));have m:=h.ar (d a (by simp[reads]));have w:=h.ar (d b (by simp[reads]));simp only[Abs.valOf];rw[g];cases Abs.ar σ c with
  |sc v=>
   cases v with
   |bool x=>cases x<;>simp[m,w]
   |_=>rfl
  |_=>rfl
 |ld agg n a=>
  cases a with
  |c=>rfl
  |t s=>
   have e:=d (.t s) (by simp[reads]);simp only[Abs.valOf];rw[h.eq s e.1];cases hs:σ s with
   |fp=>rfl
   |vb q o us=>have z:A q:=(by have:=h.ri s e.1;rw[hs]at this;simp only[rin_vb,AA3]at this;exact e.2 q this);simp only;rw[h.eq q z]
   |_=>
    simp only;rw[h.EL e];cases ha:Abs.EL σ (.t s)with
    |none=>rfl
    |some q=>obtain⟨r,p,i,j,k⟩:=q;simp only;rw[h.eq r (h.N9 e ha)]
 |VK off x=>
  cases x with
  |c=>rfl
  |t s=>have e:=d (.t s) (by simp[reads]);simp only[Abs.valOf];rw[h.eq s e.1,h.EL e]
 |fld agg off n x=>
  cases x with
  |c=>rfl
  |t s=>have e:=d (.t s) (by simp[reads]);simp only[Abs.valOf];rw[h.eq s e.1]
 |W4 k x i=>simp only[Abs.valOf];rw[h.hd (d x (by simp[reads])),h.ar (d i (by simp[reads]))]
 |aad len k x i=>
  cases x with
  |c=>rfl
  |t s=>
   have e:=d (.t s) (by simp[reads]);simp only[Abs.valOf];rw[h.ar (d i (by simp[reads]))];cases mP (Abs.ar σ i)with
   |none=>rfl
   |some n=>simp only;rw[h.eq s e.1,h.EL e]
 |idx agg len k x i=>
  cases x with
  |c=>rfl
  |t s=>
   have e:=d (.t s) (by simp[reads]);simp only[Abs.valOf];rw[h.ar (d i (by simp[reads]))];cases mP (Abs.ar σ i)with
   |none=>rfl
   |some n=>simp only;rw[h.eq s e.1]
 |bin op x y=>simp only[Abs.valOf];rw[h.ar (d x (by simp[reads])),h.ar (d y (by simp[reads]))]
 |beq op x y=>simp only[Abs.valOf];rw[h.ar (d x (by simp[reads])),h.ar (d y (by simp[reads]))]
 |un op x=>simp only[Abs.valOf];rw[h.ar (d x (by simp[reads]))]
 |cvt op x=>simp only[Abs.valOf];rw[h.ar (d x (by simp[reads]))]
 |mm mx x y=>simp only[Abs.valOf];rw[h.ar (d x (by simp[reads])),h.ar (d y (by simp[reads]))]
 |len x=>simp only[Abs.valOf];rw[h.hd (d x (by simp[reads]))]
 |Z6 x=>simp only[Abs.valOf];rw[h.ar (d x (by simp[reads]))]
 |Wf neg kd x y=>simp only[Abs.valOf];rw[h.ar (d x (by simp[reads])),h.ar (d y (by simp[reads]))]
 |lE x y=>simp only[Abs.valOf];rw[h.ar (d x (by simp[reads])),h.ar (d y (by simp[reads]))]
 |ext x i=>
  cases x with
  |c=>rfl
  |t s=>simp only[Abs.valOf];rw[h.eq s (d (.t s) (by simp[reads])).1]
 |mkf f xs=>
  have key:∀l:List Ar,(∀x∈l,Vq G A x)->S7 σ' l=S7 σ l:=by
   intro l;induction l with
   |nil=>intro _;rfl
   |cons x l ih=>
    intro e;have g:=e x (by simp);have m:=ih λy B=>e y (by simp[B]);cases x with
    |c=>rfl
    |t s=>
     simp only[S7];rw[h.eq s g.1,m];cases hs:σ s with
     |al r p=>cases S7 σ l<;>first|rfl| (simp only;rw[h.eq r (h.root g hs)])
     |own b k rows=>cases b<;>cases S7 σ l<;>rfl
     |_=>cases S7 σ l<;>rfl
  simp only[Abs.valOf];rw[key xs (λx u=>d x (by simpa[reads]using u))]
 |fl=>rfl
 |flk x i=>
  cases x with
  |c=>rfl
  |t s=>simp only[Abs.valOf];rw[h.eq s (d (.t s) (by simp[reads])).1]
 |jM r off kb k i=>simp only[Abs.valOf];rw[h.eq r (d (.t r) (by simp[reads])).1,h.ar (d i (by simp[reads]))]
 |YO a=>
  have e:=d a (by simp[reads]);simp only[Abs.valOf];rw[h.EL e];cases ha:Abs.EL σ a with
  |none=>rfl
  |some q=>obtain⟨r,p,i,j,k⟩:=q;simp only;rw[h.eq r (h.N9 e ha)]
 |KK x=>
  have e:=d x (by simp[reads]);simp only[Abs.valOf];rw[h.ar e];cases x with
  |c a=>
   cases a with
   |al r p=>simp[Vq]at e
   |own b k rows=>cases b<;>rfl
   |_=>rfl
  |t s=>
   simp only[Abs.ar];cases hs:σ s with
   |al r p=>simp only;rw[h.eq r (h.root e hs)]
   |own b k rows=>cases b<;>rfl
   |_=>rfl
 |_=>rfl
variable {W:Nat->Prop}
theorem Tb (kl:List Nat) (d:Nat) (σ:Sg) (s:Nat):Js kl d σ s=if s∈kl then Dg d (σ s)else σ s:=by cases kl<;>simp[Js]
theorem Ag.mono {R:Nat->Prop} (h:Ag G R σ σ') (b:∀s,A s->R s):Ag G A σ σ':=⟨λs a=>h.eq s (b s a),λs a=>h.ri s (b s a)⟩
theorem Mv.wr {d:Dn} {v:AV} {g:Sg} (h:Mv G W σ σ' τ τ') (hd:W d.d/\d.rs=G.HI d.d) (k:∀x∈d.kl,W x) (c:wr d v τ=some g):∃b,wr d v τ'=some b/\Mv G W σ σ' g b:=by
 unfold Abs.wr at c ⊢;split at c
 . rename_i f;cases c;rw[AAs f];refine⟨_,rfl,⟨λs a=> ?_,λs a=> ?_⟩,λs a=> ?_⟩
   . simp only[DZ,Tb,h.ag.eq s a]
   . simp only[DZ,Tb];split
     . rename_i e;subst e;rw[← hd.2];exact f
     . split
       . exact OW _ _ _ (h.ag.ri s a)
       . exact h.ag.ri s a
   . have i:s≠d.d:=λe=>a (e▸hd.1);have j:s∉d.kl:=λe=>a (k s e);simp only[DZ,i,AAx,Tb,j];exact h.off s a
 . cases c
theorem sD {L:List Nat} (p:List Step) (i k:Nat) (a:List AV):∀{j:Nat} {t b:AV},stC p i k j a t=some b->F9 L t=true->a.all Fj=true->F9 L b=true:=by
 induction a with
 |nil=>intro j t b h e _;simp only[stC,AAh]at h;subst h;exact e
 |cons c a ih=>
  intro j t b h e d;simp only[ABW,AAi]at d;simp only[stC]at h;split at h
  . rename_i g f;exact ih h (XB _ f e (gY d.1)) d.2
  . cases h
def HasD (G:Gi) (W:Nat->Prop) (d:AB8 Dn):Prop:=∀x,d=some x->(W x.d/\x.rs=G.HI x.d)/\∀y∈x.kl,W y
theorem eff_loc {R:Nat->Prop} (h:Ag G R σ σ') (hWR:∀s,W s->R s) {o:ZR} {d:AB8 Dn} (L:∀x∈takes o,p9 G W x) (Q:∀x∈reads o,Vq G R x) (hd:HasD G W d) (f:Gn G o d σ=some τ):
 ∃τ',Gn G o d σ'=some τ'/\Mv G W σ σ' τ τ':=by
 have g:Ag G W σ σ':=h.mono hWR;have val:∀S,d=some S->(match Abs.valOf o σ with|some v=>Abs.wr S v σ|none=>none)=some τ->∃τ',(match Abs.valOf o σ' with|some v=>Abs.wr S v σ'|none=>none)=some τ'/\Mv G W σ σ' τ τ':=by
  intro S Su f;rw[h.valOf o Q];cases hv:Abs.valOf o σ with
  |none=>rw[hv]at f;cases f
  |some v=>rw[hv]at f;exact(Mv.refl g).wr (hd S Su).1 (hd S Su).2 f
 cases d with
 |none=>
  cases o with
  |st n a v=>
   simp only[Gn]at f ⊢;split at f
   . rename_i x w B;obtain⟨M,C,g2⟩:=QP g (L v (by simp[takes])) B;rw[C];simp only;have O:=(L a (by simp[takes])).look;rw[g2.ag.EL O];split at f
     . rename_i r p i j k D;have P:W r:=g2.ag.N9 O D;have T:∀x∈G.Oj r,W x:=by
        have Jw:=L a (by simp[takes]);cases a with
        |c=>cases D
        |t s=>
         have E:Cl G W s:=Jw;simp only[Abs.EL]at D;have H:=g2.ag.ri s E.own;cases hs:w s with
         |al r' p'=>
          rw[hs]at D H;simp only at D;simp only[KU,AA3]at H;split at D
          . cases D;exact(E.rt _ H).2
          . cases D
         |K2 r' p' i' j' Z=>rw[hs]at D H;cases D;simp only[XA,AA3]at H;exact(E.rt _ H).2
         |own b Z rows=>rw[hs]at D;cases b<;>cases D;exact E.Oj
         |_=>rw[hs]at D;cases D
       rw[g2.ag.eq r P];split at f
       . rename_i b0 k0 rows Bx;split at f
         . rename_i row D1;split at f
           . rename_i K;rw[AAs K];split at f
             . rename_i t CJ;have Zl:F9 (G.HI r) t=true:=sD p i k _ CJ (g2.ag.ri r P) K.2.1;split at f
               . rename_i V;cases f;rw[AAs V];exact⟨_,rfl,(g2.trans (g2.ag.up P Zl))⟩
               . rename_i V;cases f;rw[AAp V];exact⟨_,rfl,(g2.trans (g2.ag.kup P T Zl))⟩
             . cases f
           . cases f
         . cases f
       . cases f
     . cases f
   . cases f
  |XC a v=>
   have O:=(L a (by simp[takes])).look;simp only[Gn]at f ⊢;rw[g.ar (L v (by simp[takes])).look,g.EL O];split at f
   . rename_i u hu;split at f
     . rename_i r p i j k D;have P:W r:=g.N9 O D;rw[g.eq r P];split at f
       . rename_i b0 k0 rows Bx;split at f
         . rename_i row D1;split at f
           . rename_i u0 hc0;split at f
             . rename_i t CJ;have Zl:F9 (G.HI r) t=true:=sD p i k [.sc u] (j:=j) (by simp only[stC];rw[CJ]) (g.ri r P) (by simp[Fj]);cases f;exact⟨_,rfl,g.up P Zl⟩
             . cases f
           . cases f
         . cases f
       . cases f
     . cases f
   . cases f
  |std a=>
   simp only[Gn]at f ⊢;have O:=Q a (by simp[reads]);rw[h.EL O];split at f
   . rename_i r p i j k D;rw[h.eq r (h.N9 O D)];split at f
     . cases f;exact⟨σ',rfl,Mv.refl g⟩
     . cases f
   . cases f
  |_=>simp[Gn]at f
 |some d=>
  obtain⟨J,I⟩:=hd d rfl;cases o with
  |mv x=>
   simp only[Gn]at f ⊢;split at f
   . rename_i v w B;obtain⟨M,C,g2⟩:=QP g (L x (by simp[takes])) B;rw[C];exact g2.wr J I f
   . cases f
  |fz x=>
   cases x with
   |c=>simp[Gn]at f
   |t s=>
    have E:Cl G W s:=L (.t s) (by simp[takes]);have H:=g.ri s E.own;simp only[Gn]at f ⊢;rw[g.eq s E.own];cases hs:σ s with
    |al r p=>
     rw[hs]at f H;simp only[KU,AA3]at H;simp only at f ⊢;split at f
     . rename_i v w B;obtain⟨M,C,g2⟩:=TN g (E.rt r H).1 (E.rt r H).2 B;rw[C];exact g2.wr J I f
     . cases f
    |own b k rows=>
     rw[hs]at f;simp only at f ⊢;split at f
     . rename_i v w B;obtain⟨M,C,g2⟩:=TN g E.own E.Oj B;rw[C];exact g2.wr J I f
     . cases f
    |sc v=>rw[hs]at f;exact(Mv.refl g).wr J I f
    |sl e k rows=>rw[hs]at f;exact(Mv.refl g).wr J I f
    |_=>rw[hs]at f;cases f
  |bx n x=>
   simp only[Gn]at f ⊢;split at f
   . rename_i v w B;obtain⟨M,C,g2⟩:=QP g (L x (by simp[takes])) B;rw[C];simp only;split at f
     . rename_i K;rw[AAs K];exact g2.wr J I f
     . cases f
   . cases f
  |Uc z ps=>
   simp only[Gn]at f ⊢;split at f
   . rename_i v w B;obtain⟨M,C,g2⟩:=AAc ps g (λp hp=>L _ (by simp only[takes,AB0];exact⟨p,hp,rfl⟩)) B;rw[C];exact g2.wr J I f
   . cases f
  |Na k z ps=>
   simp only[Gn]at f ⊢;split at f
   . rename_i v w B;obtain⟨M,C,g2⟩:=AAe k ps g (λp hp=>L _ (by simp only[takes,AB0];exact⟨p,hp,rfl⟩)) B;rw[C];exact g2.wr J I f
   . cases f
  |mk k bytes z l c=>
   simp only[Gn]at f ⊢;rw[h.ar (Q l (by simp[reads])),h.ar (Q c (by simp[reads]))];split at f
   . rename_i l' c' B N;split at f
     . rename_i K;rw[AAs K];exact(Mv.refl g).wr J I f
     . cases f
   . cases f
  |zC k fr x lo hi mx=>
   have U:=L x (by simp[takes]);have hlo:∀y,lo=some y->Vq G R y:=λy X=>Q y (by simp[reads,X]);have hhi:∀y,hi=some y->Vq G R y:=λy X=>Q y (by simp[reads,X]);have hmx:∀y,mx=some y->Vq G R y:=λy X=>Q y (by simp[reads,X]);simp only[Gn]at f ⊢;rw[g.hd U.look];have eo:∀d,Abs.Nt σ' lo d=Abs.Nt σ lo d:=h.Nt hlo;have eh:∀d,Abs.Nt σ' hi d=Abs.Nt σ hi d:=h.Nt hhi;have em:∀d,Abs.zA σ' mx d=Abs.zA σ mx d:=h.zA hmx;simp only[eo,eh,em];split at f
   . rename_i e Z rows q F
     try rw[F]
     try simp only
     split at f
     . rename_i l hh B N
       try rw[B,N]
       try simp only
       split at f
       . rename_i rs m h3 h4
         try rw[h3,h4]
         try simp only
         split at f
         . rename_i K;rw[AAs K];exact(Mv.refl g).wr J I f
         . cases f
       . cases f
     . cases f
   . rename_i Z rows r p F;have VS:W r/\∀x∈G.Oj r,W x:=by
      cases x with
      |c a=>cases a<;>cases F
      |t s=>
       have E:Cl G W s:=U;have H:=g.ri s E.own;simp only[Abs.hd]at F;cases hs:σ s with
       |al r' p'=>
        rw[hs]at F H;simp only[KU,AA3]at H;simp only at F;split at F
        . cases F;exact E.rt _ H
        . cases F
       |own b k rows=>rw[hs]at F;cases F;exact⟨E.own,E.Oj⟩
       |sl=>rw[hs]at F;cases F
       |_=>rw[hs]at F;cases F
     try rw[F]
     try simp only
     split at f
     . rename_i l hh B N
       try rw[B,N]
       try simp only
       split at f
       . rename_i rs m h3 h4
         try rw[h3,h4]
         try simp only
         split at f
         . rename_i K;rw[AAs K];split at f
           . rename_i hf;rw[AAs hf];split at f
             . rename_i v w h5;obtain⟨M,C,g2⟩:=TN g VS.1 VS.2 h5;rw[C];exact g2.wr J I f
             . cases f
           . rename_i hf;rw[AAp hf];split at f
             . rename_i V;rw[AAs V];split at f
               . rename_i v w h5;obtain⟨M,C,g2⟩:=XD g VS.1 VS.2 h5;rw[C];exact g2.wr J I f
               . cases f
             . cases f
         . cases f
       . cases f
     . cases f
   . cases f
  |app k bytes x y=>
   simp only[Gn]at f ⊢;split at f
   . rename_i ys w B;obtain⟨M,C,g2⟩:=AAA g (L y (by simp[takes])) B;rw[C];simp only;split at f
     . rename_i b Z rows τ2 N;obtain⟨yF,g3,g4⟩:=gN g2.ag (L x (by simp[takes])) N;rw[g3];simp only;split at f
       . rename_i K;rw[AAs K];exact(g2.trans g4).wr J I f
       . cases f
     . rename_i e Z rows τ2 N;obtain⟨yF,g3,g4⟩:=gN g2.ag (L x (by simp[takes])) N;rw[g3];simp only;split at f
       . rename_i hq;rw[AAs hq];exact(g2.trans g4).wr J I f
       . rename_i hq;rw[AAp hq];split at f
         . rename_i K;rw[AAs K];exact(g2.trans g4).wr J I f
         . cases f
     . cases f
   . cases f
  |st=>simp[Gn,Abs.valOf]at f
  |call=>simp[Gn,Abs.valOf]at f
  |bad=>simp[Gn,Abs.valOf]at f
  |_=>exact val d rfl f
end Go.Abs
namespace Go.Abs
variable {G:Gi} {A:Nat->Prop} {σ σ' τ τ':Sg} {P:Program}
theorem Oc {d:AB8 Dn} {v:AV} {K:Sg->Prop} {τ:Sg}:C3 d v K τ↔∃a,C3 d v (· =a) τ/\K a:=by
 cases d with
 |none=>simp[C3]
 |some d=>simp only[C3];split<;>simp
theorem aM {o:BN} {K:Sg->Prop}:EK P G o K σ↔∃τ,EK P G o (· =τ) σ/\K τ:=by
 unfold EK;split
 . split
   . constructor
     . rintro⟨a,c,b⟩;split at b
       . obtain⟨e,g,g2⟩:=Oc.1 b;rename_i v i;exact⟨e,⟨a,c,by rw[i];exact g⟩,g2⟩
       . exact b.elim
     . rintro⟨e,⟨a,c,b⟩,f⟩;refine⟨a,c,?_⟩;split at b
       . rename_i v i;exact Oc.2 ⟨e,b,f⟩
       . exact b.elim
   . simp
 . split
   . split
     . constructor
       . rintro⟨a,out,u,c,b,f,h,d⟩;split at d
         . obtain⟨e,g,g2⟩:=Oc.1 d;rename_i t k;exact⟨e,⟨a,out,u,c,b,f,h,by rw[k];exact g⟩,g2⟩
         . exact d.elim
       . rintro⟨e,⟨a,out,u,c,b,f,h,d⟩,j⟩;refine⟨a,out,u,c,b,f,h,?_⟩;split at d
         . exact Oc.2 ⟨e,d,j⟩
         . exact d.elim
     . simp
   . simp
 . split<;>simp
theorem PW {o:BN} {K:Sg->Prop}:K3 P G o K σ↔∃τ,K3 P G o (· =τ) σ/\K τ:=by
 unfold K3;split
 . exact aM
 . split
   . split
     . exact aM
     . split<;>simp
   . split<;>simp
   . simp
theorem Rm (a:List BN):∀{σ:Sg} {K:Sg->Prop},OA P G a K σ->∃q:Nat->Sg,q 0=σ/\(∀i io,a[i]? =some io->K3 P G io (· =q (i+1)) (q i))/\K (q a.length):=by
 induction a with
 |nil=>intro σ K h;exact⟨λ_=>σ,rfl,by simp,h⟩
 |cons o os ih=>
  intro σ K h;obtain⟨τ,d,e⟩:=PW.1 h;obtain⟨q,b,g2,c⟩:=ih e;refine⟨λi=>match i with|0=>σ|i+1=>q i,rfl,?_,c⟩
  intro i io hi;cases i with
  |zero=>simp only[ABO,AAh]at hi;subst hi;simp only[b];exact d
  |succ i=>simp only[ABT]at hi;exact g2 i io hi
theorem Ag.Tz (h:Ag G A σ σ') {a:AV} (c:∀r p,a= .al r p->A r):Tz σ' a=Tz σ a:=by
 cases a with
 |al r p=>simp only[Abs.Tz];rw[h.eq r (c r p rfl)]
 |own b k rows=>cases b<;>first|rfl| (match rows with|[]=>rfl|[_]=>rfl|_::_::_=>rfl)
 |_=>rfl
theorem Ag.zB (h:Ag G A σ σ') (b:List AV):(∀r p,AV.al r p∈b->A r)->zB σ' b=zB σ b:=by
 induction b with
 |nil=>intro _;rfl
 |cons a b ih=>intro c;simp only[Abs.zB];rw[h.Tz (a:=a) (λr p e=>c r p (by simp[e])),ih (λr p d=>c r p (by simp[d]))]
theorem Ag.kE (h:Ag G A σ σ') {x:Ar} (d:Vq G A x):kE σ' (Abs.ar σ' x)=kE σ (Abs.ar σ x):=by
 rw[h.ar d];cases x with
 |c a=>
  simp only[Abs.ar];cases a with
  |agg cs=>
   simp only[Abs.kE];rw[h.zB cs (λr p g=>by
    have f:F9 [] (.agg cs)=true:=d;rw[KT,AAm]at f
    have:=f _ g;simp at this)]
  |al r p=>have f:F9 [] (.al r p)=true:=d;simp at f
  |own b k rows=>cases b<;>first|rfl| (match rows with|[]=>rfl|[_]=>rfl|_::_::_=>rfl)
  |_=>rfl
 |t s=>
  simp only[Abs.ar];cases hs:σ s with
  |agg cs=>
   simp only[Abs.kE];rw[h.zB cs (λr p g=>by
    have:=h.ri s d.1;rw[hs,KT,AAm]at this
    have:=this _ g;simp only[KU,AA3]at this;exact d.2 r this)]
  |al r p=>simp only[Abs.kE];exact h.Tz (λi p' e=>by cases e;exact h.root d hs)
  |own b k rows=>cases b<;>first|rfl| (match rows with|[]=>rfl|[_]=>rfl|_::_::_=>rfl)
  |_=>rfl
theorem Ag.KM (h:Ag G A σ σ') (a:List Ar):(∀x∈a,Vq G A x)->KM σ' a=KM σ a:=by
 induction a with
 |nil=>intro _;rfl
 |cons x a ih=>intro b;simp only[Abs.KM];rw[h.kE (b x (by simp)),ih (λy c=>b y (by simp[c]))]
theorem Ag.Xc (h:Ag G A σ σ') (rs:List (Nat×List Step)):(∀x∈rs,A x.1)->Xc σ' rs=Xc σ rs:=by
 induction rs with
 |nil=>intro _;rfl
 |cons x rs ih=>obtain⟨r,p⟩:=x;intro b;simp only[Abs.Xc];rw[h.Tz (a:=.al r p) (λd p' e=>by cases e;exact b (r,p) (by simp)),ih (λy c=>b y (by simp[c]))]
theorem tkLk_loc (g:List Ar):∀{σ σ' τ:Sg} {b:List AV},Ag G A σ σ'->(∀x∈g,p9 G A x)->Wi G g σ=some (b,τ)->∃τ',Wi G g σ'=some (b,τ')/\Mv G A σ σ' τ τ':=by
 induction g with
 |nil=>intro σ σ' τ b _ _ a;simp[Wi]at a
 |cons y g ih=>
  intro σ σ' τ b h n a;have m:=n y (by simp);cases g with
  |nil=>
   simp only[Wi]at a ⊢;rw[h.ar m.look];split at a
   . rename_i f rs k;have d:∀x∈rs,A x.1:=by
      intro x i;cases y with
      |c c0=>simp only[Abs.ar]at k;subst k;have j:F9 [] (.cl f rs)=true:=m;simp only[pQ,AAm]at j;have:=j x i;simp at this
      |t s=>
       simp only[Abs.ar]at k;have e:Cl G A s:=m
       have:=h.ri s e.own;rw[k,pQ,AAm]at this;exact(e.rt x.1 (by simpa using this x i)).1
     rw[h.Xc rs d];split at a
     . rename_i E F;simp only[AAh,AAv]at a;obtain⟨rfl,rfl⟩:=a;exact⟨σ',rfl,Mv.refl h⟩
     . cases a
   . cases a
  |cons y2 g=>
   simp only[Wi]at a ⊢;split at a
   . rename_i v B u;obtain⟨D,p,g2⟩:=QP h m u;rw[p];simp only;split at a
     . rename_i l C w;simp only[AAh,AAv]at a;obtain⟨rfl,rfl⟩:=a;obtain⟨z,q,r⟩:=ih g2.ag (λx o=>n x (by simp[o])) w;rw[q];exact⟨z,rfl,g2.trans r⟩
     . cases a
   . cases a
theorem cM {W:Nat->Prop} {d:AB8 Dn} {v:AV} {c:Sg} (h:Mv G W σ σ' τ τ') (hd:HasD G W d) (b:C3 d v (· =c) τ):∃a,C3 d v (· =a) τ'/\Mv G W σ σ' c a:=by
 cases d with
 |none=>cases b;exact⟨τ',rfl,h⟩
 |some d=>
  simp only[C3]at b ⊢;split at b
  . rename_i x f;subst b;obtain⟨a,e,g2⟩:=h.wr (hd d rfl).1 (hd d rfl).2 f;exact⟨a,by rw[e],g2⟩
  . exact b.elim
theorem Ag.rdF (h:Ag G A σ σ') {x:Ar} (b:Vq G A x):rdF σ' x=rdF σ x:=by
 cases x with
 |c a=>rfl
 |t s=>simp only[Abs.rdF];rw[h.eq s b.1]
theorem Ag.NO (h:Ag G A σ σ') (a:List Ar):(∀x∈a,Vq G A x)->NO σ' a=NO σ a:=by
 induction a with
 |nil=>intro _;rfl
 |cons x a ih=>intro b;simp only[Abs.NO];rw[h.rdF (b x (by simp)),ih (λy c=>b y (by simp[c]))]
theorem Ag.P1 (h:Ag G A σ σ') {x:Ar} (l:p9 G A x) {c:AB8 Nat} {r:Nat} {p:List Step} (b:P1 σ x c=some (r,p)):P1 σ' x c=some (r,p)/\(∀n,Td σ' x c n=Td σ x c n)/\A r/\∀y∈G.Oj r,A y:=by
 cases x with
 |c a=>cases c<;>simp[Abs.P1,xD]at b
 |t s=>
  have d:Cl G A s:=l;have f:=h.ri s d.own;have e:σ' s=σ s:=h.eq s d.own;have i:Abs.P1 σ' (.t s) c=Abs.P1 σ (.t s) c:=by cases c<;>simp only[Abs.P1,xD,e]
  refine⟨by rw[i];exact b,λn=>by cases c<;>simp only[Td,Abs.ar,e],?_⟩;cases c with
  |none=>
   simp only[Abs.P1,xD]at b;split at b
   . rename_i m p' g;cases b;rw[g]at f;simp only[KU,AA3]at f;exact⟨(d.rt _ f).1,(d.rt _ f).2⟩
   . cases b;exact⟨d.own,d.Oj⟩
   . cases b
  |some j=>
   simp only[Abs.P1]at b;split at b
   . rename_i o g;rw[g]at f;split at b
     . rename_i m p' k;cases b
       have:=(by rw[KT,AAm]at f;exact f _ (AAu k):F9 (G.HI s) (.al r p)=true);simp only[KU,AA3]at this;exact⟨(d.rt _ this).1,(d.rt _ this).2⟩
     . cases b;exact⟨d.own,d.Oj⟩
     . cases b
   . cases b
theorem gR {R W:Nat->Prop} (h:Ag G R σ σ') (I:∀s,W s->R s) {o:BN} (z:∀x∈takes o.op,p9 G W x) (E:∀x∈reads o.op,Vq G R x) (hd:HasD G W o.dst) (a:EK P G o (· =τ) σ):
 ∃τ',EK P G o (· =τ') σ'/\Mv G W σ σ' τ τ':=by
 have j:Ag G W σ σ':=h.mono I;have B:∀op,o.op=op->(match Gn G op o.dst σ with|some K=>K=τ|none=>False)->∃τ',(match Gn G op o.dst σ' with|some K=>K=τ'|none=>False)/\Mv G W σ σ' τ τ':=by
  intro op n a;split at a
  . rename_i K hu;subst a;obtain⟨τ',i,g2⟩:=eff_loc h I (by rw[← n];exact z) (by rw[← n];exact E) hd hu;exact⟨τ',by rw[i],g2⟩
  . exact a.elim
 cases n:o.op with
 |call f args m=>
  unfold EK at a ⊢;rw[n]at a z E ⊢;simp only at a ⊢;split at a
  . rename_i F U d;obtain⟨C,N,H⟩:=a;have key:∃g,Gm G m args σ'=some (F,g)/\Mv G W σ σ' U g:=by
     by_cases Q:m=1
     . subst Q;simp only[Gm]at d ⊢;obtain⟨g,i,g2⟩:=p5 args j (by simpa[takes]using z) d;exact⟨g,i,g2⟩
     . by_cases q:m=3
       . subst q;simp only[Gm]at d ⊢;obtain⟨g,i,g2⟩:=x5 args j (by simpa[takes]using z) d;exact⟨g,i,g2⟩
       by_cases w:m=4
       . subst w;simp only[Gm]at d ⊢;obtain⟨g,i,g2⟩:=tkLk_loc args j (by simpa[takes]using z) d;exact⟨g,i,g2⟩
       have e:∀σ,Gm G m args σ=match Abs.KM σ args with|some l=>some (l,σ)|none=>none:=by
        intro σ;unfold Gm;split
        . exact absurd rfl Q
        . exact absurd rfl q
        . exact absurd rfl w
        . rfl
       rw[e]at d ⊢;rw[h.KM args (by simpa[reads,Q,q,w]using E)];split at d
       . cases d;exact⟨σ',rfl,Mv.refl j⟩
       . cases d
    obtain⟨g,i,g2⟩:=key;rw[i];simp only;split at H
    . rename_i v hv;obtain⟨D,L,M⟩:=cM g2 hd H;exact⟨D,⟨C,N,by rw[hv];exact L⟩,M⟩
    . exact H.elim
  . exact a.elim
 |VW f pre x c post=>
  unfold EK at a ⊢;rw[n]at a z E ⊢;simp only at a ⊢;split at a
  . rename_i r p F bs hp Zk Z;obtain⟨e1,e2,T,J⟩:=j.P1 (z x (by simp[takes])) hp;rw[e1,h.NO pre (λy S=>E y (by simp[reads,S])),h.NO post (λy S=>E y (by simp[reads,S])),Zk,Z];simp only[e2];rw[j.eq r T];split at a
    . rename_i b k rows hs;obtain⟨C,out,u,N,H,X,h4,O⟩:=a;split at O
      . rename_i t V;have Zl:F9 (G.HI r) t=true:=XB _ V (j.ri r T) (OD X);obtain⟨D,L,M⟩:=cM (j.kupn _ T J Zl) hd O;exact⟨D,⟨C,out,u,N,H,X,h4,by rw[V];exact L⟩,M⟩
      . exact O.elim
    . exact a.elim
  . exact a.elim
 |_=>unfold EK at a ⊢;rw[n]at a ⊢;exact B _ n a
theorem aop_loc {R W:Nat->Prop} (h:Ag G R σ σ') (c:∀s,W s->R s) {o:BN} (l:∀x∈takes o.op,p9 G W x) (k:∀x∈reads o.op,Vq G R x) (hd:HasD G W o.dst) (q:∀g,o.guard=some g->R g.1) (a:K3 P G o (· =τ) σ):
 ∃τ',K3 P G o (· =τ') σ'/\Mv G W σ σ' τ τ':=by
 have j:Ag G W σ σ':=h.mono c;have skip:(match o.dst with|some d=>DZ (Js d.kl d.d σ) d.d .un=τ|none=>σ=τ)->∃τ',(match o.dst with|some d=>DZ (Js d.kl d.d σ') d.d .un=τ'|none=>σ'=τ')/\Mv G W σ σ' τ τ':=by
  intro a;cases MV:o.dst with
  |none=>rw[MV]at a;subst a;exact⟨σ',rfl,Mv.refl j⟩
  |some d=>rw[MV]at a;subst a;obtain⟨n,p⟩:=hd d MV;have r:Abs.wr d .un σ=some (DZ (Js d.kl d.d σ) d.d .un):=(by simp[Abs.wr]);obtain⟨t,i,g2⟩:=(Mv.refl j).wr n p r;have f:Abs.wr d .un σ'=some (DZ (Js d.kl d.d σ') d.d .un):=(by simp[Abs.wr]);rw[f]at i;cases i;exact⟨_,rfl,g2⟩
 unfold K3 at a ⊢;cases hgd:o.guard with
 |none=>rw[hgd]at a;exact gR h c l k hd a
 |some g=>
  obtain⟨g,m⟩:=g;rw[hgd]at a;simp only at a ⊢;rw[h.eq g (q _ hgd)];split at a
  . rename_i b u;split at a
    . rename_i e;simp only[AAs e];exact gR h c l k hd a
    . rename_i e;simp only[AAp e];exact skip a
  . exact skip a
  . exact a.elim
end Go.Abs
namespace Go.Abs
variable {G:Gi} {P:Program}
def cG (G:Gi):Ar->List Nat
 | .t s=>s::G.Oj s++(G.HI s).flatMap (λr=>r::G.Oj r)
 | .c _=>[]
def GY (G:Gi):Ar->List Nat
 | .t s=>s::G.HI s
 | .c _=>[]
def Ss (G:Gi) (o:BN):List Nat:=(takes o.op).flatMap (cG G)++(match o.dst with|some d=>d.d::d.kl|none=>[])
def eV (G:Gi) (o:BN):List Nat:=Ss G o++(reads o.op).flatMap (GY G)++(match o.guard with|some g=>[g.1]|none=>[])
def cOK:Ar->Bool
 | .t _=>true
 | .c a=>F9 [] a
def PX (o:BN):Bool:=(takes o.op).all cOK&&(reads o.op).all cOK
theorem aJ {σ σ' τ:Sg} {o:BN} (j:PX o=true) (n:∀d,o.dst=some d->d.rs=G.HI d.d) (h:Ag G (· ∈eV G o) σ σ') (k:K3 P G o (· =τ) σ):∃f,K3 P G o (· =f) σ'/\Mv G (· ∈Ss G o) σ σ' τ f:=by
 simp only[PX,AAi,AAm]at j;refine aop_loc h (λs m=>by simp only[eV,AAz];exact .inl (.inl m)) ?_ ?_ ?_ ?_ k
 . intro x b;cases x with
   |c a=>exact j.1 _ b
   |t s=>
    have key:∀y∈cG G (.t s),y∈Ss G o:=λy e=>(by simp only[Ss,AAz,List.mem_flatMap];exact .inl ⟨_,b,e⟩);refine⟨key _ (by simp[cG]),λx b=>key _ (by simp[cG,b]),λr i=>⟨key _ ?_,λx b=>key _ ?_⟩⟩
    . simp only[cG,ABV,ABH,AAz,List.mem_flatMap];exact .inr (.inr ⟨r,i,.inl rfl⟩)
    . simp only[cG,ABV,ABH,AAz,List.mem_flatMap];exact .inr (.inr ⟨r,i,.inr b⟩)
 . intro x b;cases x with
   |c a=>exact j.2 _ b
   |t s=>have key:∀y∈GY G (.t s),y∈eV G o:=λy e=>(by simp only[eV,AAz,List.mem_flatMap];exact .inl (.inr ⟨_,b,e⟩));exact⟨key _ (by simp[GY]),λr i=>key _ (by simp[GY,i])⟩
 . intro d hd;refine⟨⟨?_,n d hd⟩,λy e=> ?_⟩
   . simp only[Ss,hd,AAz];exact .inr (ABj ..)
   . simp only[Ss,hd,AAz,ABH];exact .inr (.inr e)
 . intro g l;simp only[eV,l,AAz];exact .inr (ABj ..)
theorem aop_off {σ τ:Sg} {o:BN} (c:PX o=true) (f:∀d,o.dst=some d->d.rs=G.HI d.d) (b:∀s,F9 (G.HI s) (σ s)=true) (e:K3 P G o (· =τ) σ):(∀s,s∉Ss G o->τ s=σ s)/\∀s,F9 (G.HI s) (τ s)=true:=by
 obtain⟨g,_,h⟩:=aJ c f (⟨λ_ _=>rfl,λs _=>b s⟩:Ag G (· ∈eV G o) σ σ) e;refine⟨λs a=>(h.off s a).2,λs=> ?_⟩;by_cases a:s∈Ss G o
 . exact h.ag.ri s a
 . rw[(h.off s a).2];exact b s
def Fe (L:Nat->Bool) (W:Nat->List Nat) (s:Nat):Nat->Nat
 |0=>0
 |m+1=>if L m=true/\s∈W m then m+1 else Fe L W s m
theorem YJ (L:Nat->Bool) (W:Nat->List Nat) (s m:Nat):Fe L W s m≤m:=by
 induction m with
 |zero=>simp[Fe]
 |succ m ih=>simp only[Fe];split<;>omega
section
variable {q:Nat->Sg} {L L':Nat->Bool} {W R:Nat->List Nat} {n i:Nat}
theorem lastW_at (hi:L i=false) (o:i<n) (e:∀j s,j<n->s∉W j->q (j+1) s=q j s)
 (f:∀j s,j<i->s∈W j->s∈R i->L j=true) (d:∀j s,i<j->j<n->s∈W j->s∈R i->L j=true->L i=true) {s:Nat} (c:s∈R i):q (Fe L W s n) s=q i s:=by
 have:∀m,m≤n->q (Fe L W s m) s=q (min m i) s:=by
  intro m;induction m with
  |zero=>intro _;simp[Fe]
  |succ m ih=>
   intro p;simp only[Fe];by_cases g:m<i
   . rw[show min (m+1) i=m+1 from by omega];by_cases a:s∈W m
     . rw[AAs ⟨f m s g a c,a⟩]
     . rw[AAp (λh=>a h.2),ih (by omega),show min m i=m from by omega,e m s (by omega) a]
   . rw[AAp,ih (by omega),show min m i=i from by omega,show min (m+1) i=i from by omega];rintro⟨b,k⟩;by_cases l:m=i
     . subst l;rw[hi]at b;cases b
     . have:=d m s (by omega) (by omega) k c b;rw[hi]at this;cases this
 rw[this n (AA8 _),show min n i=i from by omega]
theorem lastW_in (f:i<n) (c:∀j,L' j=(L j||j==i)) (hi:L i=false) (e:∀j s,i<j->j<n->s∈W j->s∈W i->L j=true->L i=true) {s:Nat} (d:s∈W i):Fe L' W s n=i+1:=by
 have:∀m,i<m->m≤n->Fe L' W s m=i+1:=by
  intro m;induction m with
  |zero=>intro h;omega
  |succ m ih=>
   intro l o;simp only[Fe];by_cases a:m=i
   . subst a;rw[AAs ⟨by simp[c],d⟩]
   . rw[AAp,ih (by omega) (by omega)];rintro⟨b,g⟩;rw[c]at b;have k:L m=true:=by simpa[a]using b
     have:=e m s (by omega) (by omega) g d k;rw[hi]at this;cases this
 exact this n f (AA8 _)
theorem wM (a:∀j,L' j=(L j||j==i)) {s:Nat} (b:s∉W i) (m:Nat):Fe L' W s m=Fe L W s m:=by
 induction m with
 |zero=>rfl
 |succ m ih=>
  simp only[Fe,ih,a];by_cases h:m=i
  . subst h;simp[b]
  . simp[h]
theorem wK (a:∀j,j<n->L j=true) (b:∀j s,j<n->s∉W j->q (j+1) s=q j s) (s:Nat):∀m,m≤n->q (Fe L W s m) s=q m s:=by
 intro m;induction m with
 |zero=>intro _;rfl
 |succ m ih=>
  intro c;simp only[Fe];by_cases h:s∈W m
  . rw[AAs ⟨a m (by omega),h⟩]
  . rw[AAp (λx=>h x.2),ih (by omega),b m s (by omega) h]
end
end Go.Abs
