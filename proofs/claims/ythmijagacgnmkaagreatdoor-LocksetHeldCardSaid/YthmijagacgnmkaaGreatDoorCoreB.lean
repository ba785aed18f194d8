/- A calculus of abstract states of Go memory, and that it is sound. -/
import Derived.Test.YthmijagacgnmkaaGreatDoorCoreA
import Derived.Laws.MakeOwn
set_option linter.unusedSimpArgs false
set_option linter.unusedVariables false
namespace Go.Abs
variable {w w':World} {S S':Nat->Prop} {G:Gi} {δ:Nat->DV} {Fr:Nat->Nat->Prop} {P:Program}
theorem Zk (b:Nat->ABr (Nat×Nat)) (a:List Value) (i off n:Nat) (v:Value) (c:List (Nat×Value)) (vs:List Value) (j:b i=some (off,n)) (f:v.cells=vs.toArray) (hn:vs.length=n) (k:off+n≤a.length):
 Instr.fill b a.toArray ((i,v)::c)=Instr.fill b (a.take off++vs++a.drop (off+vs.length)).toArray c:=by
 have h:(decide (v.cells.size≠n)||decide (off+v.cells.size>a.toArray.size))=false:=by simp[f,hn];omega
 have d:=AAB vs off a.toArray (by simp;omega) 0;simp only[Nat.add_zero]at d;rcases d with d|d
 . have:(v.cells.zipIdx.foldl (λg (x:Value×Nat)=>g.setIfInBounds (off+x.2) x.1) a.toArray)=(a.take off++vs++a.drop (off+vs.length)).toArray:=(by apply ABe;rw[f,← d];have e:vs.toArray.zipIdx=vs.zipIdx.toArray:=(by simp);rw[e];simp);simp only[Instr.fill,j,h];simp only[AAY,AAd];exact ABl (λz=>Instr.fill b z c) this
 . simp at d;omega
def Ld (place:Nat->ABr (Nat×Nat)):List (Nat×Operand)->List (Nat×Nat×Ar)->Bool
 |[],[]=>true
 | (i,x)::qs,(off,n,y)::ps=>(match place i with|some (o',n')=>o'==off&&n'==n|none=>false)&&CB x y&&Ld place qs ps
 |_,_=>false
theorem St.VF {a:Act} {b:Nat->ABr (Nat×Nat)} (L:List (Nat×Nat×Ar)):∀(l:List (Nat×Operand)) {δ:Nat->DV} {Fr:Nat->Nat->Prop} {ds:List DV} {Fd:Nat->Prop} {f:List AV} {τ:Sg},St G w S δ Fr->Rd δ a->
 Ld b l L=true->JS w S ds Fd->(∀s x,Fr s x->¬Fd x)->(ds.map DV.er).all FL=true->Abs.VF G L (ds.map DV.er) (λs=>(δ s).er)=some (f,τ)->
 ∃B N E J,St G w S B N/\(λs=>(B s).er)=τ/\(∀s,(B s).Aw=(δ s).Aw)/\JS w S E J/\E.map DV.er=f/\Instr.fill b (ds.map DV.Aw).toArray (l.map λ(i,x)=>(i,a.eval x))=some (E.map DV.Aw).toArray/\
  (∀s x,N s x->¬J x)/\(∀x,BA N x∨J x->BA Fr x∨Fd x)/\f.all FL=true:=by
 induction L with
 |nil=>
  intro l δ Fr ds Fd f τ h Q d M K C g;cases l with
  |cons q l=>simp[Ld]at d
  |nil=>simp only[Abs.VF,AAQ,AAf]at g;obtain⟨rfl,rfl⟩:=g;exact⟨δ,Fr,ds,Fd,h,rfl,λ_=>rfl,M,rfl,by simp[Instr.fill],K,λx m=>m,C⟩
 |cons p L ih=>
  obtain⟨off,n,y⟩:=p;intro l δ Fr ds Fd f τ h Q d M K C g;cases l with
  |nil=>simp[Ld]at d
  |cons q l=>
   obtain⟨i,x⟩:=q;simp only[Ld,AAR]at d;obtain⟨⟨H,T⟩,R⟩:=d;have W:b i=some (off,n):=by
    split at H
    . rename_i o' n' UC;simp only[AAR,AAg]at H;rw[UC,H.1,H.2]
    . cases H
   obtain⟨hy,Mr⟩:=Aj T Q;simp only[Abs.VF]at g;split at g
   . rename_i v τ1 I;split at g
     . rename_i Fu;obtain⟨hn,Si,O⟩:=Fu;obtain⟨δ1,F1,D,Ff,e,JH,FM,T0⟩:=h.tk hy I;subst JH;subst FM;have V:=LU D e.ok.Kw;have hl:(cellsD D).length=n:=(by rw[← hn,← V];simp);have T1:=La e.ok O;have U:∀x,Fd x->¬Ff x:=(by intro x m hf;obtain⟨t,I⟩:=e.own x (.inr hf);exact K t x I m);have u:off+(cellsD D).length≤ds.length:=(by rw[hl];simpa using Si);obtain⟨F2,Yv,gC⟩:=WW off M (NB e.ok) U u;have MT:∀s x,F1 s x->¬F2 x:=by
        intro s x m h2;rcases gC x h2 with o|o
        . obtain⟨t,I⟩:=e.own x (.inl ⟨s,m⟩);exact K t x I o
        . exact e.MC s x m o
       have X:=oC ds (cellsD D) off;have j:((ds.take off++cellsD D++ds.drop (off+(cellsD D).length)).map DV.er).all FL=true:=by
        rw[AAX]at C O ⊢;intro c d;simp only[AA3,AAh]at d;rcases d with(d|d)|d
        . exact C c (by rw[ABh]at d;exact ABp d)
        . rw[V]at d;exact O c d
        . exact C c (by rw[List.map_drop]at d;exact List.mem_of_mem_drop d)
       rw[← V]at g;rw[← X]at g;obtain⟨Z,F2',E,J,KI,RH,MS,F,PF,XG,r,z,k⟩:=ih l e.st (λs=>(Q s).trans (e.Aw s).symm) R Yv MT j g;refine⟨Z,F2',E,J,KI,RH,λs=>(MS s).trans (e.Aw s),F,PF,?_,r,?_,k⟩
       . simp only[AAi];rw[Zk b (ds.map DV.Aw) i off n (a.eval x) _ ((cellsD D).map DV.Aw) W (by rw[Mr,← T0];exact T1) (by simpa using hl) (by simpa using Si)];rw[← XG];congr 2;simp[ABh,List.map_drop]
       . intro x m;rcases z x m with o|o
         . exact .inl (e.own x (.inl o))
         . rcases gC x o with P|P
           . exact .inr P
           . exact .inl (e.own x (.inr P))
     . cases g
   . cases g
theorem runs_bld (h:St G w S δ Fr) {a:Act} (l:Rd δ a) {o:Oper} {t:TypeId} {b:Array (Nat×Operand)} {f:Nat->ABr (Nat×Nat)} {z:List AV} {k:List DV} {r:List (Nat×Nat×Ar)} {d:Dk} (hd:I7 G a o (some d)) (L:o.op= .build t b)
 (N:Wx z=some k) (j:z.all FL=true) (p:Ld f b.toList r=true)
 (M:∀c:Array Value,Instr.fill f (k.map DV.Aw).toArray (b.toList.map λ(i,x)=>(i,a.eval x))=some c->(Instr.build t (b.map λ(i,x)=>(i,a.eval x))).run P w= .ok (.agg c) w) {σ':Sg}
 (m:GU G (.T6 z r) (some d) (λs=>(δ s).er)=some σ'):QO P G w S Fr a o σ':=by
 have g:k.map DV.er=z/\JS w S k (λ_=>False):=by have:=Ib (w:=w) (S:=S) (δ:=δ) (.agg z) (.agg k) (by simp[Ix,N]);exact⟨by simpa using this.1,Bt.1 this.2.1⟩
 simp only[GU]at m;split at m
 . rename_i T τ y;rw[← g.1]at y j;obtain⟨Q,R,J,O,u,H,E,C,I,K,B,F,v⟩:=h.VF (a:=a) r b.toList l p g.2 (λ_ _ _ h=>h) j y;subst H;subst I;refine KB (D:=.agg J) (Ff:=O) u (λs=>(l s).trans (E s).symm) hd ?_ (λ_ _=>rfl) (λ_ _ _=>rfl) (λ_ h=>h) (λs x q=>(u.ok s).Et x q) (Bt.2 C) B (.agg _ λi e hi=> ?_) (by simpa using m) (Nx.less ?_)
   . have:=M _ K;simp only[execOp,L,Sem.run_bind,this,Result.andThen_ok,Sem.run_pure,Jk]
   . exact Q3 (λa l=>by rw[AAX]at v;exact v a l) e (AAe hi)
   . intro x q;rcases F x q with n|n
     . exact n
     . exact n.elim
 . cases m
theorem Ug {d:Type} {rows:List (List d)} {k i:Nat} {r:List d} (c:∀a∈rows,a.length=k) (hi:i<rows.length) (h:r.length=k):(rows.set i r).flatten=rows.flatten.take (i*k)++r++rows.flatten.drop (i*k+r.length):=by
 induction rows generalizing i with
 |nil=>simp at hi
 |cons x xs ih=>
  have b:=c x (by simp);cases i with
  |zero=>simp[h,← b]
  |succ i=>simp only[List.set_cons_succ,List.flatten_cons];rw[ih (λa e=>c a (by simp[e])) (by simpa using hi)];have f:(x++xs.flatten).take ((i+1)*k)=x++xs.flatten.take (i*k):=(by rw[show(i+1)*k=x.length+i*k from by rw[ABk,b];omega,List.take_length_add_append]);have g:(x++xs.flatten).drop ((i+1)*k+r.length)=xs.flatten.drop (i*k+r.length):=(by rw[show(i+1)*k+r.length=x.length+(i*k+r.length)from by rw[ABk,b];omega,List.drop_length_add_append]);rw[f,g];simp[ABB]
def Nf (k:Nat):List (Nat×Operand)->List (Nat×Ar)->Bool
 |[],[]=>true
 | (i,x)::qs,(j,y)::ps=>i==j&&CB x y&&Nf k qs ps
 |_,_=>false
theorem St.VG {a:Act} {k:Nat} (K:List (Nat×Ar)):∀(d:List (Nat×Operand)) {δ:Nat->DV} {Fr:Nat->Nat->Prop} {ds:List (List DV)} {Fd:Nat->Prop} {rs:List (List AV)} {τ:Sg},St G w S δ Fr->Rd δ a->
 Nf k d K=true->JS w S ds.flatten Fd->(∀r∈ds,r.length=k)->(∀s x,Fr s x->¬Fd x)->Abs.VG G k K (ds.map (·.map DV.er)) (λs=>(δ s).er)=some (rs,τ)->
 ∃(u:Nat->DV) (M:Nat->Nat->Prop) (g:List (List DV)) (I:Nat->Prop),St G w S u M/\(λs=>(u s).er)=τ/\(∀s,(u s).Aw=(δ s).Aw)/\JS w S g.flatten I/\(∀r∈g,r.length=k)/\g.length=ds.length/\g.map (·.map DV.er)=rs/\
  Instr.fill (λi=>some (i*k,k)) (ds.flatten.map DV.Aw).toArray (d.map λ(i,x)=>(i,a.eval x))=some (g.flatten.map DV.Aw).toArray/\(∀s x,M s x->¬I x)/\(∀x,BA M x∨I x->BA Fr x∨Fd x):=by
 induction K with
 |nil=>
  intro d δ Fr ds Fd rs τ h O C L z J c;cases d with
  |cons q d=>simp[Nf]at C
  |nil=>simp only[Abs.VG,AAQ,AAf]at c;obtain⟨rfl,rfl⟩:=c;exact⟨δ,Fr,ds,Fd,h,rfl,λ_=>rfl,L,z,rfl,rfl,by simp[Instr.fill],J,λx e=>e⟩
 |cons p K ih=>
  obtain⟨j,y⟩:=p;intro d δ Fr ds Fd rs τ h O C L z J c;cases d with
  |nil=>simp[Nf]at C
  |cons q d=>
   obtain⟨i,x⟩:=q;simp only[Nf,AAR,AAg]at C;obtain⟨⟨rfl,Q⟩,P⟩:=C;obtain⟨hy,Mr⟩:=Aj Q O;simp only[Abs.VG]at c;split at c
   . rename_i v τ1 H;split at c
     . rename_i Fu;obtain⟨hn,hi,II⟩:=Fu;obtain⟨δ1,Z,D,Ff,b,JH,FM,T0⟩:=h.tk hy H;subst JH;subst FM;have X:=LU D b.ok.Kw;have B:(cellsD D).length=k:=(by rw[← hn,← X];simp);have T1:=La b.ok II;have hi':i<ds.length:=(by simpa using hi);have R:∀x,Fd x->¬Ff x:=(by intro x e hf;obtain⟨t,H⟩:=b.own x (.inr hf);exact J t x H e);have m:i*k+(cellsD D).length≤ds.flatten.length:=(by rw[Dd z,B,← ABk];exact ABF _ hi');obtain⟨F2,V,W⟩:=WW (i*k) L (NB b.ok) R m;rw[← Ug z hi' B]at V;have MT:∀s x,Z s x->¬F2 x:=by
        intro s x e h2;rcases W x h2 with l|l
        . obtain⟨t,H⟩:=b.own x (.inl ⟨s,e⟩);exact J t x H l
        . exact b.MC s x e l
       have T2:∀r∈ds.set i (cellsD D),r.length=k:=by
        intro r hr;rcases AAs hr with h|rfl
        . exact z r h
        . exact B
       rw[← X]at c;rw[← ABJ (f:=λx:List DV=>x.map DV.er)]at c;obtain⟨U,F2',g,I,KI,RH,MS,F,T,E,PF,XG,n,o⟩:=ih d b.st (λs=>(O s).trans (b.Aw s).symm) P V T2 MT c;refine⟨U,F2',g,I,KI,RH,λs=>(MS s).trans (b.Aw s),F,T,by simpa using E,PF,?_,n,?_⟩
       . simp only[AAi];rw[Zk _ (ds.flatten.map DV.Aw) i (i*k) k (a.eval x) _ ((cellsD D).map DV.Aw) rfl (by rw[Mr,← T0];exact T1) (by simpa using B) (by rw[AA0];rw[B]at m;exact m)];rw[← XG,Ug z hi' B];congr 2;simp[ABh,List.map_drop]
       . intro x e;rcases o x e with l|l
         . exact .inl (b.own x (.inl l))
         . rcases W x l with N|N
           . exact .inr N
           . exact .inl (b.own x (.inr N))
     . cases c
   . cases c
def sN:List (List AV)->ABr (List (List DV))
 |[]=>some []
 |r::rs=>match Wx r,sN rs with
  |some d,some ds=>some (d::ds)
  |_,_=>none
theorem mA (rs:List (List AV)) (ds:List (List DV)) (h:sN rs=some ds):ds.map (·.map DV.er)=rs/\JS w S ds.flatten (λ_=>False):=by
 induction rs generalizing ds with
 |nil=>simp only[sN,AAQ]at h;subst h;exact⟨rfl,λ_ h=>h⟩
 |cons r rs ih=>
  simp only[sN]at h;split at h
  . rename_i d a c e;obtain rfl:=AAU h;obtain⟨b,g2⟩:=ih a e
    have:=Ib (w:=w) (S:=S) (δ:=λ_=>default) (.agg r) (.agg d) (by simp[Ix,c]);refine⟨by simp[b];simpa using this.1,?_⟩;simp only[List.flatten_cons];exact(LY (Bt.1 this.2.1) g2 (λ_ h=>h.elim)).congr λx=>by simp
  . cases h
theorem runs_bsl (h:St G w S δ Fr) (Q:∀b,S b->b<w.heap.size) {a:Act} (J:Rd δ a) {o:Oper} {t e:TypeId} {len k:Nat} {f:Array (Nat×Operand)} {z:List (List AV)} {u:List (List DV)} {H:List (Nat×Ar)} {d:Dk} (hd:I7 G a o (some d)) (X:o.op= .buildSlice t len f)
 (hz:sN z=some u) (D:∀r∈z,r.length=k) (F:z.length=len) (B:Nf k f.toList H=true)
 (C:∀g:Array Value,Instr.fill (λi=>some (i*k,k)) (u.flatten.map DV.Aw).toArray (f.toList.map λ(i,x)=>(i,a.eval x))=some g->
  (Instr.buildSlice t len (f.map λ(i,x)=>(i,a.eval x))).run P w= .ok (.slice (some ⟨w.heap.size,0,none⟩) len len) (w.alloc (.cells g e))) {σ':Sg}
 (v:GU G (.OD k z H) (some d) (λs=>(δ s).er)=some σ'):QO P G w S Fr a o σ':=by
 obtain⟨m,q⟩:=mA (w:=w) (S:=S) z u hz;have p:∀r∈u,r.length=k:=by
  intro r C
  have:=D (r.map DV.er) (by rw[← m];exact ABY C);simpa using this
 have l:u.length=len:=by rw[← F,← m];simp
 simp only[GU]at v;split at v
 . rename_i rs τ K;rw[← m]at K;obtain⟨δ',F',I,kM,M,U,R,O,L,j,V,W,N,T⟩:=h.VG (a:=a) H f.toList J B q p (λ_ _ _ h=>h) K;subst U;subst V;refine YD (bx:=false) (k:=k) (c:=len) (rows:=I) (Fd:=kM) (arr:=(I.flatten.map DV.Aw).toArray) (E:=e) M Q (λs=>(J s).trans (R s).symm) hd ?_ O N L ?_ ?_ v ?_
   . have:=C _ W;simp only[execOp,X,Sem.run_bind,this,Result.andThen_ok,Sem.run_pure,JW,AAY,AAd,j,l]
   . simp only[AAY,AAd,List.size_toArray,AA0,Dd L,j,l];exact⟨trivial,AAv _⟩
   . intro n d hn;rw[List.getElem?_toArray,AAb,hn];rfl
   . intro x Z;rcases T x Z with y|y
     . exact y
     . exact y.elim
 . cases v
theorem RC (z:List AV) (a:List DV) (h:Wx z=some a):a.map DV.er=z/\∀D∈a,Ok w S D (λ_=>False):=by
 obtain⟨f,g,_⟩:=Ib (w:=w) (S:=S) (δ:=λ_=>.lf .un undef) (.agg z) (.agg a) (by simp[Ix,h]);refine⟨by simpa using f,λD j=> ?_⟩;obtain⟨b,c,_,_,d⟩:=Jh.1 (Bt.1 g);obtain⟨i,hi⟩:=AAu j
 have:=c i D hi;have e:b i=λ_=>False:=funext λx=>propext ⟨λk=>(d x).2 ⟨i,k⟩,False.elim⟩;rwa [e]at this
theorem AAA {b:Type} (a:List b) (l:Nat):∀n,n<l*a.length->(List.replicate l a).flatten[n]? =a[n%a.length]? :=by
 induction l with
 |zero=>intro n h;omega
 |succ l ih=>
  intro n h;rw[List.replicate_succ,List.flatten_cons];by_cases hn:n<a.length
  . rw[AAr hn,Nat.mod_eq_of_lt hn]
  . rw[AAy (by omega),ih (n-a.length) (by rw[Nat.add_mul,Nat.one_mul]at h;omega),← Nat.mod_eq_sub_mod (by omega)]
theorem runs_mk (h:St G w S δ Fr) (Cy:∀b,S b->b<w.heap.size) {a:Act} (v:Rd δ a) {o:Oper} {t e:TypeId} {k bytes:Nat} {x y:Operand} {z:List AV} {f:List DV} {X Z:Ar} {d:Dk} {i:TypeInfo} {zv:Value} (hd:I7 G a o (some d)) (ho:o.op= .makeSlice t x y)
 (hu:P.underlying t=some (.slice e)) (hi:P.info? e=some i) (O:i.zero=some zv) (T:i.size=k) (B:i.bytes=bytes) (tS:0<bytes) (fT:0<k) (M:Wx z=some f) (p:zv.cells.toList=f.map DV.Aw) (N:z.length=k)
 (H:CB x X=true) (I:CB y Z=true) {σ':Sg} (g:GU G (.mk k bytes z X Z) (some d) (λs=>(δ s).er)=some σ'):QO P G w S Fr a o σ':=by
 obtain⟨L,ex⟩:=Aj H v;obtain⟨hy,ey⟩:=Aj I v;simp only[GU]at g;split at g
 . rename_i l c J C;split at g
   . rename_i Fu;obtain⟨h0,QS,PH⟩:=Fu;obtain⟨kl,J⟩:=Nc J;obtain⟨kc,C⟩:=Nc C;obtain⟨el,_⟩:=h.Ey L J;obtain⟨ec,_⟩:=h.Ey hy C;have hr:c.toNat*bytes≤70368744177664:=(by simpa[Af]using PH);have F:(c.toNat:Int)=c:=Int.toNat_of_nonneg (by omega);have U:c.toNat≤c.toNat*bytes:=Nat.le_mul_of_pos_right _ tS;have r:f.length=k:=(by have:=ABl List.length (RC (w:=w) (S:=S) z f M).1;rw[AA0]at this;rw[this,N]);have CU:=run_make (P:=P) w t e i zv hu hi O kl kc l c h0 QS (by rw[B,← F];have:(bytes:Int)*(c.toNat:Int)=((c.toNat*bytes:Nat):Int):=(by rw[ABT];simp);rw[this];omega) (by omega);have q:zv.cells.size=k:=(by have:=ABl List.length p;simp only[AA0,r]at this;simpa using this);have R:(List.replicate l.toNat f).length=l.toNat:=(by simp);refine YD (bx:=false) (k:=k) (c:=c.toNat) (rows:=List.replicate l.toNat f) (Fd:=λ_=>False) (arr:=madeCells zv.cells (c.toNat*i.size)) (E:=e) h Cy v hd ?_ ?_ (λ_ _ _ h=>h) ?_ ?_ ?_ ?_ (λx L=>L.elim id False.elim)
     . simp only[execOp,ho,ex,ey,el,ec,Sem.run_bind,CU,Result.andThen_ok,Sem.run_pure,JW,AAY,AAd,R]
     . refine B4 λD hD=> ?_;obtain⟨Q,u,j⟩:=List.mem_flatten.1 hD;rw[ABS u]at j;exact(RC z f M).2 D j
     . intro Q u;rw[ABS u,r]
     . simp only[AAY,AAd,size_madeCells,T,R];exact⟨trivial,by omega⟩
     . intro n D hn;have m:n<l.toNat*f.length:=(by have:=(AAS.1 hn).1;simpa using this);rw[AAA f l.toNat n m]at hn;have V:l.toNat*k≤c.toNat*k:=ABF _ (by omega);have K:n<c.toNat*i.size:=(by rw[T];rw[r]at m;omega);have W:n%k<k:=Nat.mod_lt _ fT;rw[r]at hn;have Bf:zv.cells[n%k]? =some D.Aw:=(by rw[← Array.getElem?_toList,p,AAb,hn];rfl);simp only[madeCells,Array.getElem?_map,Array.getElem?_range,AAa K,AAw,q];rw[getElem!_def,Bf]
     . have:(List.replicate l.toNat f).map (·.map DV.er)=List.replicate l.toNat z:=(by rw[List.map_replicate,(RC (w:=w) (S:=S) z f M).1]);rw[this];exact g
   . cases g
 . cases g
end Go.Abs
namespace Go.Abs
variable {w w':World} {S S':Nat->Prop} {G:Gi} {δ:Nat->DV} {Fr:Nat->Nat->Prop} {P:Program}
def Bd (v:ABr Value) (dflt n:Nat):Prop:=(v=none/\n=dflt)∨∃kk i,v=some (.int kk i)/\0≤i/\i.toNat=n
theorem St.bd (h:St G w S δ Fr) {a:Act} (f:Rd δ a) {x:ABr Operand} {y:ABr Ar} (c:Q8 x y=true) {dflt n:Nat} (b:NO (λs=>(δ s).er) y dflt=some n):Bd (x.map a.eval) dflt n/\(x=none↔y=none):=by
 unfold Q8 at c;split at c
 . simp only[NO,AAQ]at b;exact⟨.inl ⟨rfl,b.symm⟩,by simp⟩
 . rename_i x y;obtain⟨j,g⟩:=Aj c f;simp only[NO]at b;split at b
   . rename_i i hi;split at b
     . rename_i e;simp only[AAQ]at b;obtain⟨k,hi⟩:=Nc hi;obtain⟨d,_⟩:=h.Ey j hi;exact⟨.inr ⟨k,i,by simp[g,d],e,b⟩,by simp⟩
     . cases b
   . cases b
 . cases c
theorem Ip {c:IntKind} {i:Int} {y n:Nat} {a:BoundsCode} (b:0≤i) (hn:i.toNat=n) (d:n≤y) (w:World):(Instr.sliceBound (.int c i) y a).run P w= .ok n w:=by
 have:i≤y:=by omega
 simp[Instr.sliceBound,asIntOf,b,this,hn]
theorem cZ {t e:TypeId} {k len cap l h m:Nat} (u:P.underlying t=some (.slice e)) (B:Gg P e=some k) {lo hi mx:ABr Value} (C:Bd lo 0 l) (z:Bd hi len h) (D:Bd mx cap m) (q:mx≠none->hi≠none) (p:l≤h) (o:h≤m) (r:m≤cap) (d:ABr Addr) (w:World):
 (Instr.sliceAt t (.slice d len cap) lo hi mx).run P w= .ok (.slice (if m=l then d else d.map (·.add (l*k))) (h-l) (m-l)) w:=by
 have y:(Instr.sliceBounds true len cap lo hi mx).run P w= .ok (l,h,m) w:=by
  rcases D with⟨rfl,rfl⟩|⟨I,G,rfl,i,j⟩<;>rcases z with⟨rfl,rfl⟩|⟨H,E,rfl,b,c⟩<;>rcases C with⟨rfl,rfl⟩|⟨kl,F,rfl,f,g⟩<;>
   first
    | (simp[Instr.sliceBounds,Ip i j r,Ip b c o,Ip f g p];done)
    | (simp[Instr.sliceBounds,Ip i j r,Ip b c o];done)
    | (simp[Instr.sliceBounds,Ip b c o,Ip f g p];done)
    | (simp[Instr.sliceBounds,Ip b c o];done)
    | (simp[Instr.sliceBounds,Ip f g p];done)
    | (simp[Instr.sliceBounds];done)
    |exact absurd rfl (q (by simp))
 have:(Instr.sliceAt t (.slice d len cap) lo hi mx)=(do match ← underlying t with
  | .array n elem=>
   let a ← Instr.sureAddr (.slice d len cap)
   let(l,h,m) ← Instr.sliceBounds false n n lo hi mx
   let size ← sizeOf elem
   pure (.slice (some (if m=l then a else a.add (l*size))) (h-l) (m-l))
  |_=>Instr.slice t (.slice d len cap) lo hi mx):=rfl
 rw[this];simp only[Sem.run_bind,run_underlying u,Result.andThen_ok];have v:(Instr.slice t (.slice d len cap) lo hi mx)=(do
  match ← underlying t,(Value.slice d len cap)with
  | .string,.string s=>
   if mx.isSome then stuck "Slice: full slice of a string"
   let(l,h,_) ← Instr.sliceBounds false s.size s.size lo hi none
   pure (.string (s.extract l h))
  | .slice elem,.slice a len cap=>
   let(l,h,m) ← Instr.sliceBounds true len cap lo hi mx
   let size ← sizeOf elem
   pure (.slice (if m=l then a else a.map (·.add (l*size))) (h-l) (m-l))
  | .pointer arr,x=>
   let a ← asAddr x
   let .array n elem ← underlying arr|stuck "Slice: array type expected"
   let(l,h,m) ← Instr.sliceBounds false n n lo hi mx
   let size ← sizeOf elem
   pure (.slice (some (if m=l then a else a.add (l*size))) (h-l) (m-l))
  |_,_=>stuck "Slice: string, slice or pointer to array expected"):=rfl
 rw[v];simp only[Sem.run_bind,run_underlying u,Result.andThen_ok,y,run_sizeOf B,Sem.run_pure]
theorem Fz.cut {e:Bool} {k:Nat} {rows:List (List AV)} {o:ABr Addr} {n cap l h m:Nat} {x:Bool} (v:Fz w S (.sl e k rows) (.slice o n cap)) (z:l≤h) (u:h≤rows.length) (B:h≤m) (s:x=true->m=h):
 Fz w S (.sl x k ((rows.drop l).take (h-l))) (.slice (if m=l then o else o.map (·.add (l*k))) (h-l) (m-l)):=by
 have f:((rows.drop l).take (h-l)).length=h-l:=by simp;omega
 by_cases p:h=l
 . subst p;simp only[Nat.sub_self,List.take_zero];exact .nil x k _ _ (λq=>by have:=s q;omega)
 . have y:m≠l:=(by omega);cases v with
   |nil=>simp at u;omega
   |sl _ _ _ b off c vs hxe QS hS hk hc hr=>
    simp only[y,AAd,AAw,Addr.add_lit];have g:∀i d,((rows.drop l).take (h-l))[i]? =some d->rows[l+i]? =some d:=by
     intro i d hi;rw[ABV]at hi;split at hi
     . simpa using hi
     . cases hi
    have key:Fz w S (.sl x k ((rows.drop l).take (h-l))) (.slice (some ⟨b,off+l*k,none⟩) ((rows.drop l).take (h-l)).length (m-l)):=by
     refine .sl x k _ b (off+l*k) (m-l) (λi j=>vs (l+i) j) (λq=>by have:=s q;rw[f];omega) (by rw[f];omega) hS (λd t=>hk d (List.mem_of_mem_drop (ABp t))) ?_ ?_
     . intro i j d a hi r
       have:=hc (l+i) j d a (g i d hi) r;rw[show off+l*k+(i*k+j)=off+((l+i)*k+j)from by rw[Nat.add_mul];omega];exact this
     . intro i j d a hi r;exact hr (l+i) j d a (g i d hi) r
    rw[f]at key;exact key
theorem Nh {rows rs:List (List AV)} {l h:Nat} (a:SS rows l h=some rs):l≤h/\h≤rows.length/\rs=(rows.drop l).take (h-l):=by
 unfold SS at a;split at a
 . rename_i b;exact⟨b.1,b.2,(AAU a).symm⟩
 . cases a
theorem St.bdM (h:St G w S δ Fr) {a:Act} (l:Rd δ a) {x:ABr Operand} {y:ABr Ar} (e:Q8 x y=true) {c m cap:Nat} (n:xA (λs=>(δ s).er) y c=some m) (f:m=c) (g:c≤cap):
 ∃d,Bd (x.map a.eval) cap d/\c≤d/\d≤cap/\(y.isSome=true->d=c):=by
 cases y with
 |none=>
  cases x with
  |none=>exact⟨cap,.inl ⟨rfl,rfl⟩,g,AAv _,by simp⟩
  |some x=>simp[Q8]at e
 |some y=>
  obtain⟨b,_⟩:=h.bd l e (dflt:=0) (by simpa only[xA]using n);subst f;cases x with
  |none=>simp[Q8]at e
  |some x=>
   rcases b with⟨b,_⟩|⟨o,i,b,j,k⟩
   . simp at b
   . exact⟨m,.inr ⟨o,i,b,j,k⟩,AAv _,g,λ_=>rfl⟩
theorem iW (h:St G w S δ Fr) {a:Act} (z:Rd δ a) {o:Oper} {t e:TypeId} {x:Operand} {lo hi mx:ABr Operand} {k:Nat} {y:Ar} {lo' hi' u:ABr Ar} {d:Dk} (hd:I7 G a o (some d)) (ho:o.op= .slice t x lo hi mx)
 (hu:P.underlying t=some (.slice e)) (hk:Gg P e=some k) (hc:CB x y=true) (Yu:Q8 lo lo'=true) (Mq:Q8 hi hi'=true) (T:Q8 mx u=true) (hmh:mx=none∨hi≠none) {σ':Sg}
 (f:GU G (.qZ k true y lo' hi' u) (some d) (λs=>(δ s).er)=some σ'):QO P G w S Fr a o σ':=by
 obtain⟨hy,O⟩:=Aj hc z;have C:mx.map a.eval≠none->hi.map a.eval≠none:=by
  intro E L;rcases hmh with h3|h3
  . simp[h3]at E
  . simp at L;exact h3 L
 simp only[GU]at f;split at f
 . -- frozen already
   rename_i ee M rows pl X;split at f
   . rename_i l i J I;split at f
     . rename_i rs m j hm;split at f
       . rename_i Fu;obtain⟨rfl,n⟩:=Fu;obtain⟨E,L,rfl⟩:=Nh j;have K:=(h.p7 hy X).2 _ _ _ rfl (h.hdSl hy X);obtain⟨g,cap,H⟩:=O6 K;rw[H]at K O;have Q:rows.length≤cap:=by
          cases K with
          |nil=>simp
          |sl _ _ _ b off c vs hxe Q=>exact Q
         obtain⟨b1,_⟩:=h.bd z Yu J;obtain⟨b2,_⟩:=h.bd z Mq I;obtain⟨q,b3,R,g2,g3⟩:=h.bdM z T hm n (cap:=cap) (by omega);have CU:=cZ (P:=P) hu hk b1 b2 b3 C E R g2 g w;have W:=K.cut (m:=q) (x:=u.isSome) E L R g3;have ME:(DV.lf (.sl u.isSome M ((rows.drop l).take (i-l))) (.slice (if q=l then g else g.map (·.add (l*M))) (i-l) (q-l))).er= .sl u.isSome M ((rows.drop l).take (i-l)):=by simp
         refine KB (D:=.lf (.sl u.isSome M ((rows.drop l).take (i-l))) (.slice (if q=l then g else g.map (·.add (l*M))) (i-l) (q-l))) (Ff:=λ_=>False) h z hd ?_ (λ_ _=>rfl) (λ_ _ _=>rfl) (λ_ h=>h) (λs x B=>(h.ok s).Et x B)
          (.lf _ _ _ W (λ_ h=>h)) (λ_ _ _ h=>h) (.lf _ _ trivial) (by rw[ME];exact f) (Nx.less λx B=>B.elim id False.elim)
         simp only[execOp,ho,O,Sem.run_bind,CU,Result.andThen_ok,Sem.run_pure,KP]
       . cases f
     . cases f
   . cases f
 . -- frozen now
   rename_i M rows r p X;split at f
   . rename_i l i J I;split at f
     . rename_i rs m j hm;split at f
       . rename_i Fu;obtain⟨rfl,n⟩:=Fu;obtain⟨E,L,rfl⟩:=Nh j;simp only[AAq]at f;split at f
         . rename_i fr τ K;obtain⟨δ1,F1,Fo,v,bx,N,Al,B9,JH,DZ,Bp,U,hfe,C3,Dz,_⟩:=h.QP K;subst JH;obtain⟨Z,F,PD,CZ,UC⟩:=(h.p7 hy X).1 _ _ _ rfl;have Ku:=UC r p rfl;rw[Bp]at Ku;simp only[AAQ,DV.own.injEq]at Ku;obtain⟨rfl,rfl,rfl,rfl⟩:=Ku;have V:fr= .sl false N (rows.map (·.map JM)):=(by rw[hfe];simp only[Ee,Nj,PD]);rw[V]at U;obtain⟨g,cap,H⟩:=O6 U;rw[H]at U O;have mV:(rows.map (·.map JM)).length=rows.length:=(by simp);have Q:rows.length≤cap:=by
            rw[← mV];generalize rows.map (·.map JM)=rr at*;cases U with
            |nil=>simp
            |sl _ _ _ b off c vs hxe Q=>exact Q
           obtain⟨b1,_⟩:=h.bd z Yu J;obtain⟨b2,_⟩:=h.bd z Mq I;rw[mV]at O;obtain⟨q,b3,R,g2,g3⟩:=h.bdM z T hm n (cap:=cap) (by omega);have CU:=cZ (P:=P) hu hk b1 b2 b3 C E R g2 g w;have W:=U.cut (m:=q) (x:=u.isSome) E (by rw[mV];exact L) R g3;rw[← List.map_drop,← ABh]at W;have ME:(DV.lf (.sl u.isSome N (((rows.drop l).take (i-l)).map (·.map JM))) (.slice (if q=l then g else g.map (·.add (l*N))) (i-l) (q-l))).er= .sl u.isSome N (((rows.drop l).take (i-l)).map (·.map JM)):=by simp
           refine KB (S:=S) (S':=λx=>S x∨Fo x) (D:=.lf (.sl u.isSome N (((rows.drop l).take (i-l)).map (·.map JM))) (.slice (if q=l then g else g.map (·.add (l*N))) (i-l) (q-l))) (Ff:=λ_=>False) B9 (λs=>(z s).trans (DZ s).symm) hd ?_ (λ_ _=>rfl) (λ_ _ _=>rfl) (λ_ h=>h) (λs x B=>(B9.ok s).Et x B)
            (.lf _ _ _ W (λ_ h=>h)) (λ_ _ _ h=>h) (.lf _ _ trivial) (by rw[ME];exact f) ?_
           . simp only[execOp,ho,O,Sem.run_bind,CU,Result.andThen_ok,Sem.run_pure,KP]
           . refine Nx.JM (λx B=>Dz x (B.imp (λh=>h.elim id False.elim) id)) λx B=> ?_;obtain⟨t,ht⟩:=Dz x (.inr B);exact(h.ok t).lt x ht
         . cases f
       . cases f
     . cases f
   . cases f
 . cases f
theorem Ok.front {v:Value} {k:Nat} {rows:List (List DV)} {F:Nat->Prop} (h:Ok w S (.own v false k rows) F) {n:Nat} (hn:n≤rows.length):
 ∃g c,v= .slice g rows.length c/\rows.length≤c/\(∀q:Nat,g.map (·.add (0*q))=g)/\∃r,Ok w S (.own (.slice g n c) false k (rows.take n)) r/\∀x,r x->F x:=by
 cases h with
 |nil _ _ hF=>simp only[ABM,Nat.le_zero]at hn;subst hn;exact⟨none,0,rfl,AAv _,λ_=>rfl,F,.nil k F hF,λ_ h=>h⟩
 |own _ _ _ b c arr E Fs _ hb hk Dv LO hv hr hd Ba KG hF=>
  simp only[AAY,AAd]at Dv;have f:(rows.take n).length=n:=by simp;omega
  have e:∀i (a:List DV),(rows.take n)[i]? =some a->rows[i]? =some a/\i<n:=by
   intro i a hi;rw[ABV]at hi;split at hi
   . exact⟨hi,by assumption⟩
   . cases hi
  have key:Ok w S (.own (JW false b (rows.take n).length c) false k (rows.take n)) (λx=>x=b∨∃i j,(i<n/\Fs i j x)):=by
   refine .own false k _ b c arr E (λi j x=>i<n/\Fs i j x) _ hb (λa s=>hk a (ABp s)) (by simp only[AAY,AAd];omega) LO ?_ ?_ (λi j u y x m o=>hd i j u y x m.2 o.2) ?_ (λi j h=>KG i j h.2) (λx=>Iff.rfl)
   . exactλi j a d hi p=>hv i j a d (e i a hi).1 p
   . intro i j a d hi p;obtain⟨l,g2⟩:=e i a hi;have:(λx=>i<n/\Fs i j x)=Fs i j:=funext λx=>propext ⟨λh=>h.2,λh=>⟨g2,h⟩⟩;rw[this];exact hr i j a d l p
   . rintro i j x ⟨m,o⟩;obtain⟨a,d,l,g2⟩:=Ba i j x o;exact⟨a,d,by rw[ABV,AAa m];exact l,g2⟩
  refine⟨some ⟨b,0,none⟩,c,by simp[JW],Dv.2,λq=>by simp[Addr.add],λx=>x=b∨∃i j,(i<n/\Fs i j x),?_,λx t=>(hF x).2 (t.elim .inl λ⟨i,j,h⟩=>.inr ⟨i,j,h.2⟩)⟩;rw[f]at key;simpa[JW]using key
theorem vQ (h:St G w S δ Fr) {a:Act} (i:Rd δ a) {o:Oper} {t e:TypeId} {x:Operand} {lo hi mx:ABr Operand} {k:Nat} {y:Ar} {lo' hi' O:ABr Ar} {d:Dk} (hd:I7 G a o (some d)) (ho:o.op= .slice t x lo hi mx)
 (hu:P.underlying t=some (.slice e)) (hk:Gg P e=some k) (hc:CB x y=true) (Yu:Q8 lo lo'=true) (Mq:Q8 hi hi'=true) (V:Q8 mx O=true) (z:mx=none∨hi≠none) {σ':Sg}
 (b:GU G (.qZ k false y lo' hi' O) (some d) (λs=>(δ s).er)=some σ'):QO P G w S Fr a o σ':=by
 obtain⟨hy,N⟩:=Aj hc i;have hmh':mx.map a.eval≠none->hi.map a.eval≠none:=by
  intro Q R;rcases z with T|T
  . simp[T]at Q
  . simp at R;exact T R
 by_cases E:∃ee k' rows pl,Abs.hd (λs=>(δ s).er) y=some (.sl ee k' rows,pl)
 . refine iW h i hd ho hu hk hc Yu Mq V z ?_;obtain⟨ee,k',rows,pl,u⟩:=E;simp only[GU,u]at b ⊢;exact b
 simp only[GU]at b;split at b
 . rename_i u;exact absurd ⟨_,_,_,_,u⟩ E
 . rename_i k' rows r p u;split at b
   . rename_i l g Z W;split at b
     . rename_i rs m q hm;split at b
       . rename_i Fu;obtain⟨rfl,hmeq⟩:=Fu;obtain⟨Q,R,rfl⟩:=Nh q;rw[AAZ (by simp)]at b;split at b
         . rename_i X;obtain⟨rfl,hmx⟩:=X;split at b
           . rename_i nn τ ht;obtain⟨δ1,F1,D,Ff,B9,JH,DZ,Yw,FM,⟨v,bx,I,K,rfl⟩,Bp,C3,Dz,_⟩:=h.ZO ht;subst JH;obtain⟨J,F,PD,_,UC⟩:=(h.p7 hy u).1 _ _ _ rfl;have M:=UC r p rfl;rw[Bp]at M;simp only[AAQ,DV.own.injEq]at M;obtain⟨rfl,rfl,rfl,rfl⟩:=M;have mV:K.length=rows.length:=(by rw[← PD];simp);obtain⟨f,c,hv,QS,j,F',C,mQ⟩:=Yw.front (n:=g) (by omega);rw[hv]at N;have hmn:O=none:=(by simpa using hmx);subst hmn;have B:mx=none:=(by cases mx<;>simp_all [Q8]);subst B;obtain⟨b1,_⟩:=h.bd i Yu Z;obtain⟨b2,_⟩:=h.bd i Mq W;rw[mV]at N;have L:=cZ (P:=P) hu hk b1 b2 (mx:=none) (cap:=c) (m:=c) (.inl ⟨rfl,rfl⟩) (by simp) Q (by omega) (AAv _) f w;have U:(if c=0 then f else f.map (·.add (0*I)))=f:=by
              split
              . rfl
              . exact j I
             rw[U,Nat.sub_zero,Nat.sub_zero]at L;have ME:(DV.own (.slice f g c) false I (K.take g)).er= .own false I ((rows.drop 0).take (g-0)):=(by simp[← PD,ABh]);refine KB (D:=.own (.slice f g c) false I (K.take g)) (Ff:=F') B9 (λs=>(i s).trans (DZ s).symm) hd ?_ (λ_ _=>rfl) (λ_ _ _=>rfl) (λ_ h=>h) (λs x H=>(B9.ok s).Et x H)
              C (λs x H K7=>C3 s x H (mQ x K7)) (.own _ _ _ _) (by rw[ME];exact b) (Nx.less λx H=>Dz x (H.imp id (mQ x)))
             simp only[execOp,ho,N,Option.map_none,Sem.run_bind,Option.map_none]at L ⊢;simp only[L,Result.andThen_ok,Sem.run_pure,Kh]
           . cases b
         . cases b
       . cases b
     . cases b
   . cases b
 . cases b
end Go.Abs
namespace Go.Abs
variable {w w':World} {S S':Nat->Prop} {G:Gi} {δ:Nat->DV} {Fr:Nat->Nat->Prop} {P:Program}
theorem putD_sub {t h new:DV} (p:List Step) {v:Value} {bx:Bool} {k i j:Nat} {rows:List (List DV)} {f:List DV} {g:DV} (e:Aq t p=some (.own v bx k rows)) (l:rows[i]? =some f) (m:f[j]? =some g) (d:Da t (p++[(i,j,k)]) new=some h):
 Aq h p=some (.own v bx k (rows.set i (f.set j new))):=by
 induction p generalizing t h with
 |nil=>simp only[Aq,AAQ]at e;subst e;simp only[ABN,Da,l,m,AAQ]at d;subst d;rfl
 |cons s p ih=>
  obtain⟨i0,j0,n⟩:=s;cases t with
  |lf a v=>simp[Aq]at e
  |own hh b k1 Jb=>
   simp only[Aq]at e;simp only[AA6,Da]at d;cases hi:Jb[i0]? with
   |none=>simp[hi]at e
   |some row1=>
    simp only[hi]at e d;cases hj:row1[j0]? with
    |none=>simp[hj]at e
    |some c=>
     simp only[hj]at e d;cases hc:Da c (p++[(i,j,k)]) new with
     |none=>simp[hc]at d
     |some c'=>simp only[hc,AAQ]at d;subst d;simp only[Aq,AAT (AAS.1 hi).1,AAT (AAS.1 hj).1];exact ih e hc
  |agg cs=>
   simp only[Aq]at e;simp only[AA6,Da]at d;cases hj:cs[j0]? with
   |none=>simp[hj]at e
   |some c=>
    simp only[hj]at e d;cases hc:Da c (p++[(i,j,k)]) new with
    |none=>simp[hc]at d
    |some c'=>simp only[hc,AAQ]at d;subst d;simp only[Aq,AAT (AAS.1 hj).1];exact ih e hc
  |BI cs=>
   simp only[Aq]at e;simp only[AA6,Da]at d;cases hj:cs[j0]? with
   |none=>simp[hj]at e
   |some c=>
    simp only[hj]at e d;cases hc:Da c (p++[(i,j,k)]) new with
    |none=>simp[hc]at d
    |some c'=>simp only[hc,AAQ]at d;subst d;simp only[Aq,AAT (AAS.1 hj).1];exact ih e hc
theorem Pn {b off:Nat} {v u:Value} {arr:Array Value} {E:TypeId} (a:w.heap[b]? =some (.cells arr E (0,0))) (f:arr[off]? =some u) (e:GM v=true):(store ⟨b,off,none⟩ v).run P w= .ok () (w.setCell ⟨b,off,none⟩ v):=by
 have c:w.cell? ⟨b,off,none⟩=some u:=by simp[World.cell?,a,f]
 have d:w.frozen? ⟨b,off,none⟩=false:=by simp[World.frozen?,a]
 cases v<;>first
  |simp[GM]at e;done
  |simp[store,Sem.run,c,d]
theorem PW {v:Value} {bx:Bool} {k:Nat} {rows:List (List DV)} {F:Nat->Prop} {b:Nat} (h:Ok w S (.own v bx k rows) F) (a:Sd v=some b):F b/\∃arr E,w.heap[b]? =some (.cells arr E (0,0))/\∀(i j:Nat) row d,rows[i]? =some row->row[j]? =some d->arr[i*k+j]? =some d.Aw:=by
 cases h with
 |nil=>simp[Sd]at a
 |own _ _ _ b' c arr E Fs _ p5 hk Dv LO hv hr hd Ba KG hF=>simp only[XD,AAQ]at a;subst a;exact⟨(hF b').2 (.inl rfl),arr,E,p5,hv⟩
theorem eZ {L:List Nat} {a:AV} (h:FL a=true):Fh L a=true:=by cases a<;>first| (simp;done)| (simp[FL]at h;done)
theorem aL (ds:List DV):∀{w:World} {t:DV} {F Fd:Nat->Prop} {p:List Step} {v:Value} {bx:Bool} {k i j b:Nat} {rows:List (List DV)} {c:List DV} {U:AV},Ok w S t F->Aq t p=some (.own v bx k rows)->Sd v=some b->rows[i]? =some c->j+ds.length≤c.length->
 JS w S ds Fd->(∀x,Fd x->¬F x)->(ds.map DV.er).all FL=true->stC p i k j (ds.map DV.er) t.er=some U->∀(m off:Nat),off+m=i*k+j->
 ∃(w':World) (y:DV) (Q:Nat->Prop),(storeCells ⟨b,off,none⟩ (ds.map DV.Aw) m).run P w= .ok () w'/\Ok w' S y Q/\y.er=U/\y.Aw=t.Aw/\(∀x,Q x->F x∨Fd x)/\(∀x,x≠b->w'.heap[x]? =w.heap[x]?)/\F b/\
  w'.os=w.os/\w'.tape=w.tape/\w'.output=w.output/\w'.heap.size=w.heap.size/\(∀δ,DU δ t->DU δ y)/\(∀L,Fh L t.er=true->Fh L y.er=true)/\
  ((((c.map DV.er).drop j).take ds.length).all C0=true->∀q v bx k rows,Aq t q=some (.own v bx k rows)->∃g,Aq y q=some (.own v bx k g)):=by
 induction ds with
 |nil=>intro w t F Fd p v bx k i j b rows c U h C K hi hj CZ O D z m off hm;simp only[AA1,stC,AAQ]at z;obtain⟨F1,s,J⟩:=h.Aq C;exact⟨w,t,F,by simp[storeCells],h,z,rfl,λx e=>.inl e,λ_ _=>rfl,J b (PW s K).1,rfl,rfl,rfl,rfl,λ_ h=>h,λ_ h=>h,λ_ q v bx k rows hq=>⟨rows,hq⟩⟩
 |cons d ds ih=>
  intro w t F Fd p v bx k i j b rows c U h C K hi hj CZ O D z m off hm;obtain⟨Fa,Fb,hd,JO,wU,H⟩:=CZ;simp only[AA4]at hj;have N:j<c.length:=by omega
  have f:c[j]? =some c[j]:=AAV N;obtain⟨Fn,W,X⟩:=h.Aq C;obtain⟨Qo,arr,E,p5,QR⟩:=PW W K;have l:=X b Qo;have LO:¬S b:=h.Et b l;have Nl:∀x,Fd x->x≠b:=by rintro x e rfl;exact O x e l
  have u:Ok (w.setCell ⟨b,i*k+j,none⟩ d.Aw) S d Fa:=by refine hd.mono (λx e=>DC _ _ _ _ _ ?_) (λx e=>DC _ _ _ _ _ (Nl x ((H x).2 (.inl e)))) (λ_ h=>h) hd.Et;rintro rfl;exact LO e
  obtain⟨t1,F1,I,gA,r,Jn,_⟩:=h.store p C hi f K u (λx e=>O x ((H x).2 (.inl e)));simp only[AAi,stC]at z;split at z
  . rename_i t'' Z;have uB:t1.er=t'':=(by obtain⟨t2,T,g2⟩:=HA d h.Kw Z;rw[I]at T;obtain rfl:=AAU T;exact g2);subst uB;have hs1:=putD_sub p C hi f I;have V:(rows.set i (c.set j d))[i]? =some (c.set j d):=AAT (AAS.1 hi).1;simp only[AAi,ABL,AAR]at D;have n:JS (w.setCell ⟨b,i*k+j,none⟩ d.Aw) S ds Fb:=(by refine JO.mono (λx e=>DC _ _ _ _ _ ?_) (λx e=>DC _ _ _ _ _ (Nl x ((H x).2 (.inr e)))) (λ_ h=>h) (Bt.2 JO).Et;rintro rfl;exact LO e);obtain⟨w',y,Q,CU,PG,M,Qq,Ku,XK,_,T,g2,g3,g4,g5,g6,RI⟩:=ih (off:=off) (m:=m+1) (j:=j+1) gA hs1 K V (by simp;omega) n (by
     intro x e hx1;rcases r x hx1 with s|s
     . exact O x ((H x).2 (.inr e)) s
     . exact wU x s e) D.2 z (by omega)
    refine⟨w',y,Q,?_,PG,M,Qq.trans Jn,?_,?_,l,T,g2,g3,by rw[g4];simp,?_,?_,?_⟩
    . have Ew:=Pn (P:=P) (w:=w) (off:=i*k+j) (v:=d.Aw) p5 (QR i j c _ hi f) (Kj hd D.1);simp only[AAi,storeCells,Sem.run_bind,Addr.add_lit,hm,Ew,Result.andThen_ok,CU]
    . intro x e;rcases Ku x e with s|s
      . rcases r x s with J|J
        . exact .inl J
        . exact .inr ((H x).2 (.inl J))
      . exact .inr ((H x).2 (.inr s))
    . intro x e;rw[XK x e,DC _ _ _ _ _ e]
    . intro δ Gk;refine g5 δ (Mc _ I Gk ?_);exact Q3 (ds:=[d]) (by simpa using D.1) d (by simp)
    . intro L hL;refine g6 L (Lp _ I hL ?_);exact eZ D.1
    . intro R q v' dP k' g hq;have B:(c.map DV.er).drop j=(c[j]).er::(c.map DV.er).drop (j+1):=(by rw[ABQ (by simpa using N)];simp);rw[B]at R;simp only[AA4,List.take_succ_cons,ABL,AAR]at R;have fU:∃a v,c[j]= .lf a v:=by
       have hl:=(h.Kw.Aq C);cases hl with
       |own _ _ _ _ hr=>
        have:=hr i j c _ hi f;have G:=R.1;cases Rx:c[j]with
        |lf a v=>exact⟨a,v,rfl⟩
        |own=>rw[Rx]at G;simp[C0]at G
        |agg=>rw[Rx]at G;simp[C0]at G
        |BI=>rw[Rx]at G;simp[C0]at G
      obtain⟨a0,v0,dT⟩:=fU;have o:Aq t (p++[(i,j,k)])=some (.lf a0 v0):=(by rw[IW,C];simp[Aq,hi,f,dT]);obtain⟨Jb,hq1⟩:=Q0 _ I o (by simp) (by simp) (by simp) q v' dP k' g hq;refine RI ?_ q v' dP k' Jb hq1;rw[ABJ,List.drop_set_of_lt (by omega)];exact R.2
  . cases z
theorem qR (h:St G w S δ Fr) {a:Act} (W:Rd δ a) {o:Oper} {t:TypeId} {x u:Operand} {n:Nat} {y z:Ar} (hd:I7 G a o none) (ho:o.op= .store t x u) (hn:Gg P t=some n) (hc:CB x y=true) (Mq:CB u z=true) {σ':Sg}
 (f:GU G (.st n y z) none (λs=>(δ s).er)=some σ'):QO P G w S Fr a o σ':=by
 obtain⟨hy,Mr⟩:=Aj hc W;obtain⟨hz,I⟩:=Aj Mq W;simp only[GU]at f;split at f
 . rename_i v τ ht;obtain⟨l,B,D,Ff,d,JH,FM,T0⟩:=h.tk hz ht;subst JH;subst FM;split at f
   . rename_i r p i j k VH;cases y with
     |c c=>simp[EB]at VH
     |t s=>
      obtain⟨vh,bx,Al,b,Fx,Bp,X,hp,CZ,_⟩:=d.st.EB VH;split at f
      . rename_i dP k' rows tW;obtain⟨D',H,AAI⟩:=Dj (d.st.ok r).Kw tW;rw[Bp]at H;obtain rfl:=AAU H;simp only[Ee,AV.own.injEq]at AAI;obtain⟨rfl,rfl,rfl⟩:=AAI;split at f
        . rename_i row Dt;rw[AAb,AAt]at Dt;obtain⟨Io,hrD,rfl⟩:=Dt;split at f
          . rename_i Fu;obtain⟨K,O,Z⟩:=Fu;split at f
            . rename_i t' B9;have hm:=LU D d.ok.Kw;have J:(cellsD D).length=n:=(by rw[← K,← hm];simp);have T1:=La d.ok O;rw[← hm]at B9 O;obtain⟨w',F,E,CU,PG,q,T,Ku,U,R,g1,g2,g3,g4,g5,g6,RI⟩:=aL (P:=P) (cellsD D) (d.st.ok r) Bp X hrD (by rw[J];simpa using Z) (NB d.ok) (λx g L=>d.MC r x L g) O B9 0 (i*k+j) rfl;have hS:∀x,S x->w'.heap[x]? =w.heap[x]? :=λx g=>U x (by rintro rfl;exact(d.st.ok r).Et _ R g);have hF:∀s,s≠r->∀x,B s x->w'.heap[x]? =w.heap[x]? :=λs hs x g=>U x (by rintro rfl;exact hs (d.st.MC s r _ g R));have C3:∀s,s≠r->∀x,E x->¬B s x:=by
               intro s hs x g L;rcases Ku x g with V|V
               . exact hs (d.st.MC s r x L V)
               . exact d.MC s x L V
              have Uk:(execOp a.eval o).run P w= .ok .skip w':=(by have PJ:¬((Cx δ z).cells.size≠n):=(by rw[← T0,T1];simp[J]);have hpt:Cx δ (.t s)= .pointer (some ⟨b,i*k+j,none⟩):=(by simp only[Cx];rw[← d.Aw s];exact hp);have G8:(Cx δ z).cells.toList=(cellsD D).map DV.Aw:=(by rw[← T0,T1]);simp only[execOp,ho,Mr,I,hpt,Instr.storeAt,Instr.sureAddr,storeVar,Sem.run_bind,Sem.run_pure,Result.andThen_ok,run_sizeOf hn,Sem.run_ite,PJ,AAd,G8,CU]);have Ry:∀(C:Nat->DV),(∀s,(C s).Aw=(l s).Aw)->Rd C (a.put o.dst undef):=(by intro C hδ s;have h0:o.dst=none:=hd;rw[h0];simp only[Act.put];rw[hδ,d.Aw];exact W s);have Ef:∀Q:Nat->Nat->Prop,(∀x,BA Q x->BA B x∨Ff x)->Nx w S (BA Fr) w' S (BA Q):=(by intro Q M;refine⟨g1,g2,g3,by omega,?_,λ_ h=>h,λ_ h=>.inl h,λJ b X=>by rw[g4];exact J b X,λx g=>.inl (d.own x (M x g))⟩;intro x _ hU;refine U x ?_;rintro rfl;exact hU (d.own _ (.inl ⟨r,R⟩)));have M:∀x,BA (DR B r E) x->BA B x∨Ff x:=by
               rintro x ⟨s,g⟩;by_cases e:s=r
               . subst e;rw[BD]at g;exact(Ku x g).imp (λh=>⟨s,h⟩) id
               . rw[BT _ _ e]at g;exact .inl ⟨s,g⟩
              have m:DU l F:=g5 l (d.st.al r);have Yy:Fh (G.Gy r) F.er=true:=g6 _ (d.st.rt r);split at f
              . rename_i II;simp only[AAQ]at f;subst f;refine⟨.skip,undef,w',S,DR l r F,DR B r E,Uk,.inr ⟨rfl,rfl⟩,Ry _ ?_,?_,d.st.poke r F E hS hF PG C3 Yy m (RI (by rw[J];exact II)) T,Ef _ M⟩
                . intro N;by_cases e:N=r
                  . subst e;rw[BD,T]
                  . rw[BT _ _ e]
                . funext N;by_cases e:N=r
                  . subst e;simp only[BD,q]
                  . simp only[BT _ _ e]
              . simp only[AAQ]at f;subst f;refine⟨.skip,undef,w',S,DR (HN G r l) r F,DR B r E,Uk,.inr ⟨rfl,rfl⟩,Ry _ ?_,?_,d.st.set r F E hS hF (λ_ h=>h) (λs _ x g=>(d.st.ok s).Et x g) PG C3 Yy m,Ef _ M⟩
                . intro N;rw[Hh d.st];split
                  . rename_i e;rw[e,T]
                  . rfl
                . rw[IH d.st,q]
            . cases f
          . cases f
        . cases f
      . cases f
   . cases f
 . cases f
end Go.Abs
namespace Go.Abs
variable {w w':World} {S S':Nat->Prop} {G:Gi} {δ:Nat->DV} {Fr:Nat->Nat->Prop} {P:Program}
def Reads (w:World) (v:Value) (n:Nat) (vs:List Value):Prop:=(∃a c,v= .slice a 0 c/\n=0/\vs=[])∨∃b off c,v= .slice (some ⟨b,off,none⟩) n c/\∀(j:Nat) u,vs[j]? =some u->w.cell? ⟨b,off+j,none⟩=some u
theorem QH {size n:Nat} {v:Value} {vs:List Value} (h:Reads w v n vs) (e:vs.length=n*size):(Builtin.firstCells size n v).run P w= .ok vs.toArray w:=by
 rcases h with⟨a,c,rfl,rfl,rfl⟩|⟨b,off,c,rfl,d⟩
 . cases a<;>simp[Builtin.firstCells,loadCells,loadCellsFrom]
 . exact run_firstCells_some (P:=P) w size n ⟨b,off,none⟩ n c vs e (λj u f=>by rw[Addr.add_lit];exact d j u f)
theorem Reads.drew {v:Value} {n:Nat} {vs:List Value} (h:Reads w v n vs):Reads w.drew v n vs:=h
theorem Reads.len {v:Value} {n:Nat} {vs:List Value} (h:Reads w v n vs):∃d c,v= .slice d n c:=by
 rcases h with⟨a,c,rfl,rfl,rfl⟩|⟨b,off,c,rfl,e⟩
 . exact⟨a,c,rfl⟩
 . exact⟨_,c,rfl⟩
theorem Tg {t ty e:TypeId} {i:TypeInfo} {z:Value} (r:P.underlying t=some (.slice e)) (hi:P.info? e=some i) (u:i.zero=some z) {base:ABr Addr} {n d m:Nat} {v:Value} {b a:List Value}
 (s:Reads w (.slice base n d) n b) (q:b.length=n*i.size) (k:Reads w v m a) (hn:a.length=m*i.size) (p:d<n+m) (y:(n+m)*i.bytes≤70368744177664) (l:n+m≤9223372036854775807):
 (Builtin.append_ #[t,t] ty #[.slice base n d,v]).run P w= .ok (.slice (some ⟨w.heap.size,0,none⟩) (n+m) (grownCap w (n+m) d e)) (w.drew.alloc (.cells ((b++a).toArray++Builtin.zeroCells z.cells (grownCap w (n+m) d e-(n+m))) e)):=by
 obtain⟨x,c,rfl⟩:=k.len;have j:¬(n+m≤d):=by omega
 have g:¬(9223372036854775807<((n:Int)+(m:Int))):=by omega
 have f:¬(281474976710656<Builtin.nextslicecap (n+m) d*i.bytes):=by have:=growslice_fits (bytes:=i.bytes) p (by omega);omega
 have o:=QH (P:=P) k.drew hn;have h:=QH (P:=P) s.drew q;simp[Builtin.append_,run_underlying r,sizeOf,typeInfo,zeroValue,hi,u,Builtin.lenOf,j,g,f,Question.forced,o,h,newRow,grownCap];congr 2;apply ABe;simp[ABB]
theorem cY {t ty e E:TypeId} {i:TypeInfo} (p:P.underlying t=some (.slice e)) (hi:P.info? e=some i) {g n d m:Nat} {v:Value} {a:List Value} {b:Array Value} (f:w.heap[g]? =some (.cells b E (0,0)))
 (j:Reads w v m a) (hn:a.length=m*i.size) (o:∀u∈a,u.oneCell'=true) (k:n+m≤d) (q:n*i.size+a.length≤b.size):
 (Builtin.append_ #[t,t] ty #[.slice (some ⟨g,0,none⟩) n d,v]).run P w= .ok (.slice (some ⟨g,0,none⟩) (n+m) d) (w.setRow g (b.toList.take (n*i.size)++a++b.toList.drop (n*i.size+a.length)).toArray):=by
 obtain⟨r,c,rfl⟩:=j.len;have l:=QH (P:=P) j hn;have h:=run_storeCells_at P g (n*i.size) E a 0 b w f (by simpa using q) o;simp only[Nat.add_zero]at h;simp[Builtin.append_,run_underlying p,sizeOf,typeInfo,hi,Builtin.lenOf,k,l,Addr.add_lit,h]
theorem vA {v:Value} (h:GM v=true):v.oneCell'=true:=by cases v<;>simp_all [GM,Value.oneCell']
theorem RF {x:Bool} {k:Nat} {rows:List (List AV)} {v:Value} (h:Fz w S (.sl x k rows) v):
 ∃ds:List (List DV),ds.map (·.map DV.er)=rows.map (·.map JQ)/\(∀r∈ds,r.length=k)/\JS w S ds.flatten (λ_=>False)/\Reads w v ds.length (ds.flatten.map DV.Aw)/\ds.length=rows.length:=by
 cases h with
 |nil x k a c hx=>exact⟨[],by simp,by simp,λ_ h=>h,.inl ⟨a,c,rfl,rfl,rfl⟩,rfl⟩
 |sl x k rows b off c vs hx QS hS hk hc hr=>
  obtain⟨ds,l,p⟩:=LB rows (λi f (g:List DV)=>g.map DV.er=f.map JQ/\g.length=k/\(∀d∈g,Ok w S d (λ_=>False))/\∀(j:Nat) d,g[j]? =some d->w.cell? ⟨b,off+(i*k+j),none⟩=some d.Aw) (by
   intro i f hi;obtain⟨y,l,JW⟩:=LB f (λj a (d:DV)=>d.er=JQ a/\Ok w S d (λ_=>False)/\w.cell? ⟨b,off+(i*k+j),none⟩=some d.Aw) (by intro j a o;obtain⟨D,q,E,F,_⟩:=W4 (δ:=λ_=>default) (hr i j f a hi o);exact⟨D,q,F,by rw[E];exact hc i j f a hi o⟩);refine⟨y,?_,by rw[l];exact hk f (AAe hi),?_,?_⟩
   . exact map_mk l JW _ _ (by simp) λj a d e G=>by simp[G,e.1]
   . intro d hd;obtain⟨j,o⟩:=AAu hd;obtain⟨a,_,e⟩:=mem_mk l JW j d o;exact e.2.1
   . intro j d hd;obtain⟨a,_,e⟩:=mem_mk l JW j d hd;exact e.2.2)
  have m:∀r∈ds,r.length=k:=by intro r s;obtain⟨i,hi⟩:=AAu s;obtain⟨c,_,e⟩:=mem_mk l p i r hi;exact e.2.1
  refine⟨ds,?_,m,B4 ?_,.inr ⟨b,off,c,by rw[l],?_⟩,l⟩
  . exact map_mk l p _ _ (by simp) λi f y e B=>by simp[B,e.1]
  . intro d hd;rw[List.mem_flatten]at hd;obtain⟨r,s,hd⟩:=hd;obtain⟨i,hi⟩:=AAu s;obtain⟨c,_,e⟩:=mem_mk l p i r hi;exact e.2.2.1 d hd
  . intro n u z;rw[AAb,AAt]at z;obtain⟨d,hd,rfl⟩:=z;have t:n<ds.length*k:=(by rw[← Dd m];exact(AAS.1 hd).1);have C:0<k:=(Nat.eq_zero_or_pos k).elim (λh=>by subst h;simp at t) id;have hi:n/k<ds.length:=Nat.div_lt_of_lt_mul (by rw[ABT];exact t);have o:n%k<(ds[n/k]).length:=(by rw[m _ (AAl hi)];exact Nat.mod_lt _ C);have q:=Kr m (AAV hi) (AAV o);rw[ABT,Nat.div_add_mod,hd]at q;obtain rfl:=AAU q;obtain⟨c,_,e⟩:=mem_mk l p _ _ (AAV hi)
    have:=e.2.2.2 _ _ (AAV o);rw[show n/k*k+n%k=n from by rw[ABT];exact Nat.div_add_mod n k]at this;exact this
theorem UL {rows:List (List AV)} (h:rows.all (·.all HW)=true):rows.map (·.map JQ)=rows:=by
 rw[AAX]at h
 conv=>rhs;rw[← List.map_id rows]
 apply List.map_congr_left;intro r d;have b:=h r d;rw[AAX]at b
 conv=>rhs;rw[id,← List.map_id r]
 apply List.map_congr_left;intro a c
 have:=b a c;cases a<;>simp_all [HW,JQ]
theorem RU {ds:List (List DV)} {F:Nat->Prop} (h:JS w S ds.flatten F) (a:(ds.map (·.map DV.er)).all (·.all FL)=true):∀d∈ds.flatten,GM d.Aw=true:=by
 intro d hd;obtain⟨e,b,_,_,_⟩:=Jh.1 h;obtain⟨n,hn⟩:=AAu hd;refine Kj (b n d hn) ?_;rw[List.mem_flatten]at hd;obtain⟨r,c,hd⟩:=hd;rw[AAX]at a
 have:=a (r.map DV.er) (ABY c);rw[AAX]at this;exact this d.er (ABY hd)
theorem TE {rows:List (List AV)} (h:rows.all (·.all HW)=true):rows.all (·.all FL)=true:=by
 rw[AAX]at h ⊢;intro r c
 have:=h r c;rw[AAX]at this ⊢;intro a b
 have:=this a b;cases a<;>simp_all [HW,FL]
theorem aD {v:Value} {k:Nat} {rows:List (List DV)} {F:Nat->Prop} (h:Ok w S (.own v false k rows) F):Reads w v rows.length (rows.flatten.map DV.Aw)/\(∀r∈rows,r.length=k)/\∃a,JS w S rows.flatten a/\∀x,a x->F x:=by
 rcases aC h with⟨rfl,_,rfl,e⟩|⟨b,c,arr,E,a,rfl,j,l,o,q,g,p,e,i⟩
 . exact⟨.inl ⟨none,0,rfl,rfl,rfl⟩,by simp,λ_=>False,λ_ h=>h,λ_ h=>h.elim⟩
 . refine⟨.inr ⟨b,0,c,by simp[JW],?_⟩,l,a,g,λx m=>(e x).2 (.inr m)⟩;intro n u f;rw[AAb,AAt]at f;obtain⟨d,hd,rfl⟩:=f;simp[World.cell?,j,i n d hd]
theorem St.Wh (h:St G w S δ Fr) {y:Ar} {k:Nat} {M:List (List AV)} {τ:Sg} (hy:WL y) (a:Abs.Wh G k y (λs=>(δ s).er)=some (M,τ)):
 ∃(S1:Nat->Prop) (g:Nat->DV) (l:Nat->Nat->Prop) (j:List (List DV)) (z:Nat->Prop),St G w S1 g l/\(λs=>(g s).er)=τ/\(∀s,(g s).Aw=(δ s).Aw)/\j.map (·.map DV.er)=M/\(∀r∈j,r.length=k)/\
  JS w S1 j.flatten z/\Reads w (Cx δ y) j.length (j.flatten.map DV.Aw)/\(∀d∈j.flatten,GM d.Aw=true)/\(∀s x,l s x->¬z x)/\Nx w S (BA Fr) w S1 (λx=>BA l x∨z x):=by
 cases y with
 |c c=>
  simp only[Abs.Wh]at a;split at a
  . rename_i kk;simp only[AAQ,AAf]at a;obtain⟨rfl,rfl⟩:=a;exact⟨S,δ,Fr,[],λ_=>False,h,rfl,λ_=>rfl,rfl,by simp,λ_ h=>h,.inl ⟨none,0,by simp[Cx,Ix],rfl,rfl⟩,by simp,λ_ _ _ h=>h,Nx.less λx f=>f.elim id False.elim⟩
  . cases a
 |t s=>
  simp only[Abs.Wh]at a;cases hs:(δ s).er with
  |own b K rows=>
   cases b with
   |true=>simp[hs]at a
   |false=>
    simp only[hs]at a;split at a
    . rename_i m;obtain⟨rfl,O⟩:=m;simp only[AAQ,AAf]at a;obtain⟨rfl,rfl⟩:=a;obtain⟨F,hd,J⟩:=h.Xc hs;have H:=h.ok s;rw[hd]at H;obtain⟨V,hk,Q,L,q⟩:=aD H;refine⟨S,_,_,F,Q,h.empty s,by rw[IH h];simp,?_,J,hk,L,V,RU L (by rw[J];exact O),?_,Nx.less ?_⟩
      . intro t;rw[Hh h];split
        . rename_i e;rw[e];simp
        . rfl
      . intro t x f C;by_cases e:t=s
        . subst e;rw[BD]at f;exact f
        . rw[BT _ _ e]at f;exact e (h.MC t s x f (q x C))
      . rintro x (⟨t,f⟩|f)
        . by_cases e:t=s
          . subst e;rw[BD]at f;exact f.elim
          . rw[BT _ _ e]at f;exact⟨t,f⟩
        . exact⟨s,q x f⟩
    . cases a
  |sl W K rows=>
   simp only[hs]at a;split at a
   . rename_i m;obtain⟨rfl,n⟩:=m;simp only[AAQ,AAf]at a;obtain⟨rfl,rfl⟩:=a;obtain⟨ds,i,B,o,u,X⟩:=RF (h.leaf hs rfl).2.1;rw[UL n]at i;exact⟨S,δ,Fr,ds,λ_=>False,h,rfl,λ_=>rfl,i,B,o,u,RU o (by rw[i];exact TE n),λ_ _ _ h=>h,Nx.less λx f=>f.elim id False.elim⟩
   . cases a
  |al r p=>
   simp only[hs]at a;split at a
   . rename_i W K rows τ' U;split at a
     . rename_i m;obtain⟨rfl,n⟩:=m;simp only[AAQ,AAf]at a;obtain⟨rfl,rfl⟩:=a;obtain⟨g,l,Fo,v,bx,kk,F,N,T,P,q,C,Z,C3,I,_⟩:=h.QP U;obtain⟨_,_,R⟩:=h.leaf hs rfl;obtain⟨dP,k2,E,D⟩:=R;rw[q]at D;simp only[AAQ,DV.own.injEq]at D;obtain⟨ds,i,B,o,u,X⟩:=RF C;rw[UL n]at i;refine⟨_,g,l,ds,λ_=>False,N,T,P,i,B,o,by rw[D.1]at u;exact u,RU o (by rw[i];exact TE n),λ_ _ _ h=>h,Nx.JM ?_ ?_⟩
       . intro x f;exact I x (f.imp (λh=>h.elim id False.elim) id)
       . intro x f;obtain⟨t,ht⟩:=I x (.inr f);exact(h.ok t).lt x ht
     . cases a
   . cases a
  |_=>simp[hs]at a
theorem St.VD (h:St G w S δ Fr) {x:Ar} {k:Nat} {n:AV} {τ:Sg} (d:WL x) (a:Abs.VD G k x (λs=>(δ s).er)=some (n,τ)):
 (∃rows,n= .own false k rows/\∃(f:Nat->DV) (i:Nat->Nat->Prop) (g:List (List DV)) (Ff:Nat->Prop),St G w S f i/\(λs=>(f s).er)=τ/\(∀s,(f s).Aw=(δ s).Aw)/\g.map (·.map DV.er)=rows/\Ok w S (.own (Cx δ x) false k g) Ff/\
  (∀s x,i s x->¬Ff x)/\(∀x,BA i x∨Ff x->BA Fr x))∨
 (∃rows,n= .sl true k rows/\τ=(λs=>(δ s).er)/\rows.all (·.all HW)=true/\Fz w S (.sl true k rows) (Cx δ x)):=by
 cases x with
 |c c=>
  simp only[Abs.VD]at a;split at a
  . rename_i O;simp only[AAQ,AAf]at a;obtain⟨rfl,rfl⟩:=a;exact .inl ⟨[],rfl,δ,Fr,[],λ_=>False,h,rfl,λ_=>rfl,rfl,by simpa[Cx,Ix]using Ok.nil k _ (λ_ h=>h),λ_ _ _ h=>h,λx d=>d.elim id False.elim⟩
  . cases a
 |t s=>
  simp only[Abs.VD]at a;cases hs:(δ s).er with
  |own b y rows=>
   cases b with
   |true=>simp[hs]at a
   |false=>
    simp only[hs]at a;split at a
    . rename_i j;subst j;simp only[AAQ,AAf]at a;obtain⟨rfl,rfl⟩:=a;obtain⟨g,hd,m⟩:=h.Xc hs;have q:=h.ok s;rw[hd]at q;refine .inl ⟨rows,rfl,_,_,g,Fr s,h.empty s,by rw[IH h];simp,?_,m,by simpa[Cx]using q,?_,?_⟩
      . intro t;rw[Hh h];split
        . rename_i e;rw[e];simp
        . rfl
      . intro t x d M;by_cases e:t=s
        . subst e;rw[BD]at d;exact d
        . rw[BT _ _ e]at d;exact e (h.MC t s x d M)
      . rintro x (⟨t,d⟩|d)
        . by_cases e:t=s
          . subst e;rw[BD]at d;exact d.elim
          . rw[BT _ _ e]at d;exact⟨t,d⟩
        . exact⟨s,d⟩
    . cases a
  |sl ee y rows=>
   cases ee with
   |false=>simp[hs]at a
   |true=>
    simp only[hs]at a;split at a
    . rename_i H;obtain⟨rfl,K⟩:=H;simp only[AAQ,AAf]at a;obtain⟨rfl,rfl⟩:=a;exact .inr ⟨rows,rfl,rfl,K,(h.leaf hs rfl).2.1⟩
    . cases a
  |al r p=>
   simp only[hs]at a;split at a
   . rename_i y rows P N;split at a
     . rename_i j;subst j;simp only[AAQ,AAf]at a;obtain⟨rfl,rfl⟩:=a;obtain⟨f,i,D,Ff,z,J,E,L,u,⟨v,bx,O,g,rfl⟩,B,C,F,_,_⟩:=h.ZO N;simp only[Ee,AV.own.injEq]at u;obtain⟨rfl,rfl,m⟩:=u;obtain⟨_,_,I⟩:=h.leaf hs rfl;obtain⟨Q,R,o,l⟩:=I;rw[B]at l;simp only[AAQ,DV.own.injEq]at l;exact .inl ⟨rows,rfl,f,i,g,Ff,z,J,E,m,by rw[show Cx δ (.t s)=v from l.1.symm];exact L,C,F⟩
     . cases a
   . cases a
  |_=>simp[hs]at a
end Go.Abs
namespace Go.Abs
variable {w w':World} {S S':Nat->Prop} {G:Gi} {δ:Nat->DV} {Fr:Nat->Nat->Prop} {P:Program}
theorem YC {S1:Nat->Prop} {U1:Nat->Prop} {i:Nat->DV} {q:Nat->Nat->Prop} {a:Act} {o:Oper} {d:Dk} {σ':Sg} {k c:Nat} {rows:List (List DV)} {Fd:Nat->Prop} {arr:Array Value} {E:TypeId} (h:St G w S1 i q) (p:∀b,S1 b->b<w.heap.size) (K:Rd i a)
 (hd:I7 G a o (some d)) (N:(execOp a.eval o).run P w= .ok (.value (.slice (some ⟨w.heap.size,0,none⟩) rows.length c)) w') (l:w'.heap=w.heap.push (.cells arr E)) (t:w'.os=w.os) (y:w'.tape=w.tape) (u:w'.output=w.output)
 (m:JS w S1 rows.flatten Fd) (F:∀s x,q s x->¬Fd x) (L:∀z∈rows,z.length=k)
 (H:c*k=arr.size/\rows.length≤c) (O:∀(n:Nat) d,rows.flatten[n]? =some d->arr[n]? =some d.Aw)
 (I:wr d (.own false k (rows.map (·.map DV.er))) (λs=>(i s).er)=some σ') (C:∀x,BA q x∨Fd x->U1 x) (j:Nx w S (BA Fr) w S1 U1):QO P G w S Fr a o σ':=by
 have B:=(Bt.2 m).lt;have r:=(Bt.2 m).Et;have e:∀b,b<w.heap.size->w'.heap[b]? =w.heap[b]? :=λb f=>by rw[l,Array.getElem?_push,AAZ (by omega)]
 have Q:w'.heap[w.heap.size]? =some (.cells arr E (0,0)):=by rw[l];simp
 have J:Ok w' S1 (.own (JW false w.heap.size rows.length c) false k rows) (λx=>x=w.heap.size∨Fd x):=by refine nO Q L (by simpa using H) (λv=>by have:=p _ v;omega) ?_ (λv=>by have:=B _ v;omega) O;exact m.mono (λb f=>e b (p b f)) (λb f=>e b (B b f)) (λ_ h=>h) r
 refine KB (D:=.own (JW false w.heap.size rows.length c) false k rows) h K hd (by simpa[JW]using N) (λb f=>e b (p b f)) (λs x g=>e x ((h.ok s).lt x g)) (λ_ h=>h) (λs x g=>(h.ok s).Et x g) J ?_ (.own _ _ _ _) (by simpa using I) ?_
 . rintro s x g (rfl|hf)
   . have:=(h.ok s).lt _ g;omega
   . exact F s x g hf
 . refine j.trans ⟨t,y,u,by rw[l];simp,λb f _=>e b f,λ_ h=>h,λ_ h=>.inl h,λM b f=>by rw[l];have:=M b f;simp;omega,?_⟩;rintro x (g|rfl|g)
   . exact .inl (C x (.inl g))
   . exact .inr (AAv _)
   . exact .inl (C x (.inr g))
theorem Th {t ty e:TypeId} {i:TypeInfo} (f:P.underlying t=some (.slice e)) (hi:P.info? e=some i) {base:ABr Addr} {n c:Nat} (a:n≤c) {v:Value} (b:Reads w v 0 []):
 (Builtin.append_ #[t,t] ty #[.slice base n c,v]).run P w= .ok (.slice base n c) w:=by
 obtain⟨g,c',rfl⟩:=b.len;have d:=QH (P:=P) (size:=i.size) b (by simp);cases base<;>simp[Builtin.append_,run_underlying f,sizeOf,typeInfo,hi,Builtin.lenOf,d,a,storeCells]
theorem W7 {z:Value} {k n m cap:Nat} {a b:List Value} (e:z.cells.size=k) (c:a.length=n*k) (d:b.length=m*k) (f:n+m≤cap):cap*k=((a++b).toArray++Builtin.zeroCells z.cells (cap-(n+m))).size:=by simp only[Array.size_append,List.size_toArray,AAz,size_zeroCells,c,d,e,← Nat.add_mul];congr 1;omega
theorem fz_weak {x:Bool} {k:Nat} {rows:List (List AV)} {v:Value} (h:Fz w S (.sl x k rows) v):Fz w S (.sl false k rows) v:=by
 cases h with
 |nil _ _ a c _=>exact .nil _ _ _ _ (λh=>nomatch h)
 |sl _ _ _ b off c vs _ QS hS hk hc hr=>exact .sl _ _ _ _ _ _ _ (λh=>nomatch h) QS hS hk hc hr
theorem runs_app (h:St G w S δ Fr) (Cy:∀b,S b->b<w.heap.size) {a:Act} (ha:Rd δ a) {o:Oper} {c:Call} {u v:Operand} {t e:TypeId} {i:TypeInfo} {z:Value} {k bytes:Nat} {x y:Ar} {d:Dk} (hd:I7 G a o (some d)) (ho:o.op= .call c) (MF:c.callee= .builtin .append) (Ft:c.args= #[u,v]) (hty:c.argTypes= #[t,t])
 (hu:P.underlying t=some (.slice e)) (hi:P.info? e=some i) (PJ:i.size=k) (hby:i.bytes=bytes) (tS:0<bytes) (hz:i.zero=some z) (hzk:z.cells.size=k) (hc:CB u x=true) (Mq:CB v y=true) {σ':Sg}
 (p:GU G (.app k bytes x y) (some d) (λs=>(δ s).er)=some σ'):QO P G w S Fr a o σ':=by
 obtain⟨g,Mr⟩:=Aj hc ha;obtain⟨hy,hev2⟩:=Aj Mq ha;subst PJ;subst hby;have Uk:∀r w',(Builtin.append_ #[t,t] o.type #[Cx δ x,Cx δ y]).run P w= .ok r w'->(execOp a.eval o).run P w= .ok (.value r) w':=by intro r w' hr;simp only[execOp,ho,resolve,MF,Ft,hty,invoke,builtin,Sem.run_bind,Sem.run_pure,Result.andThen_ok,List.map_toArray,AAi,AA1,Mr,hev2,hr]
 simp only[GU]at p;split at p
 . rename_i ys τ hY;obtain⟨S1,δ1,F1,j,U,Ew,XF,Jn,J,Z,hyok,Q,hypl,O,tY⟩:=h.Wh hy hY;subst XF;have M:=tY.lt Cy;have hav:Cx δ1 x=Cx δ x:=(by cases x<;>simp[Cx,Jn]);have F:j.length=ys.length:=(by rw[← J];simp);split at p
   . -- a node
     rename_i b' k' rows τ' hX;split at p
     . rename_i PH;rcases Ew.VD g hX with⟨K2,hn,δ2,F2,f,Ff,KI,RH,MS,hrm,CZ,MT,KL⟩|⟨_,hn,_⟩
       . simp only[AV.own.injEq]at hn;obtain⟨rfl,rfl,rfl⟩:=hn;subst RH;have mV:f.length=rows.length:=(by rw[← hrm];simp);have ha2:Rd δ2 a:=λs=>(ha s).trans ((MS s).trans (Jn s)).symm;simp only[Af,AAk]at PH;rw[← mV,← F]at PH;have h63:f.length+j.length≤9223372036854775807:=(by have:=Nat.le_mul_of_pos_right (f.length+j.length) tS;omega);rw[hav]at CZ;obtain⟨hxr,hxk,Fc',hxok',Ku⟩:=aD CZ;have N:(f.flatten.map DV.Aw).length=f.length*i.size:=(by rw[AA0,Dd hxk]);have C:(j.flatten.map DV.Aw).length=j.length*i.size:=(by rw[AA0,Dd Z]);have W:∀x,BA F2 x∨Ff x->¬U x:=(by intro x g hfy;obtain⟨s,hs⟩:=KL x g;exact O s x hs hfy);have qB:(f++j).map (·.map DV.er)=rows++ys:=(by rw[AA3,hrm,J]);have hkk:∀r∈f++j,r.length=i.size:=by
          intro r hr;rcases AAh.1 hr with l|l
          . exact hxk r l
          . exact Z r l
         have hU:Nx w S (BA Fr) w S1 (λx=>BA F1 x∨U x):=tY;have II:∀T,(∀x,T x->Ff x)->JS w S1 f.flatten T->JS w S1 (f++j).flatten (λx=>T x∨U x):=(by intro T Bp tZ;rw[List.flatten_append];exact LY tZ hyok (λx g=>W x (.inr (Bp x g))));have grow:∀(base:ABr Addr) (n Ot:Nat),Cx δ x= .slice base n Ot->n=f.length->Ot<f.length+j.length->QO P G w S Fr a o σ':=by
          intro base n Ot I hn R;subst hn;rw[I]at hxr;have L:=Tg (P:=P) (ty:=o.type) hu hi hz hxr N Q C R PH h63;have kB:=grownCap_ge w (f.length+j.length) Ot e;obtain⟨W1,m⟩:∃W1,W1=w.drew.alloc (.cells ((f.flatten.map DV.Aw++j.flatten.map DV.Aw).toArray++Builtin.zeroCells z.cells (grownCap w (f.length+j.length) Ot e-(f.length+j.length))) e):=⟨_,rfl⟩;rw[← m]at L;refine YC (w':=W1) (Fr:=Fr) (U1:=λx=>BA F1 x∨U x) (rows:=f++j) (Fd:=λx=>Fc' x∨U x) (arr:=(f.flatten.map DV.Aw++j.flatten.map DV.Aw).toArray++Builtin.zeroCells z.cells (grownCap w (f.length+j.length) Ot e-(f.length+j.length))) (E:=e) KI M ha2 hd
           (by rw[AAz];exact Uk _ _ (by rw[I];exact L)) (by rw[m];rfl) (by rw[m];rfl) (by rw[m];rfl) (by rw[m];rfl) (II Fc' Ku hxok') ?_ hkk ⟨W7 hzk N C kB,by simpa using kB⟩ ?_ (by rw[qB];exact p) ?_ hU
          . rintro s x g (l|l)
            . exact MT s x g (Ku x l)
            . exact W x (.inl ⟨s,g⟩) l
          . intro n d hn;rw[List.flatten_append]at hn;have R:n<(f.flatten++j.flatten).length:=(AAS.1 hn).1;rw[Array.getElem?_append_left (by rw[List.size_toArray,AAz,AA0,AA0,← AAz];exact R),List.getElem?_toArray,← AA3,AAb,hn];rfl
          . rintro x (g|l|l)
            . exact .inl (KL x (.inl g))
            . exact .inl (KL x (.inr (Ku x l)))
            . exact .inr l
         rcases aC CZ with⟨I,_,hr0,hF0⟩|⟨b,cc,arr,E,T,I,hb,hk,Dv,hS,tZ,KG,hF,QR⟩
         . subst hr0;by_cases hm:j.length=0
           . have hy0:j=[]:=ABc hm;subst hy0;have L:=Th (P:=P) (w:=w) (ty:=o.type) hu hi (base:=none) (n:=0) (c:=0) (AAv 0) (by simpa using Q);have hys:ys=[]:=(by rw[← J];rfl);have uA:rows=[]:=(by rw[← hrm];rfl);subst hys;subst uA;refine KB (D:=.own (.slice none 0 0) false i.size []) (Ff:=λ_=>False) KI ha2 hd (by simpa using Uk _ _ (by rw[I];exact L)) (λ_ _=>rfl) (λ_ _ _=>rfl) (λ_ h=>h) (λs x g=>(KI.ok s).Et x g) (.nil _ _ (λ_ h=>h)) (λ_ _ _ h=>h) (.own _ _ _ _) (by simpa using p) ?_;exact hU.trans (Nx.less λx g=>.inl (KL x (.inl (g.elim id False.elim))))
           . exact grow none 0 0 I rfl (by omega)
         . by_cases tU:f.length+j.length≤cc
           . -- room
             simp only[AAY,AAd]at Dv;have hsz2:f.length*i.size+(j.flatten.map DV.Aw).length≤arr.size:=(by rw[C,← Dv.1,← Nat.add_mul];exact ABF _ tU);have L:=cY (P:=P) (ty:=o.type) hu hi hb Q C (by intro q hq;obtain⟨dd,ME,rfl⟩:=ABi.1 hq;exact vA (hypl dd ME)) tU hsz2;generalize B:w.setRow b (arr.toList.take (f.length*i.size)++j.flatten.map DV.Aw++arr.toList.drop (f.length*i.size+(j.flatten.map DV.Aw).length)).toArray=w1 at L;have X:w1.heap[b]? =some (.cells (arr.toList.take (f.length*i.size)++j.flatten.map DV.Aw++arr.toList.drop (f.length*i.size+(j.flatten.map DV.Aw).length)).toArray E (0,0)):=(by rw[← B];exact setRow_heap w b arr _ E _ hb);have VK:∀x,x≠b->w1.heap[x]? =w.heap[x]? :=λx g=>(by rw[← B];exact setRow_other w b x _ g);have AAL:Ff b:=(hF b).2 (.inl rfl);have hFc:∀x,T x->Ff x:=λx g=>(hF x).2 (.inr g);have hnb:∀x,T x∨U x->x≠b:=by
              rintro x (l|l) rfl
              . exact KG l
              . exact W x (.inr AAL) l
             have H:=II T hFc tZ;have fX:Ok w1 S1 (.own (JW false b (f++j).length cc) false i.size (f++j)) (λx=>x=b∨(T x∨U x)):=by
              refine nO X hkk ?_ hS (H.mono (λx g=>VK x (by rintro rfl;exact hS g)) (λx g=>VK x (hnb x g)) (λ_ h=>h) (Bt.2 H).Et) (λg=>hnb b g rfl) ?_
              . simp only[AAY,AAd,List.size_toArray,AAz,List.length_take,List.length_drop,Array.length_toList];refine⟨?_,by simpa using tU⟩;rw[Dv.1];omega
              . intro n d hn;rw[List.flatten_append]at hn;have hxl':f.flatten.length=f.length*i.size:=Dd hxk;rw[List.getElem?_toArray];have R:n<(f.flatten++j.flatten).length:=(AAS.1 hn).1;have htl:(arr.toList.take (f.length*i.size)).length=f.flatten.length:=(by have e0:arr.toList.length=arr.size:=Array.length_toList;rw[hxl',List.length_take];exact Nat.min_eq_left (by omega));rw[AAr (by rw[AAz,htl,AA0];simpa using R)];by_cases Ef:n<f.flatten.length
                . rw[AAr (by omega)]at hn ⊢;rw[ABV,AAa (by omega)]
                  have:=QR n d hn;simpa using this
                . rw[AAy (by omega)]at hn ⊢;rw[htl,AAb,hn];rfl
             refine KB (D:=.own (JW false b (f++j).length cc) false i.size (f++j)) (S1:=S1) (S':=S1) KI ha2 hd (by simpa[JW]using Uk _ _ (by rw[I];simpa[JW]using L)) (λx g=>VK x (by rintro rfl;exact hS g))
              (λs x g=>VK x (by rintro rfl;exact MT s x g AAL)) (λ_ h=>h) (λs x g=>(KI.ok s).Et x g) fX ?_ (.own _ _ _ _) (by rw[Ee,qB];exact p) ?_
             . rintro s x g (rfl|l|l)
               . exact MT s x g AAL
               . exact MT s x g (hFc x l)
               . exact W x (.inl ⟨s,g⟩) l
             . refine hU.trans ⟨by rw[← B];rfl,by rw[← B];rfl,by rw[← B];rfl,by rw[← B];simp[World.setRow],?_,λ_ h=>h,λ_ h=>.inl h,λhl q hq=>by have:=hl q hq;rw[← B];simpa[World.setRow]using this,?_⟩
               . intro x _ hUx;refine VK x ?_;rintro rfl;exact hUx (.inl (KL x (.inr AAL)))
               . rintro x (g|rfl|l|l)
                 . exact .inl (.inl (KL x (.inl g)))
                 . exact .inl (.inl (KL x (.inr AAL)))
                 . exact .inl (.inl (KL x (.inr (hFc x l))))
                 . exact .inl (.inr l)
           . exact grow _ _ cc (by rw[I];rfl) rfl (by omega)
       . cases hn
     . cases p
   . -- a frozen slice without room
     rename_i e0 k0 rows τ' hX;rcases Ew.VD g hX with⟨_,hn,_⟩|⟨K2,hn,hτ,UC,NW⟩
     . cases hn
     . simp only[AV.sl.injEq]at hn;obtain⟨rfl,rfl,rfl⟩:=hn;subst hτ;rw[hav]at NW;have Qp:Rd δ1 a:=λs=>(ha s).trans (Jn s).symm;obtain⟨ad,cap,I⟩:=O6 NW;have V:cap=rows.length:=by
        rw[I]at NW;cases NW with
        |nil _ _ _ _ g=>exact g rfl
        |sl _ _ _ _ _ _ _ g=>exact g rfl
       subst V;split at p
       . -- nothing to append
         rename_i hem;obtain rfl:=List.isEmpty_iff.1 hem;have hy0:j=[]:=ABc (by rw[F];rfl);subst hy0;have L:=Th (P:=P) (w:=w) (ty:=o.type) hu hi (base:=ad) (n:=rows.length) (c:=rows.length) (AAv _) (by simpa using Q);refine KB (D:=.lf (.sl false i.size rows) (.slice ad rows.length rows.length)) (Ff:=λ_=>False) (S1:=S1) (S':=S1) Ew Qp hd (by simpa using Uk _ _ (by rw[I];exact L)) (λ_ _=>rfl) (λ_ _ _=>rfl) (λ_ h=>h) (λs x g=>(Ew.ok s).Et x g) (.lf _ _ _ (by rw[← I];exact fz_weak NW) (λ_ h=>h)) (λ_ _ _ h=>h) (.lf _ _ trivial) (by rw[EU];exact p) ?_;exact tY.trans (Nx.less λx g=>.inl (g.elim id False.elim))
       . rename_i Nl;obtain⟨y0,K,rfl⟩:∃y0 K,ys=y0::K:=by
          cases ys with
          |nil=>exact absurd rfl Nl
          |cons y0 K=>exact⟨y0,K,rfl⟩
         split at p
         . rename_i PH;simp only[Af,AAk]at PH;obtain⟨f,l,h2,h3,h4,h5⟩:=RF NW;rw[UL UC]at l;have hyl1:j.length=(y0::K).length:=F;rw[← h5,← hyl1]at PH;have h63:f.length+j.length≤9223372036854775807:=(by have:=Nat.le_mul_of_pos_right (f.length+j.length) tS;omega);have N:(f.flatten.map DV.Aw).length=f.length*i.size:=(by rw[AA0,Dd h2]);have C:(j.flatten.map DV.Aw).length=j.length*i.size:=(by rw[AA0,Dd Z]);rw[I,← h5]at h4;have R:f.length<f.length+j.length:=(by rw[hyl1];simp);have L:=Tg (P:=P) (ty:=o.type) hu hi hz h4 N Q C R PH h63;have kB:=grownCap_ge w (f.length+j.length) f.length e;obtain⟨W1,m⟩:∃W1,W1=w.drew.alloc (.cells ((f.flatten.map DV.Aw++j.flatten.map DV.Aw).toArray++Builtin.zeroCells z.cells (grownCap w (f.length+j.length) f.length e-(f.length+j.length))) e):=⟨_,rfl⟩;rw[← m]at L;have qB:(f++j).map (·.map DV.er)=rows++y0::K:=(by rw[AA3,l,J]);refine YC (w':=W1) (Fr:=Fr) (U1:=λx=>BA F1 x∨U x) (rows:=f++j) (Fd:=λx=>False∨U x) (arr:=(f.flatten.map DV.Aw++j.flatten.map DV.Aw).toArray++Builtin.zeroCells z.cells (grownCap w (f.length+j.length) f.length e-(f.length+j.length))) (E:=e) Ew M Qp hd
            (by rw[AAz];exact Uk _ _ (by rw[I,← h5];exact L)) (by rw[m];rfl) (by rw[m];rfl) (by rw[m];rfl) (by rw[m];rfl) (by rw[List.flatten_append];exact LY h3 hyok (λ_ h=>h.elim)) ?_ ?_ ⟨W7 hzk N C kB,by simpa using kB⟩ ?_ (by rw[qB];exact p) ?_ tY
           . rintro s x g (l|l)
             . exact l
             . exact O s x g l
           . intro r hr;rcases AAh.1 hr with l|l
             . exact h2 r l
             . exact Z r l
           . intro n d hn;rw[List.flatten_append]at hn;have R:n<(f.flatten++j.flatten).length:=(AAS.1 hn).1;rw[Array.getElem?_append_left (by rw[List.size_toArray,AAz,AA0,AA0,← AAz];exact R),List.getElem?_toArray,← AA3,AAb,hn];rfl
           . rintro x (g|l|l)
             . exact .inl g
             . exact l.elim
             . exact .inr l
         . cases p
   . cases p
 . cases p
end Go.Abs
namespace Go.Abs
variable {w w':World} {S S':Nat->Prop} {G:Gi} {δ:Nat->DV} {Fr:Nat->Nat->Prop} {P:Program}
def placeOf (P:Program) (t:TypeId):Nat->ABr (Nat×Nat):=λi=>match P.underlying t with
 |some (.struct fs)=>match fs[i]? with
  |some f=>match Gg P f.type with
   |some n=>some (f.offset,n)
   |none=>none
  |none=>none
 |some (.array _ e)=>match Gg P e with
  |some k=>some (i*k,k)
  |none=>none
 |_=>none
def dC (P:Program) (t:TypeId):Bool:=match P.underlying t with
 |some (.struct fs)=>fs.toList.all λf=>(Gg P f.type).isSome
 |some (.array _ e)=>(Gg P e).isSome
 |_=>false
def cV (zc:Array Value) (n:Nat):List Value:=((Array.range n).map (zc[· %zc.size]!)).toList
def JT (P:Program):Op->Yb->Bool
 | .move x,.cp y=>CB x y
 | .assign x,.mv y=>CB x y
 | .assign x,.cp y=>CB x y
 | .pick c a b,.pick c' a' b'=>CB c c'&&CB a a'&&CB b b'
 | .alloc t,.bx n (.c z)=>Gg P t==some n&&(match(P.info? t).bind (·.zero),Ix z with|some v,some D=>qV v D.Aw|_,_=>false)
 | .box t x,.bx n y=>Gg P t==some n&&CB x y
 | .build t parts,.T6 z ps=>(match(P.info? t).bind (·.zero),Wx z with
  |some v,some zd=>Tk v.cells.toList (zd.map DV.Aw)&&z.all FL&&dC P t&&Ld (placeOf P t) parts.toList ps
  |_,_=>false)
 | .buildSlice t len parts,.OD k z ps=>(match P.underlying t with
  |some (.slice e)=>Gg P e==some k&&decide (len*k≤16777216)&&(match(P.info? e).bind (·.zero),sN z with
   |some v,some zd=>Tk (cV (if len*k=0 then #[]else v.cells) (len*k)) (zd.flatten.map DV.Aw)&&z.length==len&&z.all (·.length==k)&&Nf k parts.toList ps
   |_,_=>false)
  |_=>false)
 | .load t a,.ld g n b=>Gg P t==some n&&JP P t==some g&&(g||n==1)&&CB a b
 | .store t a x,.st n b y=>Gg P t==some n&&CB a b&&CB x y
 | .fieldAddr t x f,.Uf off y=>(match P.underlying t with
  |some (.struct fs)=>match fs[f]? with
   |some fd=>fd.offset==off&&(match Gg P fd.type with|some n=>n != 0|none=>false)
   |none=>false
  |_=>false)&&CB x y
 | .indexAddr t x i,.Yz k y j=>(match P.underlying t with|some (.slice e)=>Gg P e==some k|_=>false)&&CB x y&&CB i j
 | .indexAddr t x i,.aad len k y j=>(match P.underlying t with|some (.array n e)=>n==len&&Gg P e==some k|_=>false)&&CB x y&&CB i j
 | .makeSlice t x y,.mk k bytes z x' y'=>(match P.underlying t with
  |some (.slice e)=>match P.info? e with
   |some i=>i.size==k&&i.bytes==bytes&&decide (0<bytes)&&decide (0<k)&&z.length==k&&(match i.zero,Wx z with|some v,some zd=>Tk v.cells.toList (zd.map DV.Aw)|_,_=>false)
   |none=>false
  |_=>false)&&CB x x'&&CB y y'
 | .field t x f,.fld agg off n y=>(match P.underlying t with
  |some (.struct fs)=>match fs[f]? with
   |some fd=>fd.offset==off&&Gg P fd.type==some n&&JP P fd.type==some agg&&(agg||n==1)
   |none=>false
  |_=>false)&&CB x y
 | .index t x i,.idx agg len k y j=>(match P.underlying t with|some (.array n e)=>n==len&&Gg P e==some k&&JP P e==some agg&&(agg||k==1)|_=>false)&&CB x y&&CB i j
 | .index t x i,.jI y j=>(match P.underlying t with|some .string=>true|_=>false)&&CB x y&&CB i j
 | .binOp op _ x y _,.bin op' x' y'=>decide (op=op')&&CB x x'&&CB y y'
 | .binOp op t x y _,.beq neg x' y'=>decide (op=if neg=true then .neq else .eql)&&(match P.underlying t with|some .bool=>true|_=>false)&&CB x x'&&CB y y'
 | .binOp op t x y _,.jH neg kd x' y'=>decide (op=if neg=true then .neq else .eql)&&l6 P t kd&&CB x x'&&CB y y'
 | .load t a,.XZ b=>Gg P t==some 1&&JP P t==some false&&CB a b
 | .store t a x,.WC b y=>Gg P t==some 1&&CB a b&&CB x y
 | .nilCheck x,.Hx y=>CB x y
 | .makeFunc (.func f) first bP,.mkf f' ys=>f==f'&&first.isEmpty&&Gm bP.toList ys
 | .unOp op _ x,.un op' y=>decide (op=op')&&CB x y
 | .convert s d x,.cvt k y=>(match P.underlying s,P.underlying d with|some (.int _),some (.int k')=>decide (k=k')|_,_=>false)&&CB x y
 | .call c,.len y=>(match c.callee,c.args.toList,c.argTypes.toList with
  | .builtin .len,[x],[t]=>(match P.underlying t with|some (.slice _)=>true|_=>false)&&CB x y
  |_,_,_=>false)
 | .call c,.ZN y=>(match c.callee,c.args.toList,c.argTypes.toList with
  | .builtin .len,[x],[t]=>(match P.underlying t with|some .string=>true|_=>false)&&CB x y
  |_,_,_=>false)
 | .call c,.mm mx x y=>(match c.callee,c.args.toList with
  | .builtin b,[u,v]=>(match b,mx with| .max,true=>true| .min,false=>true|_,_=>false)&&CB u x&&CB v y
  |_,_=>false)
 | .call c,.app k bytes x y=>(match c.callee,c.args.toList,c.argTypes.toList with
  | .builtin .append,[u,v],[t,t']=>t==t'&&(match P.underlying t with
   |some (.slice e)=>match P.info? e with
    |some i=>i.size==k&&i.bytes==bytes&&decide (0<bytes)&&(match i.zero with|some z=>z.cells.size==k|none=>false)
    |none=>false
   |_=>false)&&CB u x&&CB v y
  |_,_,_=>false)
 | .slice t x lo hi mx,.qZ k fr y lo' hi' gU=>(match P.underlying t with|some (.slice e)=>Gg P e==some k|_=>false)&&(mx.isNone||hi.isSome)&&CB x y&&Q8 lo lo'&&Q8 hi hi'&&Q8 mx gU
 | .extract x i,.ext y j=>decide (i=j)&&CB x y
 |_,.bad=>true
 |_,_=>false
theorem arr2 {b:Type} {a:Array b} {x y:b} (h:a.toList=[x,y]):a= #[x,y]:=by apply ABe;simpa using h
theorem run_mapM {c d:Type} (l:List c) (f:c->Sem d) (g:c->d) (h:∀a∈l,(f a).run P w= .ok (g a) w):(l.mapM f).run P w= .ok (l.map g) w:=by
 induction l with
 |nil=>simp
 |cons a l ih=>have e:=h a (by simp);have i:=ih (λb j=>h b (by simp[j]));simp[List.mapM_cons,e,i]
theorem run_build {t:TypeId} {v:Value} {b:Array (Nat×Value)} {i:TypeInfo} (hi:P.info? t=some i) (p:i.zero=some v) (c:dC P t=true) (a:Array Value) (l:Instr.fill (placeOf P t) v.cells b.toList=some a):
 (Instr.build t b).run P w= .ok (.agg a) w:=by
 unfold dC at c;split at c
 . rename_i g h;have q:(g.mapM (m:=Sem) λ(f:Field)=>Prod.mk f.offset <$> sizeOf f.type).run P w= .ok (g.map λf=>(f.offset,(Gg P f.type).getD 0)) w:=by
    rw[Array.mapM_eq_mapM_toList]
    have:=run_mapM (P:=P) (w:=w) g.toList (λ(f:Field)=>(Prod.mk f.offset <$> sizeOf f.type:Sem (Nat×Nat))) (λf=>(f.offset,(Gg P f.type).getD 0)) (by
     intro f d;rw[AAX]at c
     have:=c f d;obtain⟨n,hn⟩:=Option.isSome_iff_exists.1 this;simp[run_sizeOf hn,hn])
    simp only[Sem.run_map,this,Result.andThen_ok];congr 1;apply ABe;simp
   have j:(λi=>Option.map (λ(f:Field)=>(f.offset,(Gg P f.type).getD 0)) g[i]?)=placeOf P t:=by
    funext i;simp only[placeOf,h];cases d:g[i]? with
    |none=>rfl
    |some f=>
     rw[AAX]at c
     have:=c f (by rw[Array.mem_toList_iff];exact Array.mem_of_getElem? d);obtain⟨n,hn⟩:=Option.isSome_iff_exists.1 this;simp[hn]
   simp only[Instr.build,zeroValue,typeInfo,Sem.run_bind,run_underlying h];simp[program,Sem.run,hi,p,q];rw[j,l];simp
 . rename_i n e h;obtain⟨k,o⟩:=Option.isSome_iff_exists.1 c;have j:(λi=>some (i*k,k))=placeOf P t:=(by funext i;simp[placeOf,h,o]);simp only[Instr.build,zeroValue,typeInfo,Sem.run_bind,run_underlying h];simp[program,Sem.run,hi,p,run_sizeOf o];rw[j,l];simp
 . cases c
theorem YA {t e:TypeId} {v:Value} {len k:Nat} {b:Array (Nat×Value)} {i:TypeInfo} (h:P.underlying t=some (.slice e)) (g:Gg P e=some k) (j:len*k≤16777216) (hi:P.info? e=some i) (l:i.zero=some v) (a:Array Value)
 (c:Instr.fill (λi=>some (i*k,k)) (cV (if len*k=0 then #[]else v.cells) (len*k)).toArray b.toList=some a):
 (Instr.buildSlice t len b).run P w= .ok (.slice (some ⟨w.heap.size,0,none⟩) len len) (w.alloc (.cells a e)):=by
 have f:¬(16777216<len*k):=by omega
 simp only[cV,Array.toArray_toList]at c;by_cases d:len*k=0
 . simp only[d,AAq]at c;simp[Instr.buildSlice,run_underlying h,run_sizeOf g,d];simp at c;rw[c];simp[newRow]
 . simp only[d,AAd]at c;simp[Instr.buildSlice,run_underlying h,run_sizeOf g,d,f,zeroValue,typeInfo,hi,l];rw[c];simp[newRow]
theorem UK {c:Type} [BEq c] [LawfulBEq c] {a:ABr c} {b:c} (h:(a==some b)=true):a=some b:=by simpa using h
theorem op_sound (h:St G w S δ Fr) (W:∀b,S b->b<w.heap.size) {a:Act} (E:Rd δ a) {o:Oper} {io:Yb} {d:ABr Dk} (hd:I7 G a o d) (l:JT P o.op io=true) {σ':Sg} (H:GU G io d (λs=>(δ s).er)=some σ'):QO P G w S Fr a o σ':=by
 have val:∀{v:AV},(∀{d},GU G io (some d) (λs=>(δ s).er)=(match valOf io (λs=>(δ s).er)with|some v=>wr d v (λs=>(δ s).er)|none=>none))->(GU G io none (λs=>(δ s).er)=none)->
  (∀v,valOf io (λs=>(δ s).er)=some v->Gives P w S δ a o v)->QO P G w S Fr a o σ':=by
  intro _ m C F;cases d with
  |none=>rw[C]at H;cases H
  |some d=>
   rw[m]at H;split at H
   . rename_i v B;exact ZK h E hd (F v B) H
   . cases H
 have O:∀{io:Yb},(GU G io none (λs=>(δ s).er)=none)->GU G io d (λs=>(δ s).er)=some σ'->∃M,d=some M:=by
  intro io m C;cases d with
  |none=>rw[m]at C;cases C
  |some d=>exact⟨d,rfl⟩
 unfold JT at l;split at l
 . rename_i x y p;exact val (v:=.dead) rfl rfl λv B=>Sb h E (.inl p) l B
 . rename_i x y p;obtain⟨M,rfl⟩:=O rfl H;exact runs_mv h E hd p l H
 . rename_i x y p;exact val (v:=.dead) rfl rfl λv B=>Sb h E (.inr p) l B
 . rename_i c x y c' Z y' p;simp only[AAR]at l;exact val (v:=.dead) rfl rfl λv B=>mL h E p l.1.1 l.1.2 l.2 B
 . rename_i t n z p;simp only[AAR]at l;obtain⟨m,C⟩:=l;split at C
   . rename_i v D B hD;obtain⟨i,hi,N⟩:=Option.bind_eq_some_iff.1 B;obtain⟨M,rfl⟩:=O rfl H;refine qQ (t:=t) (y:=.c z) h W E hd ⟨D,hD⟩ ?_ H
     have:=vP (P:=P) t i v hi N w;simp only[execOp,p,Sem.run_bind,this,Result.andThen_ok,Sem.run_pure,Cx,hD,iY C]
   . cases C
 . rename_i t x n y p;simp only[AAR]at l;obtain⟨hy,Mr⟩:=Aj l.2 E;obtain⟨M,rfl⟩:=O rfl H;refine qQ (t:=t) h W E hd hy ?_ H;simp only[execOp,p,Sem.run_bind,qP,Result.andThen_ok,Sem.run_pure,Mr]
 . rename_i t V z ps p;split at l
   . rename_i v zd B N;simp only[AAR]at l;obtain⟨⟨⟨m,C⟩,F⟩,Q⟩:=l;obtain⟨i,hi,U⟩:=Option.bind_eq_some_iff.1 B;obtain⟨M,rfl⟩:=O rfl H;refine runs_bld h E hd p N C Q (λJ T=> ?_) H;refine run_build hi U F J ?_
     have:=Po m;have e:v.cells=(zd.map DV.Aw).toArray:=(by apply ABe;simpa using this);rw[e];simpa using T
   . cases l
 . rename_i t len V k z ps p;split at l
   . rename_i e I;simp only[AAR,AAk]at l;obtain⟨⟨m,C⟩,F⟩:=l;split at F
     . rename_i v zd B N;simp only[AAR,AAg]at F;obtain⟨⟨⟨L,g2⟩,K⟩,R⟩:=F;obtain⟨i,hi,U⟩:=Option.bind_eq_some_iff.1 B;obtain⟨M,rfl⟩:=O rfl H;refine runs_bsl (e:=e) h W E hd p N (λr hr=>by rw[AAX]at K;simpa using K r hr) g2 R (λJ T=> ?_) H;refine YA I (UK m) C hi U J ?_;rw[Po L];simpa using T
     . cases F
   . cases l
 . rename_i t x g n y p;simp only[AAR,AA2,AAg]at l;exact val (v:=.dead) rfl rfl λv B=>Sc h E p l.1.1.1 l.1.1.2 l.1.2 l.2 B
 . rename_i t x u n y z p;simp only[AAR,AAg]at l;cases d with
   |some d=>simp[GU,valOf]at H
   |none=>exact qR h E hd p l.1.1 l.1.2 l.2 H
 . rename_i t x f off y p;simp only[AAR]at l;obtain⟨m,C⟩:=l;split at m
   . rename_i fs I;split at m
     . rename_i fd T;simp only[AAR,AAg]at m;obtain⟨L,g2⟩:=m;split at g2
       . rename_i n hn;simp only[bne_iff_ne]at g2;exact val (v:=.dead) rfl rfl λv B=>Zo h E p I T L hn g2 C B
       . cases g2
     . cases m
   . cases m
 . rename_i t x i k y j p;simp only[AAR]at l;obtain⟨⟨m,C⟩,F⟩:=l;split at m
   . rename_i e I;exact val (v:=.dead) rfl rfl λv B=>Zp h E p I (UK m) C F B
   . cases m
 . rename_i t x i len k y j p;simp only[AAR]at l;obtain⟨⟨m,C⟩,F⟩:=l;split at m
   . rename_i n e I;simp only[AAR,AAg]at m;obtain⟨rfl,g2⟩:=m;exact val (v:=.dead) rfl rfl λv B=>sX h E p I g2 C F B
   . cases m
 . rename_i t x y k bytes z Z y' p;simp only[AAR]at l;obtain⟨⟨m,C⟩,F⟩:=l;split at m
   . rename_i e I;split at m
     . rename_i i hi;simp only[AAR,AAg,AAk]at m;obtain⟨⟨⟨⟨⟨L,g2⟩,K⟩,R⟩,g5⟩,g6⟩:=m;split at g6
       . rename_i v zd B N;obtain⟨M,rfl⟩:=O rfl H;exact runs_mk h W E hd p I hi B L g2 K R N (Po g6) g5 C F H
       . cases g6
     . cases m
   . cases m
 . rename_i t x f agg off n y p;simp only[AAR]at l;obtain⟨m,C⟩:=l;split at m
   . rename_i fs I;split at m
     . rename_i fd T;simp only[AAR,AAg,AA2]at m;obtain⟨⟨⟨L,g2⟩,K⟩,R⟩:=m;exact val (v:=.dead) rfl rfl λv B=>s8 h E p I T L g2 K R C B
     . cases m
   . cases m
 . rename_i t x i agg len k y j p;simp only[AAR]at l;obtain⟨⟨m,C⟩,F⟩:=l;split at m
   . rename_i n e I;simp only[AAR,AAg,AA2]at m;obtain⟨⟨⟨rfl,g2⟩,K⟩,R⟩:=m;exact val (v:=.dead) rfl rfl λv B=>s9 h E p I g2 K R C F B
   . cases m
 . rename_i t x i y j p;simp only[AAR]at l;obtain⟨⟨m,C⟩,F⟩:=l;split at m
   . rename_i I;exact val (v:=.dead) rfl rfl λv B=>mN h E p I C F B
   . cases m
 . rename_i op t x y u op' Z y' p;simp only[AAR,AAk]at l;obtain⟨⟨rfl,C⟩,F⟩:=l;exact val (v:=.dead) rfl rfl λv B=>sZ h E p C F B
 . rename_i op t x y u neg Z y' p;simp only[AAR,AAk]at l;obtain⟨⟨⟨m,C⟩,F⟩,Q⟩:=l;split at C
   . rename_i I;exact val (v:=.dead) rfl rfl λv B=>sY h E p m I F Q B
   . cases C
 . rename_i op t x y u neg kd Z y' p;simp only[AAR,AAk]at l;obtain⟨⟨⟨m,C⟩,F⟩,Q⟩:=l;exact val (v:=.dead) rfl rfl λv B=>mM h E p m C F Q B
 . rename_i t x y p;simp only[AAR,AAg]at l;exact val (v:=.dead) rfl rfl λv B=>Sc h E p l.1.1 l.1.2 (.inr rfl) l.2 (lda_ld B)
 . rename_i t x u y z p;simp only[AAR,AAg]at l;cases d with
   |some d=>simp[GU,valOf]at H
   |none=>exact qR h E hd p l.1.1 l.1.2 l.2 (sts_st H)
 . rename_i x y p;exact val (v:=.dead) rfl rfl λv B=>mK h E p l B
 . rename_i f first bP f' ys p
   simp only[AAR,AAg]at l;obtain⟨⟨rfl,m⟩,C⟩:=l;exact val (v:=.dead) rfl rfl λv B=>Zq h E p (by simpa using m) C B
 . rename_i op t x op' y p;simp only[AAR,AAk]at l;obtain⟨rfl,C⟩:=l;exact val (v:=.dead) rfl rfl λv B=>AAH h E p C B
 . rename_i s t x k y p;simp only[AAR]at l;obtain⟨m,C⟩:=l;split at m
   . rename_i k0 k' hs ht;simp only[AAk]at m;subst m;exact val (v:=.dead) rfl rfl λv B=>s6 h E p hs ht C B
   . cases m
 . rename_i c y p;split at l
   . rename_i x t L g2 K;simp only[AAR]at l;obtain⟨m,C⟩:=l;split at m
     . rename_i e I;exact val (v:=.dead) rfl rfl λv B=>tF h E p L g2 K ⟨e,I⟩ C B
     . cases m
   . cases l
 . rename_i c y p;split at l
   . rename_i x t L g2 K;simp only[AAR]at l;obtain⟨m,C⟩:=l;split at m
     . rename_i I;exact val (v:=.dead) rfl rfl λv B=>mO h E p L g2 K I C B
     . cases m
   . cases l
 . rename_i c mx x y p;split at l
   . rename_i b u v MF Ft;simp only[AAR]at l;obtain⟨⟨m,C⟩,F⟩:=l;have hb:b=(if mx=true then .max else .min):=by
      split at m
      . rfl
      . rfl
      . cases m
     exact val (v:=.dead) rfl rfl λv B=>AAG h E p (by rw[MF,hb]) Ft C F B
   . cases l
 . rename_i c k bytes x y p;split at l
   . rename_i u v t t' L g2 K;simp only[AAR,AAg]at l;obtain⟨⟨⟨rfl,m⟩,C⟩,F⟩:=l;split at m
     . rename_i e I;split at m
       . rename_i i hi;simp only[AAR,AAg,AAk]at m;obtain⟨⟨⟨k1,k2⟩,k3⟩,X⟩:=m;split at X
         . rename_i z N;simp only[AAg]at X;obtain⟨M,rfl⟩:=O rfl H;exact runs_app h W E hd p L (arr2 g2) (arr2 K) I hi k1 k2 k3 N X C F H
         . cases X
       . cases m
     . cases m
   . cases l
 . rename_i t x lo hi mx k fr y lo' hi' gU p;simp only[AAR,AA2,ABI]at l;obtain⟨⟨⟨⟨⟨m,C⟩,F⟩,Q⟩,h5⟩,h6⟩:=l;split at m
   . rename_i e I;obtain⟨M,rfl⟩:=O rfl H;cases fr with
     |true=>exact iW h E hd p I (UK m) F Q h5 h6 (C.imp id (by intro q hq;simp[hq]at q)) H
     |false=>exact vQ h E hd p I (UK m) F Q h5 h6 (C.imp id (by intro q hq;simp[hq]at q)) H
   . cases m
 . rename_i x i y j p;simp only[AAR,AAk]at l;obtain⟨rfl,C⟩:=l;exact val (v:=.dead) rfl rfl λv B=>s7 h E p C B
 . cases d<;>simp[GU,valOf]at H
 . cases l
end Go.Abs
namespace Go.Abs
variable {w w':World} {S S':Nat->Prop} {G:Gi} {δ:Nat->DV} {Fr:Nat->Nat->Prop} {P:Program}
def Rel (G:Gi) (n:Nat) (w0:World) (S0 U0:Nat->Prop) (a:Act) (w:World) (σ:Sg):Prop:=
 ∃(S:Nat->Prop) (δ:Nat->DV) (F:Nat->Nat->Prop),a.tmps.size=n/\a.defers=[]/\Rd δ a/\(λs=>(δ s).er)=σ/\St G w S δ F/\Nx w0 S0 U0 w S (BA F)/\(∀b,S b->b<w.heap.size)
def Yj (w0:World) (S0 U0:Nat->Prop):Prop:=GI w0 S0/\∀b,S0 b->¬U0 b/\b<w0.heap.size
theorem GI.mono (h:GI w S) (c:∀b,S b->S' b):GI w S':=λx a=>⟨c _ (h x a).1,(h x a).2⟩
theorem Yj.now {f:World} {b c U:Nat->Prop} (e:Yj f b c) (a:Nx f b c w S U):GI w S:=by intro x k;obtain⟨d,arr,E,fz,g,h⟩:=e.1 x k;obtain⟨i,j⟩:=e.2 _ d;exact⟨a.sub _ d,arr,E,fz,by rw[a.block _ j i];exact g,h⟩
theorem Ja (h:St G w S δ Fr) {d:DV} {F:Nat->Prop} (hd:Ok w S d F) (R:∀x,F x->BA Fr x) (Q:DU δ d) {a:AV} (f:TJ (λs=>(δ s).er) d.er=some a):
 ∃D,D.er=a/\D.Aw=d.Aw/\Ok w (λx=>S x∨BA Fr x) D (λ_=>False):=by
 have C:∀(b:AV) (v:Value),Fz w (λx=>S x∨BA Fr x) b v->C0 b=true->(∀y,b≠ .fp y)->(b≠ .un)->∃D:DV,D.er=b/\D.Aw=v/\Ok w (λx=>S x∨BA Fr x) D (λ_=>False):=by
  intro b v n g M O;refine⟨.lf b v,by simp,by simp,.lf _ _ _ ?_ (λ_ h=>h)⟩;cases b with
  |sc u=>cases n with|sc _ N=>exact⟨rfl,N⟩
  |sl=>exact n
  |dead=>trivial
  |cl=>trivial
  |vb=>cases n
  |mG=>cases n
  |al=>trivial
  |Kn=>trivial
  |fp y=>exact absurd rfl (M y)
  |un=>exact absurd rfl O
  |own=>simp[C0]at g
  |agg=>simp[C0]at g
  |BI=>simp[C0]at g
 have U:∀{D:DV} {B:Nat->Prop} {k:Nat} {i:List AV},Ok w S D B->(∀x,B x->BA Fr x)->D.er= .own true k [i]->∃z,z.er= .fp (i.map JM)/\z.Aw=D.Aw/\Ok w (λx=>S x∨BA Fr x) z (λ_=>False):=by
  intro D B k i m P l;refine⟨.lf (.fp (i.map JM)) D.Aw,by simp,by simp,.lf _ _ _ ?_ (λ_ h=>h)⟩;cases m with
  |lf b v _ ha _=>simp only[EU]at l;subst l;exact ha.elim
  |nil=>simp at l
  |agg=>simp at l
  |BI=>simp at l
  |own bx T rows b c arr E Fs _ hb hk Dv LO hv Yd ME Ba KG mQ=>
   simp only[Ee,AV.own.injEq]at l;obtain⟨rfl,rfl,I⟩:=l;refine⟨b,0,by simp[JW],.inr (P b ((mQ b).2 (.inl rfl))),λj a J=> ?_⟩
   match rows,I with
   |[Io],I=>
    simp only[AAi,AA1,List.cons.injEq,and_true]at I;subst I;simp only[List.map_map,AAb]at J;cases hjd:Io[j]? with
    |none=>simp[hjd]at J
    |some d=>
     simp only[hjd,AAw,AAQ,Function.comp]at J;subst J;refine⟨d.Aw,?_,?_⟩
     . have:=hv 0 j Io d rfl hjd;simp only[World.cell?,hb];simpa using this
     . exact(Yd 0 j Io d rfl hjd).freeze.mono (λ_ _=>rfl) (λx o=>o.imp id (λn=>P x ((mQ x).2 (.inr ⟨0,j,n⟩))))
 cases hd with
 |lf b v _ ha mQ=>
  simp only[EU]at f;cases b with
  |sc u=>simp only[TJ,AAQ]at f;subst f;obtain⟨rfl,N⟩:=ha;exact C _ _ (.sc _ N) rfl (by simp) (by simp)
  |sl e k rows=>
   simp only[TJ,AAQ]at f;subst f;have n:Fz w (λx=>S x∨BA Fr x) (.sl false k rows) v:=by
    have L:Fz w (λx=>S x∨BA Fr x) (.sl e k rows) v:=Fz.mono ha (λ_ _=>rfl) (λ_ h=>.inl h);cases L with
    |nil x k a c o=>exact .nil _ _ _ _ (by simp)
    |sl x k rows b off c vs o QS hS hk hc f=>exact .sl _ _ _ b off c vs (by simp) QS hS hk hc f
   exact C _ _ n rfl (by simp) (by simp)
  |al r p=>
   simp only[TJ]at f;split at f
   . rename_i k rows hn;simp only[AAQ]at f;cases Q with
     |lf _ _ g=>obtain⟨bx,T,t,g⟩:=g;obtain⟨D,H,l⟩:=Dj (h.ok r).Kw hn;rw[g]at H;obtain rfl:=AAU H;obtain⟨B,m,K⟩:=(h.ok r).Aq g;have q:=m.freeze;rw[l,f]at q;subst f;simp only[Nj]at q ⊢;exact C _ _ (q.mono (λ_ _=>rfl) (λx o=>o.imp id (λn=>⟨r,K x n⟩))) rfl (by simp) (by simp)
   . rename_i k i hn;simp only[AAQ]at f;cases Q with
     |lf _ _ g=>obtain⟨bx,T,t,g⟩:=g;obtain⟨D,H,l⟩:=Dj (h.ok r).Kw hn;rw[g]at H;obtain rfl:=AAU H;obtain⟨B,m,K⟩:=(h.ok r).Aq g;subst f;obtain⟨z,V,W,X⟩:=U m (λx o=>⟨r,K x o⟩) l;exact⟨z,V,by simpa using W,X⟩
   . cases f
  |own=>exact ha.elim
  |fp y=>simp only[TJ,AAQ]at f;subst f;exact⟨.lf (.fp y) v,by simp,by simp,.lf _ _ _ (Hg.mono (a:=.fp y) ha (λ_ _=>rfl) (λ_ h=>.inl h)) (λ_ h=>h)⟩
  |_=>simp[TJ]at f
 |nil k _ mQ=>simp only[Ee,AA1,TJ,AAQ]at f;subst f;simp only[Nj,AA1];exact C _ _ (.nil false k none 0 (by simp)) rfl (by simp) (by simp)
 |own bx k rows b c arr E Fs _ hb hk Dv LO hv Yd ME Ba KG mQ=>
  have m:=Ok.own bx k rows b c arr E Fs F hb hk Dv LO hv Yd ME Ba KG mQ;have q:=m.freeze;cases bx with
  |true=>
   simp only[Ee]at f
   match rows,f,m with
   |[i],f,m=>simp only[AAi,AA1,TJ,AAQ]at f;subst f;exact U (k:=k) m R (by simp)
   |[],f,_=>simp[TJ]at f
   |_::_::_,f,_=>simp[TJ]at f
  |false=>simp only[Ee,TJ,AAQ]at f;rw[Ee,f]at q;subst f;simp only[Nj]at q ⊢;exact C _ _ (q.mono (λ_ _=>rfl) (λx o=>o.imp id (R x))) rfl (by simp) (by simp)
 |agg=>simp[TJ]at f
 |BI=>simp[TJ]at f
theorem vH (h:St G w S δ Fr) (ds:List DV):∀{l:List AV},(∀d∈ds,∃F,Ok w S d F/\∀x,F x->BA Fr x)->(∀d∈ds,DU δ d)->xB (λs=>(δ s).er) (ds.map DV.er)=some l->
 ∃b:List DV,b.map DV.er=l/\b.map DV.Aw=ds.map DV.Aw/\∀D∈b,Ok w (λx=>S x∨BA Fr x) D (λ_=>False):=by
 induction ds with
 |nil=>intro l _ _ a;simp only[AA1,xB,AAQ]at a;simp_all
 |cons d ds ih=>
  intro l f g a;simp only[AAi,xB]at a;split at a
  . rename_i x l' j k;simp only[AAQ]at a;subst a;obtain⟨F,i,g2⟩:=f d (by simp);obtain⟨D,m,n,o⟩:=Ja h i g2 (g d (by simp)) j;obtain⟨b,p,q,r⟩:=ih (λe c=>f e (by simp[c])) (λe c=>g e (by simp[c])) k;refine⟨D::b,by grind,by grind,?_⟩;simp_all
  . cases a
theorem aF (h:St G w S δ Fr) {d:DV} {F:Nat->Prop} (hd:Ok w S d F) (j:∀x,F x->BA Fr x) (g:DU δ d) {a:AV} (f:gY (λs=>(δ s).er) d.er=some a):
 ∃D,D.er=a/\D.Aw=d.Aw/\Ok w (λx=>S x∨BA Fr x) D (λ_=>False):=by
 cases Qr:d.er with
 |agg cs=>
  obtain⟨ds,rfl⟩:∃ds,d= .agg ds:=by
   have:=hd.Kw;cases d with
   |agg ds=>simp_all
   |lf c v=>cases this with|lf _ _ n=>simp at Qr;subst Qr;simp[C0]at n
   |own=>simp at Qr
   |BI=>simp at Qr
  simp only[HU,gY]at f;split at f
  . rename_i l n;simp only[AAQ]at f;subst f;cases hd with
    |agg _ Fs _ h1 h2 h3 h4=>
     cases g with
     |agg _ g=>obtain⟨o,t,u,y⟩:=vH h ds (λe m=>by obtain⟨i,hi⟩:=AAu m;exact⟨Fs i,h1 i e hi,λx q=>j x ((h4 x).2 ⟨i,q⟩)⟩) (λe m=>by obtain⟨i,hi⟩:=AAu m;grind) n;exact⟨.agg o,by simp[t],by simp[u],Bt.2 (B4 y)⟩
  . cases f
 |al r p=>rw[Qr]at f;simp only[gY]at f;rw[← Qr]at f;exact Ja h hd j g f
 |own b k rows=>rw[Qr]at f;simp only[gY]at f;rw[← Qr]at f;exact Ja h hd j g f
 |sc v=>rw[Qr]at f;simp only[gY]at f;rw[← Qr]at f;exact Ja h hd j g f
 |sl e k rows=>rw[Qr]at f;simp only[gY]at f;rw[← Qr]at f;exact Ja h hd j g f
 |fp cs=>rw[Qr]at f;simp only[gY]at f;rw[← Qr]at f;exact Ja h hd j g f
 |_=>simp[Qr,gY]at f
theorem TG (h:St G w S δ Fr) {a:Act} (B:Rd δ a) (k:List Ar):∀{f:List Operand} {d:List AV},Gm f k=true->Jr (λs=>(δ s).er) k=some d->
 ∃i:List DV,i.map DV.er=d/\i.map DV.Aw=f.map a.eval/\∀D∈i,Ok w (λx=>S x∨BA Fr x) D (λ_=>False):=by
 induction k with
 |nil=>
  intro f d g e;cases f with
  |cons=>simp[Gm]at g
  |nil=>simp only[Jr,AAQ]at e;simp_all
 |cons y k ih=>
  intro f d g e;cases f with
  |nil=>simp[Gm]at g
  |cons x f=>
   simp only[Gm,AAR]at g;obtain⟨E,F⟩:=Aj g.1 B;simp only[Jr]at e;split at e
   . rename_i b l j z;simp only[AAQ]at e;subst e;obtain⟨D,m,n,o⟩:∃D,D.er=b/\D.Aw=Cx δ y/\Ok w (λx=>S x∨BA Fr x) D (λ_=>False):=by
      cases y with
      |t s=>exact aF h (h.ok s) (λx C=>⟨s,C⟩) (h.al s) j
      |c c=>obtain⟨q,p⟩:=E;obtain⟨r,u,v,_⟩:=Ib (w:=w) (S:=S) (δ:=δ) c q p;simp only[ar]at j;rw[← r]at j;obtain⟨D,m,n,o⟩:=aF h u (λ_ h=>h.elim) v j;exact⟨D,m,by rw[n];simp[Cx,p],o⟩
     obtain⟨i,H,I,J⟩:=ih g.2 z;refine⟨D::i,by grind,by simp_all,?_⟩;simp_all
   . cases e
theorem RG {d:DV} {F:Nat->Prop} (h:Ok w S d F):∃D,D.er=JM d.er/\D.Aw=d.Aw/\Ok w (λx=>S x∨F x) D (λ_=>False)/\DU δ D:=by
 induction h with
 |lf a v F ha hF=>
  have g:=ha.C0;cases a with
  |sc u=>exact⟨.lf (.sc u) v,by simp,by simp,.lf _ _ _ ha (λ_ h=>h),.lf _ _ trivial⟩
  |sl e k rows=>exact⟨.lf (.sl e k rows) v,by simp,by simp,.lf _ _ _ (Fz.mono ha (λ_ _=>rfl) (λ_ h=>.inl h)) (λ_ h=>h),.lf _ _ trivial⟩
  |own=>exact ha.elim
  |agg=>exact ha.elim
  |BI=>exact ha.elim
  |_=>exact⟨.lf .dead v,by simp[JM],by simp,.lf _ _ _ trivial (λ_ h=>h),.lf _ _ trivial⟩
 |nil k F hF=>exact⟨.lf (.sl false k []) (.slice none 0 0),by simp,by simp,.lf _ _ _ (Fz.nil false k none 0 (by simp)) (λ_ h=>h),.lf _ _ trivial⟩
 |own bx k rows b c arr E Fs F hb hk Dv LO hv hr hd Ba KG hF ih=>
  have y:=(Ok.own bx k rows b c arr E Fs F hb hk Dv LO hv hr hd Ba KG hF).freeze;cases bx with
  |true=>exact⟨.lf .dead (JW true b rows.length c),by simp,by simp,.lf _ _ _ trivial (λ_ h=>h),.lf _ _ trivial⟩
  |false=>simp only[Ee,Nj,Kh]at y ⊢;exact⟨.lf (.sl false k (List.map (λ(x:List AV)=>List.map JM x) (List.map (λ(x:List DV)=>List.map DV.er x) rows))) (JW false b rows.length c),by rw[EU],by simp,.lf _ _ _ y (λ_ h=>h),.lf _ _ trivial⟩
 |agg cs Fs F hr hd Ba hF ih=>
  obtain⟨o,g,j⟩:=LB cs (λi d D=>D.er=JM d.er/\D.Aw=d.Aw/\Ok w (λx=>S x∨F x) D (λ_=>False)/\DU δ D) (by intro i d n;obtain⟨D,p,q,r,s⟩:=ih i d n;exact⟨D,p,q,r.mono (λ_ _=>rfl) (λ_ _=>rfl) (λx t=>t.imp id (λh=>(hF x).2 ⟨i,h⟩)) (λ_ h=>h.elim),s⟩);refine⟨.agg o,?_,?_,Bt.2 (B4 λD l=> ?_),.agg _ λi D l=> ?_⟩
  . simp only[HU,pS,AV.agg.injEq,List.map_map];exact map_mk g j _ _ (by simp) λi c D f m=>by simp[m,f.1]
  . simp only[Jk];congr 2;exact map_mk g j _ _ (by simp) λi c D f m=>by simp[m,f.2.1]
  . obtain⟨i,hi⟩:=AAu l;obtain⟨c,_,f⟩:=mem_mk g j i D hi;exact f.2.2.1
  . obtain⟨c,_,f⟩:=mem_mk g j i D l;exact f.2.2.2
 |BI cs Fs F hr hd Ba hF ih=>
  obtain⟨o,g,j⟩:=LB cs (λi d D=>D.er=JM d.er/\D.Aw=d.Aw/\Ok w (λx=>S x∨F x) D (λ_=>False)/\DU δ D) (by intro i d n;obtain⟨D,p,q,r,s⟩:=ih i d n;exact⟨D,p,q,r.mono (λ_ _=>rfl) (λ_ _=>rfl) (λx t=>t.imp id (λh=>(hF x).2 ⟨i,h⟩)) (λ_ h=>h.elim),s⟩);refine⟨.BI o,?_,?_,A5.2 (B4 λD l=> ?_),.BI _ λi D l=> ?_⟩
  . simp only[JL,pV,AV.BI.injEq,List.map_map];exact map_mk g j _ _ (by simp) λi c D f m=>by simp[m,f.1]
  . simp only[LJ];congr 2;exact map_mk g j _ _ (by simp) λi c D f m=>by simp[m,f.2.1]
  . obtain⟨i,hi⟩:=AAu l;obtain⟨c,_,f⟩:=mem_mk g j i D hi;exact f.2.2.1
  . obtain⟨c,_,f⟩:=mem_mk g j i D l;exact f.2.2.2
theorem RD (l:List AV):O5 l=l.all fresh:=by
 induction l with
 |nil=>rfl
 |cons a l ih=>simp[O5,ih]
theorem mI (l:List (List AV)):RE l=l.all (·.all fresh):=by
 induction l with
 |nil=>rfl
 |cons a l ih=>simp[RE,RD,ih]
@[simp]theorem fresh_sc (v:Value):fresh (.sc v)=true:=by simp[fresh]
@[simp]theorem sW (b:Bool) (k:Nat) (rows:List (List AV)):fresh (.own b k rows)=rows.all (·.all fresh):=by simp[fresh,mI]
@[simp]theorem UA (a:List AV):fresh (.agg a)=a.all fresh:=by simp[fresh,RD]
@[simp]theorem UB (a:List AV):fresh (.BI a)=a.all fresh:=by simp[fresh,RD]
theorem SY {d:DV} {F:Nat->Prop} (h:Ok w S d F):fresh d.er=true->(∀x,F x->¬S' x)->Ok w S' d F:=by
 induction h with
 |lf a v F ha hF=>
  intro e hn;simp only[EU]at e;cases a with
  |sc u=>exact .lf _ _ _ ha hF
  |own=>exact ha.elim
  |agg=>exact ha.elim
  |BI=>exact ha.elim
  |_=>simp[fresh]at e
 |nil k F hF=>intro _ _;exact .nil k F hF
 |own bx k rows b c arr E Fs F hb hk Dv LO hv hr hd Ba KG hF ih=>
  intro e hn;simp only[Ee,sW,ABR,AAX]at e;refine .own bx k rows b c arr E Fs F hb hk Dv (hn b ((hF b).2 (.inl rfl))) hv (λi j l d f m=>ih i j l d f m ?_ ?_) hd Ba KG hF
  all_goals grind
 |agg cs Fs F hr hd Ba hF ih=>intro e hn;simp only[HU,UA,ABR,AAX]at e;exact .agg cs Fs F (λi d f=>ih i d f (e d (AAe f)) (λx g=>hn x ((hF x).2 ⟨i,g⟩))) hd Ba hF
 |BI cs Fs F hr hd Ba hF ih=>intro e hn;simp only[JL,UB,ABR,AAX]at e;exact .BI cs Fs F (λi d f=>ih i d f (e d (AAe f)) (λx g=>hn x ((hF x).2 ⟨i,g⟩))) hd Ba hF
theorem W3 {a:AV} (h:Zm a=true):fresh a=true:=by
 cases a with
 |sc=>simp
 |agg cs=>
  simp only[Zm,AAX]at h;simp only[UA,AAX];intro c b
  have:=h c b;cases c<;>simp_all
 |BI cs=>
  simp only[Zm,AAX]at h;simp only[UB,AAX];intro c b
  have:=h c b;cases c<;>simp_all
 |_=>simp[Zm]at h
theorem SX {d:DV} {F:Nat->Prop} (h:Ok w S d F):fresh d.er=true->DU δ d:=by
 induction h with
 |lf a v F ha hF=>intro b;simp only[EU]at b;refine .lf a v ?_;cases a<;>simp_all [fresh,Mn]
 |nil=>intro _;exact .own _ _ _ _
 |own=>intro _;exact .own _ _ _ _
 |agg cs Fs F hr hd Ba hF ih=>intro b;simp only[HU,UA,ABR,AAX]at b;exact .agg cs λi d c=>ih i d c (b d (AAe c))
 |BI cs Fs F hr hd Ba hF ih=>intro b;simp only[JL,UB,ABR,AAX]at b;exact .BI cs λi d c=>ih i d c (b d (AAe c))
theorem Wt {d:DV} {F:Nat->Prop} (h:Ok w S d F) (b:clean d.er=true):DU δ d:=by
 have leaf:∀{e:DV},ZU e->KQ e.er=true->DU δ e:=by
  intro e c b;cases c with
  |lf a v c=>refine .lf _ _ ?_;simp only[EU]at b;cases a<;>simp_all [KQ,Mn]
  |own=>exact .own _ _ _ _
  |agg=>simp[KQ]at b
  |BI=>simp[KQ]at b
 have l:∀{f:List DV},(∀(i:Nat) d,f[i]? =some d->ZU d)->(f.map DV.er).all KQ=true->DU δ (.agg f):=by intro f g b;refine .agg _ λi e hi=>leaf (g i e hi) ?_;rw[AAX]at b;exact b _ (ABY (AAe hi))
 have c:=h.Kw;cases c with
 |lf a v c=>refine leaf (.lf a v c) ?_;simp only[EU]at b ⊢;cases a<;>simp_all [clean,KQ,C0]
 |own=>exact .own _ _ _ _
 |agg f g=>simp only[HU,clean]at b;grind
 |BI f g=>
  simp only[JL,clean]at b;refine .BI _ λi e hi=> ?_;rw[AAX]at b;have j:=b _ (ABY (AAe hi));have k:=g i e hi;cases k with
  |lf a v c=>refine leaf (.lf a v c) ?_;simp only[EU]at j ⊢;cases a<;>simp_all [KQ,C0]
  |own=>exact .own _ _ _ _
  |agg f g=>simp only[HU]at j;grind
  |BI=>simp[KQ]at j
theorem Ti {a:Act} {o:Oper} {c:Call} {f:Nat} {b:Func} (k:o.op= .call c) (i:c.callee= .value (.func f)) (j:P.funcs[f]? =some b) (m:b.body.isSome=true) (hn:(b.name != "runtime.NumGoroutine")=true):
 (execOp a.eval o).run P w= .ok (.enter f (c.args.toList.map a.eval).toArray) w:=by
 have d:b.body.isNone=false:=by cases h:b.body<;>simp_all
 have e:(b.name== "runtime.NumGoroutine")=false:=by simpa using hn
 have g:c.args.map a.eval=(c.args.toList.map a.eval).toArray:=by apply ABe;simp
 simp only[execOp,k,resolve,i,Act.eval,Deferred.ofValue,Sem.run_bind,Sem.run_pure,Result.andThen_ok,invoke,callFunc,g];have l:(program).run P w= .ok P w:=rfl;rw[l];simp only[Result.andThen_ok,j,e,d,AAY,AAd,Sem.run_pure];simp
def Jl (P:Program):Op->Nat->List Ar->Nat->Bool
 | .call c,f,args,m=>(match c.callee with
  | .value (.func g)=>f==g&&(match P.funcs[f]? with|some fn=>fn.body.isSome&&fn.name != "runtime.NumGoroutine" |none=>false)&&decide (m<5)&&Gm c.args.toList args
  |_=>false)
 |_,_,_,_=>false
theorem fO {d:DV} {F:Nat->Prop} (h:Ok w S d F):∃D,D.er=wS d.er/\D.Aw=d.Aw/\Ok w (λx=>S x∨F x) D (λ_=>False):=by
 have leaf:∀{e:DV} {o:Nat->Prop},Ok w S e o->(∀x,o x->F x)->∃D:DV,D.er=fzl e.er/\D.Aw=e.Aw/\Ok w (λx=>S x∨F x) D (λ_=>False):=by
  intro e o y s;obtain⟨D,f,m,n,_⟩:=RG (δ:=λ_=>default) y;have r:Ok w (λx=>S x∨F x) D (λ_=>False):=n.mono (λ_ _=>rfl) (λ_ _=>rfl) (λx j=>j.imp id (s x)) (λ_ h=>h.elim);cases hee:e.er with
  |sl ee k rows=>
   rw[hee]at f;simp only[AAE]at f;refine⟨.lf (.sl false k rows) D.Aw,by simp[fzl],by simp_all,.lf _ _ _ ?_ (λ_ h=>h)⟩;cases r with
   |lf a v _ ha _=>
    simp only[EU]at f;subst f;simp only[KP];have z:Fz w (λx=>S x∨F x) (.sl ee k rows) v:=ha;cases z with
    |nil x k a c j=>exact Fz.nil _ _ _ _ (by simp)
    |sl x k rows b off c vs j QS hS hk q hr=>exact Fz.sl _ _ _ b off c vs (by simp) QS hS hk q hr
   |nil=>simp at f
   |own=>simp at f
   |agg=>simp at f
   |BI=>simp at f
  |_=>rw[hee]at f;exact⟨D,by rw[f];simp only[fzl],m,r⟩
 cases Qr:d.er with
 |agg cs=>
  obtain⟨ds,rfl⟩:∃ds,d= .agg ds:=by
   have:=h.Kw;cases d with
   |agg ds=>simp_all
   |lf c v=>cases this with|lf _ _ g=>simp at Qr;subst Qr;simp[C0]at g
   |own=>simp at Qr
   |BI=>simp at Qr
  simp only[HU,AV.agg.injEq]at Qr;subst Qr;cases h with
  |agg _ Fs _ f m n h4=>
   obtain⟨t,g,p⟩:=LB ds (λi d D=>D.er=fzl d.er/\D.Aw=d.Aw/\Ok w (λx=>S x∨F x) D (λ_=>False)) (λi d hd=>leaf (f i d hd) (λx j=>(h4 x).2 ⟨i,j⟩));refine⟨.agg t,?_,?_,Bt.2 (B4 λD u=> ?_)⟩
   . simp only[HU,wS,AV.agg.injEq,List.map_map];exact map_mk g p _ _ (by simp) λi c D l q=>by simp_all
   . simp only[Jk];congr 2;exact map_mk g p _ _ (by simp) λi c D l q=>by simp_all
   . obtain⟨i,hi⟩:=AAu u;obtain⟨c,_,l⟩:=mem_mk g p i D hi;grind
 |_=>obtain⟨D,f,m,n⟩:=leaf h (λ_ h=>h);refine⟨D,?_,m,n⟩;rw[f];simp only[Qr,wS]
theorem dM {a:Act} (n:List Ar):∀{g:List Operand} {δ:Nat->DV} {Fr:Nat->Nat->Prop} {d:List AV} {τ:Sg},St G w S δ Fr->Rd δ a->Gm g n=true->M6 G n (λs=>(δ s).er)=some (d,τ)->
 ∃(i:Nat->DV) (o:Nat->Nat->Prop) (k:List DV) (Fd:Nat->Prop),St G w S i o/\(λs=>(i s).er)=τ/\(∀s,(i s).Aw=(δ s).Aw)/\k.map DV.er=d/\k.map DV.Aw=g.map a.eval/\(∀D∈k,Ok w (λx=>S x∨Fd x) D (λ_=>False))/\
  (∀s x,o s x->¬Fd x)/\(∀x,BA o x∨Fd x->BA Fr x):=by
 induction n with
 |nil=>
  intro g δ Fr d τ h p j c;cases g with
  |cons=>simp[Gm]at j
  |nil=>simp only[M6,AAQ,AAf]at c;obtain⟨rfl,rfl⟩:=c;exact⟨δ,Fr,[],λ_=>False,h,rfl,λ_=>rfl,rfl,rfl,by simp,λ_ _ _ h=>h,λx b=>b.elim id False.elim⟩
 |cons y n ih=>
  intro g δ Fr d τ h p j c;cases g with
  |nil=>simp[Gm]at j
  |cons x g=>
   simp only[Gm,AAR]at j;obtain⟨H,R⟩:=Aj j.1 p;simp only[M6]at c;split at c
   . rename_i v O q;split at c
     . rename_i l P r;simp only[AAQ,AAf]at c;obtain⟨rfl,rfl⟩:=c;obtain⟨N,Q,D,Ff,f,F,E,T⟩:=h.tk H q;subst F;subst E;obtain⟨B,U,V,I⟩:=fO f.ok;obtain⟨z,C,k,Fd,J,K,L,W,X,M,Z,u⟩:=ih f.st (λs=>(p s).trans (f.Aw s).symm) j.2 r;refine⟨z,C,B::k,λx=>Ff x∨Fd x,J,K,λs=>(L s).trans (f.Aw s),by grind,by simp_all,?_,?_,?_⟩
       . intro e m;simp only[AAp]at m;rcases m with rfl|m
         . exact I.mono (λ_ _=>rfl) (λ_ _=>rfl) (λx b=>b.imp id .inl) (λ_ h=>h.elim)
         . exact(M e m).mono (λ_ _=>rfl) (λ_ _=>rfl) (λx b=>b.imp id .inr) (λ_ h=>h.elim)
       . rintro s x b (h1|h1)
         . obtain⟨t,c⟩:=u x (.inl ⟨s,b⟩);exact f.MC t x c h1
         grind
       . rintro x (b|b|b)
         . exact f.own x (.inl (u x (.inl b)))
         . exact f.own x (.inr b)
         . exact f.own x (.inl (u x (.inr b)))
     . cases c
   . cases c
theorem LL {op:Op} {f m:Nat} {args:List Ar} (h:Jl P op f args m=true):∃c a,op= .call c/\c.callee= .value (.func f)/\P.funcs[f]? =some a/\a.body.isSome=true/\(a.name != "runtime.NumGoroutine")=true/\m<5/\Gm c.args.toList args=true:=by
 cases op with
 |call c=>simp only[Jl]at h;grind
 |_=>simp[Jl]at h
theorem LZ {n:Nat} {F:World} {t u S1 S2:Nat->Prop} {a:Act} {o:Oper} {dst:ABr Dk} {c:Nat->DV} {f:Nat->Nat->Prop} {D:DV} {FD:Nat->Prop} {v:AV} {K:Sg->Prop} (h:St G w S1 c f) (hn:a.tmps.size=n) (L:a.defers=[]) (Q:Rd c a) (hd:I7 G a o dst) (X:D.er=v)
 (p:∀b,b<w.heap.size->w'.heap[b]? =w.heap[b]?) (J:∀b,S1 b->b<w.heap.size) (r:∀b,S1 b->S2 b) (k:∀b,S2 b->S1 b∨w.heap.size≤b) (AAN:∀b,S2 b->b<w'.heap.size) (hD:Ok w' S2 D FD) (j:∀x,FD x->w.heap.size≤x) (Z:DU c D)
 (W:Nx F t u w S1 (BA f)) (B:w'.os=w.os) (E:w'.tape=w.tape) (C:w'.output=w.output) (PJ:w.heap.size≤w'.heap.size)
 (m:Ct dst v K (λs=>(c s).er)):∃σ',Rel G n F t u (a.put o.dst D.Aw) w' σ'/\K σ':=by
 have R:∀s x,f s x->w'.heap[x]? =w.heap[x]? :=λs x e=>p x ((h.ok s).lt x e);have P:∀s x,f s x->¬S2 x:=by
  intro s x e i;have U:=(h.ok s).lt x e;rcases k x i with l|l
  . exact(h.ok s).Et x e l
  . omega
 have S:∀s x,f s x->¬FD x:=by
  intro s x e i;have U:=(h.ok s).lt x e
  have:=j x i;omega
 have N:∀q:Nat->Nat->Prop,(∀x,BA q x->BA f x∨FD x)->Nx F t u w' S2 (BA q):=by intro q XB;refine W.trans ⟨B,E,C,PJ,λb g _=>p b g,r,λb g=>(k b g).imp id .inr,λ_=>AAN,λx e=>(XB x e).imp id (j x)⟩
 cases dst with
 |none=>
  have y:o.dst=none:=hd;refine⟨_,⟨S2,c,f,?_,?_,?_,rfl,h.world (λb g=>p b (J b g)) R r P,N f (λx e=>.inl e),AAN⟩,m⟩
  . rw[y];exact hn
  . rw[y];exact L
  . rw[y];exact Q
 |some d=>
  simp only[Ct]at m;split at m
  . rename_i I O;obtain⟨z,i,l,h4⟩:=hd;rw[← X]at O;obtain⟨H,M,KU,JH,T,V⟩:=h.wr i l (λb g=>p b (J b g)) R r P hD S Z O;refine⟨I,⟨S2,H,M,?_,?_,?_,JH,KU,N M V,AAN⟩,m⟩
    . rw[z];simpa[Act.put]using hn
    . rw[z];simpa[Act.put]using L
    . intro s;rw[z,Il a d.d D.Aw h4 s,T s];split
      . rfl
      . exact Q s
  simp_all
theorem borrow {n:Nat} {C:World} {q t:Nat->Prop} {a:Act} {o:Oper} {dst:ABr Dk} {D:List Operand} {args:List Ar} {g:List AV} {c v:AV} {f:Nat} {K:Sg->Prop} {Q:Exit->Act->World->Prop} (O:GI w S) (j:St G w S δ Fr) (I:Nx C q t w S (BA Fr)) (l:∀b,S b->b<w.heap.size) (hn:a.tmps.size=n) (H:a.defers=[]) (y:Rd δ a) (hd:I7 G a o dst)
 (M:Gm D args=true) (hr:Jr (λs=>(δ s).er) args=some g) (N:Says P f g c) (kA:fresh c=true) (hv:c=v)
 (L:Ct dst v K (λs=>(δ s).er)):
 Calls P f (D.map a.eval).toArray w λ
  | .returned v,w''=>(λX w'=>∃σ',Rel G n C q t X w' σ'/\K σ') (a.put o.dst v) w''
  | .panicked chain,w''=>Q (.panic chain) a w''
  | .outgrown,_=>LetsOut Q:=by
 obtain⟨F,J,V,Z⟩:=TG j y args M hr;have p:=N w (λx=>S x∨BA Fr x) F (λ_=>False) (O.mono λ_ h=>.inl h) J (A5.2 (B4 Z)) (by
  rintro b (i|⟨s,z⟩)
  . simp_all
  . exact(j.ok s).lt b z)
 rw[V]at p;refine p.mono ?_;rintro e w' ⟨r,os,S',F',rfl,U,hoe,wV,E,d,MD,pZ,Ks,W⟩;obtain⟨m,Fb,u,_,_,T⟩:=A5.1 E;have k:∀x,m x->w.heap.size≤x:=λx B=>(W x ((T x).2 (.inl B))).resolve_left id;have R:Ok w' S r m:=SY u (by simp_all) (λx B z=>by grind);simp only;exact LZ (S2:=S) j hn H y hd (U.trans hv) (λb i=>d.block b i id) l (λ_ h=>h) (λ_ h=>.inl h) (λb i=>ABW (l b i) d.size) R k (SX u (by simp_all)) I d.os d.tape d.output d.size L
theorem jN {a:Act} (o:List Ar):∀{f:List Operand} {δ:Nat->DV} {Fr:Nat->Nat->Prop} {d:List AV} {τ:Sg},St G w S δ Fr->Rd δ a->Gm f o=true->Q1 G o (λs=>(δ s).er)=some (d,τ)->
 ∃(g:Nat->DV) (p:Nat->Nat->Prop) (j:List DV) (Fd:Nat->Prop),St G w S g p/\(λs=>(g s).er)=τ/\(∀s,(g s).Aw=(δ s).Aw)/\j.map DV.er=d/\j.map DV.Aw=f.map a.eval/\JS w S j Fd/\
  (∀s x,p s x->¬Fd x)/\(∀x,BA p x∨Fd x->BA Fr x):=by
 induction o with
 |nil=>
  intro f δ Fr d τ h q i b;cases f with
  |cons=>simp[Gm]at i
  |nil=>simp only[Q1,AAQ,AAf]at b;obtain⟨rfl,rfl⟩:=b;exact⟨δ,Fr,[],λ_=>False,h,rfl,λ_=>rfl,rfl,rfl,λ_ h=>h,λ_ _ _ h=>h,λx e=>e.elim id False.elim⟩
 |cons y o ih=>
  intro f δ Fr d τ h q i b;cases f with
  |nil=>simp[Gm]at i
  |cons x f=>
   simp only[Gm,AAR]at i;obtain⟨H,R⟩:=Aj i.1 q;simp only[Q1]at b;split at b
   . rename_i v O r;split at b
     . rename_i l P u;simp only[AAQ,AAf]at b;obtain⟨rfl,rfl⟩:=b;obtain⟨N,Q,D,Ff,c,E,C,T⟩:=h.tk H r;subst E;subst C;obtain⟨z,B,j,Fd,I,J,K,L,U,M,V,n⟩:=ih c.st (λs=>(q s).trans (c.Aw s).symm) i.2 u;have k:∀x,Ff x->¬Fd x:=λx m F=>(by obtain⟨t,b⟩:=n x (.inr F);exact c.MC t x b m);refine⟨z,B,D::j,λx=>Ff x∨Fd x,I,J,λs=>(K s).trans (c.Aw s),by simp[L],by simp_all,⟨Ff,Fd,c.ok,M,k,λx=>Iff.rfl⟩,?_,?_⟩
       . rintro s x e (m|m)
         . obtain⟨t,b⟩:=n x (.inl ⟨s,e⟩);exact c.MC t x b m
         grind
       . rintro x (e|e|e)
         . exact c.own x (.inl (n x (.inl e)))
         . exact c.own x (.inr e)
         . exact c.own x (.inl (n x (.inr e)))
     . cases b
   . cases b
theorem lQ (h:St G w S δ Fr) (rs:List (Nat×List Step)):∀{vs:List Value} {e:List (List AV)},vs.length=rs.length->(∀(i:Nat) r p u,rs[i]? =some (r,p)->vs[i]? =some u->∃bx k rows,Aq (δ r) p=some (.own u bx k rows))->Wp (λs=>(δ s).er) rs=some e->
 vs.length=e.length/\∀(i:Nat) g u,e[i]? =some g->vs[i]? =some u->xN w (λx=>S x∨BA Fr x) g u:=by
 induction rs with
 |nil=>
  intro vs e f _ b;cases vs with
  |nil=>simp only[Wp,AAQ]at b;simp_all
  |cons=>simp at f
 |cons x rs ih=>
  obtain⟨r,p⟩:=x;intro vs e f n b;cases vs with
  |nil=>simp at f
  |cons v vs=>
   simp only[Wp]at b;split at b
   . rename_i g m q t;simp only[AAQ]at b;subst b;obtain⟨bx,k,rows,y⟩:=n 0 r p v rfl rfl;obtain⟨D,c,l,z⟩:=Ja h (d:=.lf (.al r p) v) (F:=λ_=>False) (.lf _ _ _ trivial (λ_ h=>h)) (λ_ h=>h.elim) (.lf _ _ ⟨bx,k,rows,y⟩) (by simpa using q);obtain⟨B,C⟩:=ih (by simpa using f) (λi r p u hi j=>n (i+1) r p u (by simp_all) (by simp_all)) t;refine⟨by simp[B],λi o u hi j=> ?_⟩;cases i with
     |zero=>
      simp only[AA7,AAQ]at hi j;subst hi;subst j;simp only[KP]at l;cases z with
      |lf a v' _ ha _=>simp only[EU]at c;subst c;simp only[KP]at l;subst l;exact ha
      |nil=>simp at c
      |own=>simp at c
      |agg=>simp at c
      |BI=>simp at c
     |succ i=>grind
   . cases b
theorem YW {a:Act} (m:List Ar):∀{i:List Operand} {δ:Nat->DV} {Fr:Nat->Nat->Prop} {g:List AV} {τ:Sg},St G w S δ Fr->Rd δ a->Gm i m=true->Vs G m (λs=>(δ s).er)=some (g,τ)->
 ∃(j:Nat->DV) (r:Nat->Nat->Prop) (n:List DV) (Fd:Nat->Prop),St G w S j r/\(λs=>(j s).er)=τ/\(∀s,(j s).Aw=(δ s).Aw)/\n.map DV.er=g/\n.map DV.Aw=i.map a.eval/\JS w (λx=>S x∨BA r x) n Fd/\
  (∀s x,r s x->¬Fd x)/\(∀x,BA r x∨Fd x->BA Fr x):=by
 induction m with
 |nil=>intro i δ Fr g τ h C k b;simp[Vs]at b
 |cons y m ih=>
  intro i δ Fr g τ h C k b;cases i with
  |nil=>simp[Gm]at k
  |cons x i=>
   simp only[Gm,AAR]at k;obtain⟨M,Q⟩:=Aj k.1 C;cases m with
   |nil=>
    cases i with
    |cons=>simp[Gm]at k
    |nil=>
     simp only[Vs]at b;split at b
     . rename_i f rs z;split at b
       . rename_i R o;simp only[AAQ,AAf]at b;obtain⟨rfl,rfl⟩:=b;obtain⟨vs,N,H,I⟩:Mn δ (.cl f rs) (Cx δ y):=by
          cases y with
          |t s=>exact(h.leaf z rfl).2.2
          |c c0=>obtain⟨D0,mP⟩:=M;simp only[ar]at z;subst z;simp[Ix]at mP
         obtain⟨W,X⟩:=lQ h rs H I o;refine⟨δ,Fr,[.lf (.mG f R) (Cx δ y)],λ_=>False,h,rfl,λ_=>rfl,by simp,by simp[Q],B4 (λD L=> ?_),λ_ _ _ h=>h,λx d=>d.elim id False.elim⟩;simp only[AAj]at L;subst L;exact .lf _ _ _ ⟨vs,N,W,X⟩ (λ_ h=>h)
       . cases b
     . cases b
   |cons y2 m=>
    simp only[Vs]at b;split at b
    . rename_i v τ1 E;split at b
      . rename_i l τ2 F;simp only[AAQ,AAf]at b;obtain⟨rfl,rfl⟩:=b;obtain⟨δ1,F1,D,Ff,e,P,O,T0⟩:=h.tk M E;subst P;subst O;obtain⟨J,K,n,Fd,Z,m2,m3,m4,m5,m6,m7,q⟩:=ih e.st (λs=>(C s).trans (e.Aw s).symm) k.2 F;have p:∀x,Ff x->¬Fd x:=λx u T=>(by obtain⟨t,b⟩:=q x (.inr T);exact e.MC t x b u);have B:Ok w (λx=>S x∨BA K x) D Ff:=e.ok.mono (λ_ _=>rfl) (λ_ _=>rfl) (λ_ h=>.inl h) (λx d V=>V.elim (e.ok.Et x d) (λU=>by obtain⟨t,b⟩:=q x (.inl U);exact e.MC t x b d));refine⟨J,K,D::n,λx=>Ff x∨Fd x,Z,m2,λs=>(m3 s).trans (e.Aw s),by simp[m4],by simp_all,⟨Ff,Fd,B,m6,p,λx=>Iff.rfl⟩,?_,?_⟩
        . rintro s x d (u|u)
          . obtain⟨t,b⟩:=q x (.inl ⟨s,d⟩);exact e.MC t x b u
          grind
        . rintro x (d|d|d)
          . exact e.own x (.inl (q x (.inl d)))
          . exact e.own x (.inr d)
          . exact e.own x (.inl (q x (.inr d)))
      . cases b
    . cases b
theorem lP {n:Nat} {w0:World} {S0 U0:Nat->Prop} (hG:Yj w0 S0 U0) {a:Act} {σ:Sg} (h:Rel G n w0 S0 U0 a w σ) {o:Oper} {io:BJ} {f m:Nat} {args:List Ar} (hio:io.op= .call f args m) (PA:Jl P o.op f args m=true) (hd:I7 G a o io.dst) {K:Sg->Prop} (CU:EA P G io K σ)
 (Q:Exit->Act->World->Prop):o.wp P a w (λa' w'=>∃σ',Rel G n w0 S0 U0 a' w' σ'/\K σ') Q:=by
 obtain⟨S,δ,Fr,hn,U,R,rfl,J,Ef,I⟩:=h;have NH:=hG.now Ef;obtain⟨c,fn,ho,MF,H,hfb,hfn,hm3,G8⟩:=LL PA;unfold EA at CU;rw[hio]at CU;simp only at CU;split at CU
 . rename_i aZ9 τ q;obtain⟨res,JX,y⟩:=CU;split at y
   . rename_i v k;unfold Oper.wp;rw[Ti ho MF H hfb hfn,Oper.upon_enter]
     match m,hm3,q,k with
     |1,_,q,k=>
      simp only[GR]at q;obtain⟨z,u,Ds,Fd,E,XF,Jn,FM,T0,bZ,L,B⟩:=dM _ J R G8 q;subst XF;have AAK:∀x,Fd x->x<w.heap.size:=λx g=>(by obtain⟨t,ht⟩:=B x (.inr g);exact(J.ok t).lt x ht);have M:=JX w (λx=>S x∨Fd x) Ds (λ_=>False) (NH.mono λ_ h=>.inl h) FM (A5.2 (B4 bZ)) (λb j=>j.elim (I b) (AAK b));rw[T0]at M;refine M.mono ?_;rintro e w' ⟨r,os,S',F',rfl,N,hoe,wV,CZ,p,MD,pZ,Ks,XA⟩;obtain⟨F,Fb,O,_,_,QQ⟩:=A5.1 CZ;obtain⟨D,k1,k2,k3,k4⟩:=RG (δ:=z) O;simp only[UU,AAQ]at k;have hfa:∀x,F x->w.heap.size≤x:=λx g=>(XA x ((QQ x).2 (.inl g))).resolve_left id;have X:St G w (λx=>S x∨Fd x) z u:=E.world (λ_ _=>rfl) (λ_ _ _=>rfl) (λ_ h=>.inl h) (λs x g T=>T.elim ((E.ok s).Et x g) (L s x g));have tY:Nx w0 S0 U0 w (λx=>S x∨Fd x) (BA u):=Ef.trans (Nx.JM (λx g=>B x g) AAK);simp only;rw[← k2];refine LZ (S2:=λx=>S' x∨F x) X hn U (λs=>(R s).trans (Jn s).symm) hd (by rw[k1,N];exact k) (λb j=>p.block b j id) (λb j=>j.elim (I b) (AAK b)) (λb j=>.inl (MD b j)) ?_ ?_ k3 (λ_ h=>h.elim) k4 tY p.os p.tape p.output p.size y
      . rintro b (j|j)
        . rcases pZ b j with i|i|i
          . exact .inl i
          . exact i.elim
          . exact .inr i
        . exact .inr (hfa b j)
      . rintro b (j|j)
        . exact Ks b j
        . exact O.lt b j
     |0,_,q,k=>
      simp only[GR]at q;split at q
      . rename_i l hr;simp only[AAQ,AAf]at q;obtain⟨rfl,rfl⟩:=q;simp only[UU]at k;split at k
        . rename_i FA;exact borrow NH J Ef I hn U R hd G8 hr JX (W3 FA) (AAU k) y
        . cases k
      . cases q
     |3,_,q,k=>
      simp only[GR]at q;obtain⟨z,u,Ds,Fd,E,XF,Jn,FM,T0,bZ,L,B⟩:=jN _ J R G8 q;subst XF;simp only[UU]at k;split at k
      . rename_i kA;obtain rfl:=AAU k;have M:=JX w S Ds Fd NH FM (A5.2 bZ) I;rw[T0]at M;refine M.mono ?_;rintro e w' ⟨r,os,S',F',rfl,N,hoe,wV,CZ,p,MD,pZ,Ks,XA⟩;obtain⟨F,Fb,O,_,_,QQ⟩:=A5.1 CZ;have tQ:∀x,F x->Fd x∨w.heap.size≤x:=λx g=>XA x ((QQ x).2 (.inl g));have V:∀s x,u s x->x<w.heap.size:=λs x g=>(E.ok s).lt x g;have qE:∀b,S b->w'.heap[b]? =w.heap[b]? :=λb j=>p.block b (I b j) λH=>(by obtain⟨t,ht⟩:=B b (.inr H);exact(J.ok t).Et b ht j);have mZ:∀s x,u s x->w'.heap[x]? =w.heap[x]? :=λs x g=>p.block x (V s x g) (L s x g);have Of:∀s x,u s x->¬S' x:=by
         intro s x g h';rcases pZ x h' with i|i|i
         . exact(E.ok s).Et x g i
         . exact L s x g i
         . have:=V s x g;omega
        have p7:∀s x,u s x->¬F x:=by
         intro s x g h';rcases tQ x h' with i|i
         . exact L s x g i
         . have:=V s x g;omega
        have G0:∀C:Nat->Nat->Prop,(∀x,BA C x->BA u x∨F x)->Nx w0 S0 U0 w' S' (BA C):=by
         intro C XB;refine Ef.trans ⟨p.os,p.tape,p.output,p.size,λb j KK=>p.block b j λH=>KK (B b (.inr H)),MD,λb j=>(pZ b j).imp id (Or.imp (λh=>B b (.inr h)) id),λ_=>Ks,λx g=> ?_⟩;rcases XB x g with i|i
         . exact .inl (B x (.inl i))
         . exact(tQ x i).imp (λh=>B x (.inr h)) id
        have Qp:Rd z a:=λs=>(R s).trans (Jn s).symm;simp only;cases Kt:io.dst with
        |none=>
         rw[Kt]at hd y;have W:o.dst=none:=hd;refine⟨_,⟨S',z,u,?_,?_,?_,rfl,E.world qE mZ MD Of,G0 u (λx g=>.inl g),Ks⟩,y⟩
         . rw[W];exact hn
         . rw[W];exact U
         . rw[W];exact Qp
        |some d=>
         rw[Kt]at hd y;simp only[Ct]at y;split at y
         . rename_i τ' MV;obtain⟨i,h2,h3,h4⟩:=hd;rw[← N]at MV;obtain⟨Z,C,KU,JH,DZ,XL⟩:=E.wr h2 h3 qE mZ MD Of O p7 (Wt O (by rw[N];exact kA)) MV;refine⟨τ',⟨S',Z,C,?_,?_,?_,JH,KU,G0 C XL,Ks⟩,y⟩
           . rw[i];simpa[Act.put]using hn
           . rw[i];simpa[Act.put]using U
           . intro s;rw[i,Il a d.d r.Aw h4 s,DZ s];split
             . rfl
             . exact Qp s
         . exact y.elim
      . cases k
     |4,_,q,k=>
      simp only[GR]at q;obtain⟨z,u,Ds,Fd,E,XF,Jn,FM,T0,bZ,L,B⟩:=YW _ J R G8 q;subst XF;simp only[UU]at k;split at k
      . rename_i kA;obtain rfl:=AAU k;have V:∀s x,u s x->x<w.heap.size:=λs x g=>(E.ok s).lt x g;have M:=JX w (λx=>S x∨BA u x) Ds Fd (NH.mono λ_ h=>.inl h) FM (A5.2 bZ) (λb j=>j.elim (I b) (λ⟨s,T⟩=>V s b T));rw[T0]at M;refine M.mono ?_;rintro e w' ⟨r,os,S',F',rfl,N,hoe,wV,CZ,p,MD,pZ,Ks,XA⟩;obtain⟨F,Fb,hra0,_,_,QQ⟩:=A5.1 CZ;have tQ:∀x,F x->Fd x∨w.heap.size≤x:=λx g=>XA x ((QQ x).2 (.inl g));have AAJ:∀x,Fd x->¬S x:=λx H T=>(by obtain⟨t,ht⟩:=B x (.inr H);exact(J.ok t).Et x ht T);have O:Ok w' S r F:=SY hra0 (by rw[N];exact kA) (λx g T=>(tQ x g).elim (λi=>AAJ x i T) (λi=>by have:=I x T;omega));have qE:∀b,S b->w'.heap[b]? =w.heap[b]? :=λb j=>p.block b (I b j) λH=>AAJ b H j;have mZ:∀s x,u s x->w'.heap[x]? =w.heap[x]? :=λs x g=>p.block x (V s x g) (L s x g);have Of:∀s x,u s x->¬S x:=λs x g=>(E.ok s).Et x g;have Uj:∀b,S b->b<w'.heap.size:=λb j=>ABW (I b j) p.size;have p7:∀s x,u s x->¬F x:=by
         intro s x g h';rcases tQ x h' with i|i
         . exact L s x g i
         . have:=V s x g;omega
        have G0:∀C:Nat->Nat->Prop,(∀x,BA C x->BA u x∨F x)->Nx w0 S0 U0 w' S (BA C):=by
         intro C XB;refine Ef.trans ⟨p.os,p.tape,p.output,p.size,λb j KK=>p.block b j λH=>KK (B b (.inr H)),λ_ h=>h,λ_ h=>.inl h,λ_=>Uj,λx g=> ?_⟩;rcases XB x g with i|i
         . exact .inl (B x (.inl i))
         . exact(tQ x i).imp (λh=>B x (.inr h)) id
        have Qp:Rd z a:=λs=>(R s).trans (Jn s).symm;simp only;cases Kt:io.dst with
        |none=>
         rw[Kt]at hd y;have W:o.dst=none:=hd;refine⟨_,⟨S,z,u,?_,?_,?_,rfl,E.world qE mZ (λ_ h=>h) Of,G0 u (λx g=>.inl g),Uj⟩,y⟩
         . rw[W];exact hn
         . rw[W];exact U
         . rw[W];exact Qp
        |some d=>
         rw[Kt]at hd y;simp only[Ct]at y;split at y
         . rename_i τ' MV;obtain⟨i,h2,h3,h4⟩:=hd;rw[← N]at MV;obtain⟨Z,C,KU,JH,DZ,XL⟩:=E.wr h2 h3 qE mZ (λ_ h=>h) Of O p7 (SX O (by rw[N];exact kA)) MV;refine⟨τ',⟨S,Z,C,?_,?_,?_,JH,KU,G0 C XL,Uj⟩,y⟩
           . rw[i];simpa[Act.put]using hn
           . rw[i];simpa[Act.put]using U
           . intro s;rw[i,Il a d.d r.Aw h4 s,DZ s];split
             . rfl
             . exact Qp s
         . exact y.elim
      . cases k
     |2,_,q,k=>
      simp only[GR]at q;split at q
      . rename_i l hr;simp only[AAQ,AAf]at q;obtain⟨rfl,rfl⟩:=q;simp only[UU]at k;split at k
        . rename_i FA;exact borrow NH J Ef I hn U R hd G8 hr JX FA (AAU k) y
        . cases k
      . cases q
   . exact y.elim
 . exact CU.elim
theorem eY {n:Nat} {V:World} {R T:Nat->Prop} (hG:Yj V R T) {a:Act} {σ:Sg} (h:Rel G n V R T a w σ) {o:Oper} {io:BJ} {f:Nat} {args:List Ar} (hio:io.op= .call f args 4) (PA:Jl P o.op f args 4=true) (hd:I7 G a o io.dst) {K:Sg->Prop} (z:EA P G io K σ) {rr kb:Nat} (I:∀H τ,GR G 4 args σ=some (H,τ)->∃rows,τ rr= .own true kb rows)
 (Q:Exit->Act->World->Prop):o.wp P a w (λa' w'=>(∃σ',Rel G n V R T a' w' σ'/\K σ')/\(∀b,a.tmps.getD rr undef= .pointer (some ⟨b,0,none⟩)->w'.heap[b]? =w.heap[b]?)/\∃u,a'=a.put o.dst u) Q:=by
 obtain⟨S,δ,Fr,hn,ED,ha,rfl,B9,Ef,M⟩:=h;have NH:=hG.now Ef;obtain⟨c,fn,ho,MF,y,hfb,hfn,hm3,G8⟩:=LL PA;unfold EA at z;rw[hio]at z;simp only at z;split at z
 . rename_i H τ W;obtain⟨res,JX,p⟩:=z;split at p
   . rename_i v U;unfold Oper.wp;rw[Ti ho MF y hfb hfn,Oper.upon_enter];have J:=W;simp only[GR]at W;obtain⟨k,m,Ds,Fd,F,XF,Jn,FM,T0,bZ,C3,N⟩:=YW _ B9 ha G8 W;subst XF;simp only[UU]at U;split at U
     . rename_i kA;obtain rfl:=AAU U;have XJ:∀s x,m s x->x<w.heap.size:=λs x i=>(F.ok s).lt x i;have Ga:=JX w (λx=>S x∨BA m x) Ds Fd (NH.mono λ_ h=>.inl h) FM (A5.2 bZ) (λb l=>l.elim (M b) (λ⟨s,D⟩=>XJ s b D));rw[T0]at Ga;refine Ga.mono ?_;rintro e w' ⟨r,os,S',F',rfl,Z,hoe,wV,CZ,q,MD,pZ,Ks,XA⟩;obtain⟨O,Fb,L,_,_,QQ⟩:=A5.1 CZ;have tQ:∀x,O x->Fd x∨w.heap.size≤x:=λx i=>XA x ((QQ x).2 (.inl i));have AAJ:∀x,Fd x->¬S x:=λx y D=>(by obtain⟨t,ht⟩:=N x (.inr y);exact(B9.ok t).Et x ht D);have cF:Ok w' S r O:=SY L (by rw[Z];exact kA) (λx i D=>(tQ x i).elim (λg=>AAJ x g D) (λg=>by have:=M x D;omega));have qE:∀b,S b->w'.heap[b]? =w.heap[b]? :=λb l=>q.block b (M b l) λy=>AAJ b y l;have mZ:∀s x,m s x->w'.heap[x]? =w.heap[x]? :=λs x i=>q.block x (XJ s x i) (C3 s x i);have Of:∀s x,m s x->¬S x:=λs x i=>(F.ok s).Et x i;have Uj:∀b,S b->b<w'.heap.size:=λb l=>ABW (M b l) q.size;have p7:∀s x,m s x->¬O x:=by
        intro s x i h';rcases tQ x h' with g|g
        . exact C3 s x i g
        . have:=XJ s x i;omega
       have G0:∀B:Nat->Nat->Prop,(∀x,BA B x->BA m x∨O x)->Nx V R T w' S (BA B):=by
        intro B XB;refine Ef.trans ⟨q.os,q.tape,q.output,q.size,λb l KK=>q.block b l λy=>KK (N b (.inr y)),λ_ h=>h,λ_ h=>.inl h,λ_=>Uj,λx i=> ?_⟩;rcases XB x i with g|g
        . exact .inl (N x (.inl g))
        . exact(tQ x g).imp (λh=>N x (.inr h)) id
       have X:Rd k a:=λs=>(ha s).trans (Jn s).symm;have Is:∀b,a.tmps.getD rr undef= .pointer (some ⟨b,0,none⟩)->w'.heap[b]? =w.heap[b]? :=by
        intro b l;obtain⟨rows,hrr⟩:=I _ _ J;have C:=F.ok rr;have g:(k rr).Aw= .pointer (some ⟨b,0,none⟩):=(by rw[← X rr];exact l);have j:(k rr).er= .own true kb rows:=hrr;cases hδ:k rr with
        |lf x v=>rw[hδ]at j C;simp at j;subst j;cases C with|lf _ _ _ hl _=>simp[Hg]at hl
        |agg=>rw[hδ]at j;simp at j
        |BI=>rw[hδ]at j;simp at j
        |own hh bx k0 Al=>
         rw[hδ]at g j C;simp only[Ee,AV.own.injEq]at j;obtain⟨rfl,rfl,_⟩:=j;simp only[Kh]at g;generalize hF1:m rr=Fx at C;generalize hvv:hh=mY at C;cases C with
         |own _ _ _ b' c arr E Fs _ mR hk Dv LO dU hr Vy Ba KG hF=>
          rw[hvv]at g;simp only[JW,AAq,Value.pointer.injEq,AAQ,Addr.mk.injEq,and_true]at g;have e:b'=b:=by first|exact g|exact g.1
          subst e;exact mZ rr b' (by rw[hF1];first|exact(hF b').2 (.inl rfl)|exact KG|simp[hF])
       simp only;cases Kt:io.dst with
       |none=>
        rw[Kt]at hd p;have h0:o.dst=none:=hd;refine⟨⟨_,⟨S,k,m,?_,?_,?_,rfl,F.world qE mZ (λ_ h=>h) Of,G0 m (λx i=>.inl i),Uj⟩,p⟩,Is,_,rfl⟩
        . rw[h0];exact hn
        . rw[h0];exact ED
        . rw[h0];exact X
       |some d=>
        rw[Kt]at hd p;simp only[Ct]at p;split at p
        . rename_i τ' MV;obtain⟨g,j,h3,h4⟩:=hd;rw[← Z]at MV;obtain⟨δ',B,KU,JH,DZ,XL⟩:=F.wr j h3 qE mZ (λ_ h=>h) Of cF p7 (SX cF (by rw[Z];exact kA)) MV;refine⟨⟨τ',⟨S,δ',B,?_,?_,?_,JH,KU,G0 B XL,Uj⟩,p⟩,Is,_,rfl⟩
          . rw[g];simpa[Act.put]using hn
          . rw[g];simpa[Act.put]using ED
          . intro s;rw[g,Il a d.d r.Aw h4 s,DZ s];split
            . rfl
            . exact X s
        . exact p.elim
     . cases U
   . exact p.elim
 . exact z.elim
end Go.Abs
namespace Go.Abs
variable {w w':World} {S S':Nat->Prop} {G:Gi} {δ:Nat->DV} {Fr:Nat->Nat->Prop} {P:Program}
def Dr (G:Gi) (n:Nat) (o:ABr Tmp) (d:ABr Dk):Bool:=
 match o,d with
 |none,none=>true
 |some t,some d=>t==d.d&&d.kl==G.OB d.d&&d.rs==G.Gy d.d&&decide (d.d<n)
 |_,_=>false
theorem ER {n:Nat} {a:Act} {o:Oper} {d:ABr Dk} (h:Dr G n o.dst d=true) (hn:a.tmps.size=n):I7 G a o d:=by
 unfold Dr at h;split at h
 . rename_i b;exact b
 . rename_i t d b;simp only[AAR,AAg,AAk]at h;obtain⟨⟨⟨rfl,c⟩,e⟩,f⟩:=h;exact⟨b,c,e,by omega⟩
 . cases h
theorem UM (h:St G w S δ Fr) {x:Ar} {r:Nat} {p:List Step} {b:Bool} {k:Nat} {rows:List (List AV)} (c:vD (λs=>(δ s).er) x=some (r,p)) (n:sub (δ r).er p=some (.own b k rows)):
 ∃e,Aq (δ r) p=some (.own (Cx δ x) b k e)/\(DV.own (Cx δ x) b k e).er= .own b k rows:=by
 obtain⟨D,g,f⟩:=Dj (h.ok r).Kw n;have j:∃v e,D= .own v b k e:=by
  have:=(h.ok r).Kw.Aq g;cases D with
  |own v bx o d=>simp_all
  |lf a v=>cases this with|lf _ _ i=>simp at f;subst f;simp[C0]at i
  |agg cs=>simp at f
  |BI cs=>simp at f
 obtain⟨v,e,rfl⟩:=j;unfold vD at c;split at c
 . rename_i s;split at c
   . rename_i t p' m;simp only[AAQ,AAf]at c;obtain⟨rfl,rfl⟩:=c;obtain⟨q,_,l⟩:=h.leaf m rfl;obtain⟨bx,o,d,i⟩:=l;rw[g]at i;simp only[AAQ,DV.own.injEq]at i;obtain⟨rfl,rfl,rfl,rfl⟩:=i;exact⟨_,g,f⟩
   . simp only[AAQ,AAf]at c;obtain⟨rfl,rfl⟩:=c;simp only[Aq,AAQ]at g;refine⟨e,?_,?_⟩
     . simp[Aq,Cx,g]
     simp_all
   . cases c
 . cases c
theorem T5 {d:DV} (h:IG d.er=true):DU δ d:=by
 cases d with
 |own=>exact .own _ _ _ _
 |lf a v=>refine .lf _ _ ?_;simp only[EU]at h;cases a<;>simp_all [IG,Mn]
 |agg=>simp[IG]at h
 |BI=>simp[IG]at h
theorem Nd {L:List Nat} {a:AV} (h:IG a=true):Fh L a=true:=by cases a<;>simp_all [IG]
theorem Xj {d:DV} {F:Nat->Prop} (h:Ok w S d F):∃D,D.er=RX d.er/\D.Aw=d.Aw/\Ok w S D (λ_=>False):=by
 have dead:RX d.er= .dead->∃D,D.er=RX d.er/\D.Aw=d.Aw/\Ok w S D (λ_=>False):=λe=>⟨.lf .dead d.Aw,by simp[e],by simp,.lf _ _ _ trivial (λ_ h=>h)⟩;cases h with
 |lf a v _ ha _=>
  cases a with
  |sc u=>exact⟨.lf (.sc u) v,by simp[RX],by simp,.lf _ _ _ ha (λ_ h=>h)⟩
  |sl e k rows=>
   refine⟨.lf (.sl false k rows) v,by simp[RX],by simp,.lf _ _ _ ?_ (λ_ h=>h)⟩;have f:Fz w S (.sl e k rows) v:=ha;show Fz w S (.sl false k rows) v;cases f with
   |nil x k a c hx=>exact .nil _ _ _ _ (by simp)
   |sl x k rows b off c vs hx QS hS hk hc hr=>exact .sl _ _ _ b off c vs (by simp) QS hS hk hc hr
  |_=>exact dead (by simp[RX])
 |nil=>exact dead (by simp[RX])
 |own=>exact dead (by simp[RX])
 |agg=>exact dead (by simp[RX])
 |BI=>exact dead (by simp[RX])
theorem Uw {ds:List DV} (h:∀(i:Nat) d,ds[i]? =some d->∃F,Ok w S d F):∃a:List DV,a.map DV.er=(ds.map DV.er).map RX/\a.map DV.Aw=ds.map DV.Aw/\∀D∈a,Ok w S D (λ_=>False):=by
 induction ds with
 |nil=>simp_all
 |cons d ds ih=>obtain⟨F,b⟩:=h 0 d rfl;obtain⟨D,g,j,k⟩:=Xj b;obtain⟨a,c,g2,f⟩:=ih (λi e hi=>h (i+1) e hi);refine⟨D::a,by grind,by grind,λe l=> ?_⟩;grind
theorem P3 {d:DV} {F:Nat->Prop} {b:List AV} (h:Ok w S d F) (a:d.er= .agg b):∃ds,d= .agg ds/\ds.map DV.er=b:=by
 have:=h.Kw;cases d with
 |agg ds=>simp_all
 |lf c v=>cases this with|lf _ _ hl=>simp at a;subst a;simp[C0]at hl
 |own=>simp at a
 |BI=>simp at a
theorem vG (h:St G w S δ Fr) {x:Ar} (p:WL x) {b:AV} (e:rdF (λs=>(δ s).er) x=some b):∃D,D.er=b/\D.Aw=Cx δ x/\Ok w S D (λ_=>False):=by
 cases x with
 |t s=>
  simp only[rdF]at e;cases hs:(δ s).er with
  |agg cs=>
   rw[hs]at e;simp only[AAQ]at e;subst e;obtain⟨ds,hd,u⟩:=P3 (h.ok s) hs;have l:=h.ok s;rw[hd]at l;cases l with
   |agg _ Fs _ h1 h2 h3 h4=>obtain⟨n,r,g2,o⟩:=Uw (λi d hi=>⟨_,h1 i d hi⟩);exact⟨.agg n,by simp_all,by simp[Cx,hd,g2],Bt.2 (B4 o)⟩
  |_=>rw[hs]at e;simp only[AAQ]at e;subst e;rw[← hs];exact Xj (h.ok s)
 |c c=>
  obtain⟨g,j⟩:=p;obtain⟨f,m,q,_⟩:=Ib (w:=w) (S:=S) (δ:=δ) c g j;simp only[rdF]at e;split at e
  . rename_i v;simp only[AAQ]at e;subst e;exact⟨g,f,by simp[Cx,j],m⟩
  . rename_i k _;simp only[AAQ]at e;subst e;refine⟨.lf (.sl false k []) g.Aw,by simp,by simp[Cx,j],.lf _ _ _ ?_ (λ_ h=>h)⟩
    have:=m;cases g with
    |own v bx k' rows=>
     simp only[Ee,AV.own.injEq,List.map_eq_nil_iff]at f;obtain⟨rfl,rfl,rfl⟩:=f;cases this with
     |nil=>rw[Kh];exact Fz.nil false k' none 0 (by simp)
     |own _ _ _ b c arr E Fs _ hb hk Dv LO hv Yd ME Ba KG mQ=>simp_all
    |lf a v=>simp only[EU]at f;subst f;cases this with|lf _ _ _ ha _=>exact ha.elim
    |agg=>simp at f
    |BI=>simp at f
  . cases e
theorem RY (h:St G w S δ Fr) {a:Act} (m:Rd δ a) (i:List Ar):∀{e:List Operand} {c:List AV},Gm e i=true->Mz (λs=>(δ s).er) i=some c->
 ∃g:List DV,g.map DV.er=c/\g.map DV.Aw=e.map a.eval/\∀D∈g,Ok w S D (λ_=>False):=by
 induction i with
 |nil=>
  intro e c f d;cases e with
  |cons=>simp[Gm]at f
  |nil=>simp only[Mz,AAQ]at d;simp_all
 |cons y i ih=>
  intro e c f d;cases e with
  |nil=>simp[Gm]at f
  |cons x e=>
   simp only[Gm,AAR]at f;obtain⟨n,o⟩:=Aj f.1 m;simp only[Mz]at d;split at d
   . rename_i b l j k;simp only[AAQ]at d;subst d;obtain⟨D,p,q,r⟩:=vG h n j;obtain⟨g,t,u,v⟩:=ih f.2 k;refine⟨D::g,by grind,by simp_all,?_⟩;simp_all
   . cases d
theorem oR {l r:List DV} {D:DV} {F:Nat->Prop} (c:∀d∈l,Ok w S d (λ_=>False)) (b:Ok w S D F) (e:∀d∈r,Ok w S d (λ_=>False)):JS w S (l++D::r) F:=by have a:JS w S (D::r) F:=⟨F,λ_=>False,b,B4 e,λ_ _ h=>h,λx=>by simp⟩;exact(LY (B4 c) a (λ_ h=>h.elim)).congr λx=>by simp
theorem xS {l r:List DV} {D:DV} {F:Nat->Prop} (h:JS w S (l++D::r) F):∃a,Ok w S D a/\∀x,a x->F x:=by obtain⟨b,c,f,g,d⟩:=Jh.1 h;exact⟨b l.length,c _ D (by simp),λx e=>(d x).2 ⟨_,e⟩⟩
theorem nQ (h:St G w S δ Fr) {x:Ar} (hx:WL x) {c:ABr Nat} {r:Nat} {p:List Step} {b:Bool} {k:Nat} {rows:List (List AV)} (f:PY (λs=>(δ s).er) x c=some (r,p)) (X:sub (δ r).er p=some (.own b k rows)):
 ∃v e,Aq (δ r) p=some (.own v b k e)/\(DV.own v b k e).er= .own b k rows/\∀(H:Nat->Prop),Ok w S (.own v b k e) H->
  ∃D,D.er=Sr (λs=>(δ s).er) x c (.own b k rows)/\D.Aw=Cx δ x/\Ok w S D H/\∀(w':World) (S' B:Nat->Prop) (z:DV) (o:AV),z.Aw=D.Aw->SF c z.er=some o->Ok w' S' z B->∃(o':DV) (F'':Nat->Prop),o'.er=o/\o'.Aw=v/\Ok w' S' o' F''/\∀y,F'' y->B y:=by
 cases c with
 |none=>obtain⟨e,E,M⟩:=UM h (x:=x) f X;refine⟨_,e,E,M,λH K=>⟨_,M,by simp,K,?_⟩⟩;intro w' S' B z o O g J;simp only[SF,AAQ]at g;exact⟨z,B,g,by simp_all,J,λ_ h=>h⟩
 |some j=>
  cases x with
  |c=>simp[PY]at f
  |t s=>
   simp only[PY]at f;cases hse:(δ s).er with
   |agg cs=>
    rw[hse]at f;simp only at f;obtain⟨ds,hd,W⟩:=P3 (h.ok s) hse;have m:=h.ok s;rw[hd]at m;cases m with
    |agg _ Fs _ g1 g2 g3 g4=>
     cases hdj:ds[j]? with
     |none=>grind
     |some dj=>
      have Q:cs[j]? =some dj.er:=(by rw[← W];simp[hdj]);rw[Q]at f
      try simp only at f
      obtain⟨v,e,e1,T,e3⟩:∃v e,Aq (δ r) p=some (.own v b k e)/\(DV.own v b k e).er= .own b k rows/\dj.Aw=v:=by
       obtain⟨D,N,C⟩:=Dj (h.ok r).Kw X;have Dz:∃v e,D= .own v b k e:=by
        have:=(h.ok r).Kw.Aq N;cases D with
        |own v bx k' n=>simp_all
        |lf a v=>cases this with|lf _ _ U=>simp at C;subst C;simp[C0]at U
        |agg cs=>simp at C
        |BI cs=>simp at C
       obtain⟨v,e,rfl⟩:=Dz;refine⟨v,e,N,C,?_⟩;split at f
       . rename_i r' p' l;simp only[AAQ,AAQ,AAf]at f l;obtain⟨rfl,rfl⟩:=f;have I:=h.al s;rw[hd]at I;cases I with
         |agg _ I=>
          have E:=I j dj hdj;have M:=g1 j dj hdj;cases dj with
          |lf a u=>
           simp only[EU]at l;subst l;cases E with
           |lf _ _ E=>obtain⟨bx,k',n,U⟩:=E;simp_all
          |own=>simp at l
          |agg=>simp at l
          |BI=>simp at l
       . rename_i l;simp only[AAQ,AAf]at f;obtain⟨rfl,rfl⟩:=f;simp only[hd,Aq,hdj,AAQ]at N;simp_all
       . cases f
      refine⟨v,e,e1,T,λH K=> ?_⟩;obtain⟨q,k1,Z,k3⟩:=Uw (λi d hi=>⟨_,g1 i d hi⟩);have hjl:j<ds.length:=(AAS.1 hdj).1;have V:q.length=ds.length:=(by have:=ABl List.length Z;simpa using this);have mX:q.set j (.own v b k e)=q.take j++ .own v b k e::q.drop (j+1):=List.set_eq_take_append_cons_drop.trans (by simp_all);refine⟨.agg (q.set j (.own v b k e)),?_,?_,?_,?_⟩
      . simp only[HU,Sr,ar,hse,ABJ,k1,T,W]
      . simp only[Jk,Cx,hd,ABJ,Z,Kh];congr 2;rw[← e3];apply ABd;grind
      . rw[mX];exact Bt.2 (oR (λd L=>k3 d (ABp L)) K (λd L=>k3 d (List.mem_of_mem_drop L)))
      . intro w' S' B z o O g J;simp only[SF]at g;split at g
        . rename_i os l;obtain⟨F,rfl,R⟩:=P3 J l;rw[← R]at g;simp only[AAb]at g;cases hoj:F[j]? with
          |none=>simp_all
          |some oj=>
           simp only[hoj,AAw,AAQ]at g;cases J with
           |agg _ Fs' _ m1 m2 m3 m4=>
            refine⟨oj,Fs' j,g,?_,m1 j oj hoj,λy hy=>(m4 y).2 ⟨j,hy⟩⟩;simp only[Jk,Value.agg.injEq]at O;have P:F.map DV.Aw=(q.set j (.own v b k e)).map DV.Aw:=by have:=ABl Array.toList O;simpa using this
            have:=ABl (·[j]?) P;simp only[AAb,hoj,AAw,List.getElem?_set]at this;simp_all
        . cases g
   |_=>simp_all
theorem uR {n:Nat} {w0:World} {S0 U0:Nat->Prop} (hG:Yj w0 S0 U0) {a:Act} {σ:Sg} (h:Rel G n w0 S0 U0 a w σ) {o:Oper} {d:ABr Dk} {f:Nat} {x:Ar} {c:ABr Nat} {B u:List Ar} {K:Sg->Prop} {r:Nat} {p:List Step} {O bs:List AV} {b:Bool} {k:Nat} {rows:List (List AV)} {res out ou t:AV}
 (PA:Jl P o.op f (B++x::u) 0=true) (fR:Dr G n o.dst d=true) (hp:PY σ x c=some (r,p)) (Yx:Mz σ B=some O) (NJ:Mz σ u=some bs) (hs:sub (σ r) p=some (.own b k rows))
 (JX:A8 P f (O++Sr σ x c (.own b k rows)::bs) res ((O.map λ_=>.dead)++out::bs.map λ_=>.dead)) (hba:SF c out=some ou) (O8:IG ou=true) (G8:clean res=true) (HQ:put (σ r) p ou=some t) (hK:Ct d res K (DR (FU G (Ss ou b k p) r σ) r t)) (Q:Exit->Act->World->Prop):
 o.wp P a w (λa' w'=>∃σ',Rel G n w0 S0 U0 a' w' σ'/\K σ') Q:=by
 obtain⟨S,δ,Fr,hn,ED,ha,rfl,m,Ef,Cy⟩:=h;obtain⟨cc,fn,ho,MF,hf,hfb,hfn,hm3,M⟩:=LL PA;have hd:=ER fR hn;obtain⟨xs,x0,ys,Ft,hxs,hx0,hys⟩:∃xs x0 ys,cc.args.toList=xs++x0::ys/\Gm xs B=true/\CB x0 x=true/\Gm ys u=true:=by
  generalize cc.args.toList=l at M;clear Yx NJ hp JX PA;induction B generalizing l with
  |nil=>
   cases l with
   |nil=>simp[Gm]at M
   |cons x0 xs=>simp only[ABN,Gm,AAR]at M;exact⟨[],x0,xs,rfl,rfl,M.1,M.2⟩
  |cons y B ih=>
   cases l with
   |nil=>simp[Gm]at M
   |cons y0 l=>simp only[AA6,Gm,AAR]at M;obtain⟨xs,x0,ys,i,z,h3,h4⟩:=ih l M.2;exact⟨y0::xs,x0,ys,by simp[i],by simp[Gm,M.1,z],h3,h4⟩
 obtain⟨hxo,ex0⟩:=Aj hx0 ha;obtain⟨v,Al,hD,FM,hlent⟩:=nQ m hxo hp hs;obtain⟨R,Yw,Bp,Ms⟩:=(m.ok r).replace p hD;obtain⟨Dx,hDx,hDxa,hDxo,hbk⟩:=hlent R Yw;obtain⟨F,p1,p2,p3⟩:=RY m ha B hxs Yx;obtain⟨Ds2,q1,q2,q3⟩:=RY m ha u hys NJ;have Ga:=JX w S (F++Dx::Ds2) R (hG.now Ef) (by simp[p1,q1,hDx]) (A5.2 (oR p3 hDxo q3)) Cy;have XC:(List.map DV.Aw (F++Dx::Ds2))=cc.args.toList.map a.eval:=by rw[Ft];simp[p2,q2,hDxa,ex0]
 unfold Oper.wp;rw[Ti ho MF hf hfb hfn,Oper.upon_enter,← XC];refine Ga.mono ?_;rintro e w' ⟨rD,os,S',F',rfl,RK,hoe,wV,CZ,W,MD,pZ,Ks,XA⟩;obtain⟨Fa,Fb,V,hosk,hdab,QQ⟩:=A5.1 CZ;obtain⟨os1,oX,os2,rfl,hl1,hXe,hXa⟩:∃os1 oX os2,os=os1++oX::os2/\os1.length=F.length/\oX.er=out/\oX.Aw=Dx.Aw:=by
  have D:O.length=F.length:=by rw[← p1];simp
  have hlen:os.length=F.length+(Ds2.length+1):=by have:=ABl List.length wV;simpa using this
  have I:F.length<os.length:=by omega
  refine⟨os.take F.length,os[F.length],os.drop (F.length+1),?_,by simp;omega,?_,?_⟩
  . rw[← ABQ I,ABj]
  . have:=ABl (·[F.length]?) hoe;simp only[AAb,AAV I,AAw]at this;rw[AAy (by simp[D])]at this;simpa[D]using this
  . have:=ABl (·[F.length]?) wV;simp only[AAb,AAV I,AAw]at this;simpa using this
 obtain⟨FX,hoX,hFX⟩:=xS hosk;obtain⟨oD,Fc,T,E,hoD,hFcX⟩:=hbk w' S' FX oX ou hXa (by rw[hXe];exact hba) hoX;have I:∀s x,Fr s x->x<w.heap.size:=λs x g=>(m.ok s).lt x g;have U:∀x,Fc x->Fb x:=λx g=>hFX x (hFcX x g);have Z:∀x,Fc x->R x∨w.heap.size≤x:=λx g=>XA x ((QQ x).2 (.inr (U x g)));have tQ:∀x,Fa x->R x∨w.heap.size≤x:=λx g=>XA x ((QQ x).2 (.inl g));have qE:∀b,S b->w'.heap[b]? =w.heap[b]? :=λb j=>W.block b (Cy b j) (λhf=>Yw.Et b hf j);have mZ:∀s b,Fr s b->¬R b->w'.heap[b]? =w.heap[b]? :=λs b j J=>W.block b (I s b j) J;have AAM:∀s b,Fr s b->¬R b->¬S' b:=by
  intro s b j J h';rcases pZ b h' with i|i|i
  . exact(m.ok s).Et b j i
  . exact J i
  . have:=I s b j;omega
 have Sh:∀s,s≠r->∀x,Fr s x->¬R x:=λs C x g hf=>C (m.MC s r x g (Bp x hf));obtain⟨tD,X,qD,hokt,IA,DZ⟩:=Ms w' S' oD Fc (by rw[E];simp) hoD (λx g hr=>(Z x g).elim id λkB=>absurd (I r x hr) (by omega)) qE (λb j J=>mZ r b j J) MD (λb j J=>AAM r b j J);have uB:tD.er=t:=by obtain⟨t',i,z⟩:=HA (d:=δ r) (p:=p) (a:=t) oD (m.ok r).Kw (by rw[T];exact HQ);rw[qD]at i;obtain rfl:=AAU i;exact z
 have hdisr:∀s,s≠r->∀x,X x->¬Fr s x:=by
  intro s C x g hy;rcases(IA x).1 g with⟨i,_⟩|i
  . exact C (m.MC s r x hy i)
  . rcases Z x i with z|z
    . exact Sh s C x hy z
    . have:=I s x hy;omega
 have mR:IG oD.er=true:=by rw[T];exact O8
 have Gk:DU δ oD:=T5 mR;have hrin:∀L,Fh L oD.er=true:=λL=>Nd mR;generalize hN:Ss ou b k p=N at hK;have wU:∀q v' bx k' H,q.length<N->Aq (δ r) q=some (.own v' bx k' H)->∃It,Aq tD q=some (.own v' bx k' It):=by
  intro q v' bx k' H hq hsq;subst hN;unfold Ss at hq;split at hq
  . rename_i b1 k1 Jb;split at hq
    . rename_i e;obtain⟨rfl,rfl⟩:=e;refine NP q p (by omega) qD (λ_ v2 bx2 k2 It z=> ?_) hsq;rw[hD]at z;cases z;cases oD with
      |own hh b2 k2 It=>simp only[Ee,AV.own.injEq]at T;obtain⟨rfl,rfl,_⟩:=T;simp only[Kh]at E;exact⟨It,by rw[E]⟩
      |lf a v=>simp only[EU]at T;subst T;cases hoD with|lf _ _ _ h=>exact h.elim
      |agg=>simp at T
      |BI=>simp at T
    . omega
  . omega
 have Ew:St G w' S' (DR (EL G N r δ) r tD) (DR Fr r X):=
  m.setn N r tD X qE (λs C x g=>mZ s x g (Sh s C x g)) MD (λs C x g=>AAM s x g (Sh s C x g)) hokt hdisr (Lp p qD (m.rt r) (hrin _)) (Mc p qD (m.al r) Gk) wU
 have XF:(λs=>(DR (EL G N r δ) r tD s).er)=DR (FU G N r λs=>(δ s).er) r t:=by
  funext s;unfold DR;split
  . exact uB
  . exact m.QA N r s
 have Jn:∀s,(DR (EL G N r δ) r tD s).Aw=(δ s).Aw:=by
  intro s;unfold DR;split
  . rename_i e;rw[e,DZ]
  . exact m.Lj N r s
 have hF1:∀s x,DR Fr r X s x->(Fr s x/\¬R x)∨(s=r/\Fc x):=by
  intro s x g;by_cases C:s=r
  . subst C;rw[BD]at g;exact((IA x).1 g).imp id λh=>⟨rfl,h⟩
  . rw[BT _ _ C]at g;exact .inl ⟨g,Sh s C x g⟩
 have hdisD:∀s x,DR Fr r X s x->¬Fa x:=by
  intro s x g hy;rcases hF1 s x g with⟨i,z⟩|⟨_,i⟩
  . rcases tQ x hy with h3|h3
    . exact z h3
    . have:=I s x i;omega
  . exact hdab x hy (U x i)
 have hOwn1:∀x,BA (DR Fr r X) x->BA Fr x∨w.heap.size≤x:=by
  rintro x ⟨s,g⟩;rcases hF1 s x g with⟨i,_⟩|⟨_,i⟩
  . exact .inl ⟨s,i⟩
  . exact(Z x i).imp (λh=>⟨r,Bp x h⟩) id
 have G0:∀F3:Nat->Nat->Prop,(∀x,BA F3 x->BA (DR Fr r X) x∨Fa x)->Nx w0 S0 U0 w' S' (BA F3):=by
  intro F3 hF3;refine Ef.trans ⟨W.os,W.tape,W.output,W.size,λb j J=>W.block b j λhf=>J ⟨r,Bp b hf⟩,MD,λb j=>(pZ b j).imp id (Or.imp (λh=>⟨r,Bp b h⟩) id),λ_=>Ks,λx g=> ?_⟩;rcases hF3 x g with i|i
  . exact hOwn1 x i
  . exact(tQ x i).imp (λh=>⟨r,Bp x h⟩) id
 rw[← XF]at hK;have Qp:Rd (DR (EL G N r δ) r tD) a:=λs=>(ha s).trans (Jn s).symm;simp only;cases d with
 |none=>
  have h0:o.dst=none:=hd;refine⟨_,⟨S',_,_,?_,?_,?_,rfl,Ew,G0 _ (λx g=>.inl g),Ks⟩,hK⟩
  . rw[h0];exact hn
  . rw[h0];exact ED
  . rw[h0];exact Qp
 |some d=>
  simp only[Ct]at hK;split at hK
  . rename_i τ' MV;obtain⟨i,z,h3,h4⟩:=hd;rw[← RK]at MV;obtain⟨δ',F3,KU,JH,Qq,Dz⟩:=Ew.wr z h3 (λ_ _=>rfl) (λ_ _ _=>rfl) (λ_ h=>h) (λs x g=>(Ew.ok s).Et x g) V hdisD (Wt V (by rw[RK];exact G8)) MV;refine⟨τ',⟨S',δ',F3,?_,?_,?_,JH,KU,G0 F3 Dz,Ks⟩,hK⟩
    . rw[i];simpa[Act.put]using hn
    . rw[i];simpa[Act.put]using ED
    . intro s;rw[i,Il a d.d rD.Aw h4 s,Qq s];split
      . rfl
      . exact Qp s
  . exact hK.elim
end Go.Abs
namespace Go.Abs
variable {w w':World} {S S':Nat->Prop} {G:Gi} {δ:Nat->DV} {Fr:Nat->Nat->Prop} {P:Program}
def Kq (n:Nat) (ops:Array Oper) (g:ABr (Nat×Bool)) (h:ABr (Nat×Bool)):Bool:=
 match g,h with
 |none,none=>true
 |some (j,b),some (s,b')=>(ops[j]?).bind (·.dst)==some s&&b==b'&&decide (s<n)
 |_,_=>false
def G4 (P:Program) (G:Gi) (n:Nat) (ops:Array Oper) (o:Oper) (io:BJ):Bool:=
 Dr G n o.dst io.dst&&Kq n ops o.guard io.guard&&(match io.op with
  | .call f args m=>Jl P o.op f args m
  | .Up f pre x _ post=>Jl P o.op f (pre++x::post) 0
  |op=>JT P o.op op)
theorem Wl {n:Nat} {u:World} {j k:Nat->Prop} (I:Yj u j k) {a:Act} {σ:Sg} (h:Rel G n u j k a w σ) {ops:Array Oper} {o:Oper} {io:BJ} (J:G4 P G n ops o io=true) {K:Sg->Prop} (d:EA P G io K σ) (Q:Exit->Act->World->Prop):
 o.wp P a w (λy w'=>∃σ',Rel G n u j k y w' σ'/\K σ') Q:=by
 simp only[G4,AAR]at J;obtain⟨⟨H,_⟩,g⟩:=J;have F:=h;obtain⟨S,δ,Fr,hn,M,ha,rfl,L,N,E⟩:=h;have hd:=ER H hn;have i:∀{op:Yb},io.op=op->(match GU G op io.dst (λs=>(δ s).er)with|some τ=>K τ|none=>False)->JT P o.op op=true->o.wp P a w (λy w'=>∃σ',Rel G n u j k y w' σ'/\K σ') Q:=by
  intro op _ B hk;split at B
  . rename_i τ l;obtain⟨nx,v,w',S',D,O,q,C,Ry,U,W,e⟩:=op_sound L E ha hd hk l;have key:∃σ',Rel G n u j k (a.put o.dst v) w' σ'/\K σ':=by
     refine⟨τ,⟨S',D,O,?_,?_,Ry,U,W,N.trans e,e.lt E⟩,B⟩
     . cases ho:o.dst<;>simp[Act.put,hn]
     . cases ho:o.dst<;>simp[Act.put,M]
    unfold Oper.wp;rw[q];rcases C with rfl|⟨rfl,rfl⟩
    . rw[Oper.upon_value];exact key
    . rw[Oper.upon_skip];exact key
  . exact B.elim
 cases Hv:io.op with
 |call f args m=>rw[Hv]at g;exact lP I F Hv g hd d Q
 |Up f pre x c post=>
  rw[Hv]at g;unfold EA at d;rw[Hv]at d;simp only at d g;split at d
  . rename_i r p aZ9 bs hp Yx X;split at d
    . rename_i b kk rows hs;obtain⟨res,out,ou,V,z,Z,R,q⟩:=d;split at q
      . rename_i t T;exact uR I F g H hp Yx X hs V z Z R T q Q
      . exact q.elim
    . exact d.elim
  . exact d.elim
 |_=>rw[Hv]at g;unfold EA at d;rw[Hv]at d;exact i Hv d g
theorem O7 {n:Nat} {W:World} {N O:Nat->Prop} {a:Act} {σ:Sg} (h:Rel G n W N O a w σ) {ops:Array Oper} {o:Oper} {y:ABr Dk} {I:ABr (Nat×Bool)} (h1:Dr G n o.dst y=true) (c:Kq n ops o.guard I=true) {A K:Sg->Prop} {next:Act->World->Prop} (Q:Exit->Act->World->Prop)
 (T:A σ->o.wp P a w next Q) (U:∀R σ',Rel G n W N O R w σ'->K σ'->next R w) (k:gdP I A (YR y K) σ) {i:Nat} (hi:ops[i]? =some o):wpOp P ops Q i next a w:=by
 unfold wpOp;rw[hi];simp only;have skip:YR y K σ->next (a.put o.dst undef) w:=by
  intro t;unfold YR at t;obtain⟨S,δ,Fr,hn,z,r,rfl,p,M,L⟩:=h;have hd:=ER h1 hn;cases ME:y with
  |none=>rw[ME]at t hd;have h0:o.dst=none:=hd;rw[h0];exact U _ _ ⟨S,δ,Fr,hn,z,r,rfl,p,M,L⟩ t
  |some d=>
   rw[ME]at t hd;obtain⟨B,g2,g3,g4⟩:=hd;have MV:wr d (DV.lf .un undef).er (λs=>(δ s).er)=some (DR (JZ d.kl d.d λs=>(δ s).er) d.d .un):=(by simp[wr]);obtain⟨J,F',KU,JH,X,Z⟩:=p.wr (D:=.lf .un undef) (Ff:=λ_=>False) g2 g3 (λ_ _=>rfl) (λ_ _ _=>rfl) (λ_ h=>h) (λs x H=>(p.ok s).Et x H) (.lf _ _ _ rfl (λ_ h=>h)) (λ_ _ _ h=>h) (.lf _ _ trivial) MV;refine U _ _ ⟨S,J,F',?_,?_,?_,JH,KU,M.trans (Nx.less λx H=>(Z x H).elim (λh=>h) False.elim),L⟩ t
   . rw[B];simpa[Act.put]using hn
   . rw[B];simpa[Act.put]using z
   . intro s;rw[B,Il a d.d undef g4 s,X s];split
     . rfl
     . exact r s
 cases I with
 |none=>
  have e:o.guard=none:=by
   cases ho:o.guard with
   |none=>rfl
   |some g=>rw[ho]at c;simp[Kq]at c
  have hw:Region.wanted o (yielded ops a.tmps)=true:=by simp[Region.wanted,e]
  rw[AAa hw];exact .inl (T k)
 |some g=>
  obtain⟨s,l⟩:=g;simp only[gdP]at k;obtain⟨j,e,E,F⟩:∃j,o.guard=some (j,l)/\(ops[j]?).bind (·.dst)=some s/\s<n:=by
   cases ho:o.guard with
   |none=>rw[ho]at c;simp[Kq]at c
   |some g=>obtain⟨j,b⟩:=g;rw[ho]at c;simp only[Kq,AAR,AAg,AAk]at c;exact⟨j,by rw[c.1.2],c.1.1,c.2⟩
  have V:yielded ops a.tmps j=match a.tmps.getD s undef with| .bool b=>some b|_=>none:=by obtain⟨S,δ,Fr,hn,_⟩:=h;have u:s<a.tmps.size:=(by rw[hn];exact F);unfold yielded;rw[E];simp only[AAP,Array.getElem?_eq_getElem u,AAo,Option.getD_some];cases a.tmps[s]<;>rfl
  have q:a.tmps.getD s undef=match σ s with| .sc v=>v| .un=>undef|_=>a.tmps.getD s undef:=by
   obtain⟨S,δ,Fr,hn,z,r,rfl,p,_⟩:=h;simp only;cases u:(δ s).er with
   |sc v=>rw[r s];exact(p.leaf u rfl).2.1.1
   |un=>rw[r s];exact(p.leaf u rfl).2.1
   |_=>rfl
  split at k
  . rename_i b C;rw[C]at q;simp only at q;have f:Region.wanted o (yielded ops a.tmps)=(some b==some l):=(by simp only[Region.wanted,e,V,q]);split at k
    . rename_i m;subst m;rw[AAa (by rw[f];simp)];exact .inl (T k)
    . rename_i m;rw[AAZ (by rw[f];simp[m])];exact skip k
  . rename_i C;rw[C]at q;simp only at q;have f:Region.wanted o (yielded ops a.tmps)=false:=(by simp only[Region.wanted,e,V,q];rfl);rw[AAZ (by rw[f];simp)];exact skip k
  . exact k.elim
theorem IZ {n:Nat} {e:World} {b d:Nat->Prop} (l:Yj e b d) {a:Act} {σ:Sg} (h:Rel G n e b d a w σ) {ops:Array Oper} {o:Oper} {io:BJ} (f:G4 P G n ops o io=true) {K:Sg->Prop} (g:Ko P G io K σ) (Q:Exit->Act->World->Prop) {i:Nat} (hi:ops[i]? =some o):
 wpOp P ops Q i (λj w'=>∃σ',Rel G n e b d j w' σ'/\K σ') a w:=by
 have c:=f;simp only[G4,AAR]at c;exact O7 h c.1.1 c.1.2 (A:=EA P G io K) Q (λm=>Wl l h f m Q) (λ_ _ r k=>⟨_,r,k⟩) g hi
def Lc (P:Program) (G:Gi) (n:Nat) (ops:Array Oper):List Oper->List BJ->Bool
 |[],[]=>true
 |o::os,io::Db=>G4 P G n ops o io&&Lc P G n ops os Db
 |_,_=>false
theorem lD {n:Nat} {j:World} {d e:Nat->Prop} (q:Yj j d e) {ops:Array Oper} {K:Sg->Prop} (Q:Exit->Act->World->Prop) (r:∀a w σ,Rel G n j d e a w σ->K σ->Q .normal a w) (c:List BJ):
 ∀(k:Nat) {a:Act} {w:World} {σ:Sg},Rel G n j d e a w σ->Lc P G n ops (ops.toList.drop k) c=true->Nb P G c K σ->wpOps P ops Q (List.range' k (ops.size-k)) a w:=by
 induction c with
 |nil=>
  intro k a w σ h b i;have l:ops.toList.drop k=[]:=by cases hd:ops.toList.drop k with|nil=>rfl|cons o os=>rw[hd]at b;simp[Lc]at b
  have m:ops.size≤k:=by simpa using l
  rw[show ops.size-k=0 from by omega];exact r a w σ h i
 |cons io c ih=>
  intro k a w σ h b i;cases hd:ops.toList.drop k with
  |nil=>rw[hd]at b;simp[Lc]at b
  |cons o os=>rw[hd]at b;simp only[Lc,AAR]at b;have l:k<ops.size:=(by have:(ops.toList.drop k).length=os.length+1:=(by rw[hd];rfl);simp at this;omega);have s:ops[k]? =some o:=(by have:(ops.toList.drop k)[0]? =some o:=(by rw[hd];rfl);simpa using this);have g:ops.toList.drop (k+1)=os:=(by have:(ops.toList.drop k).drop 1=os:=(by rw[hd];rfl);rw[List.drop_drop]at this;exact this);rw[show ops.size-k=(ops.size-(k+1))+1 from by omega,List.range'_succ,wpOps_cons];refine wpOp_mono ?_ (IZ q h b.1 i Q s);rintro t w' ⟨σ',p,f⟩;exact ih (k+1) p (by rw[g];exact b.2) f
end Go.Abs
namespace Go.Abs
variable {w w':World} {S S':Nat->Prop} {G:Gi} {δ:Nat->DV} {Fr:Nat->Nat->Prop} {P:Program}
theorem OW (d:Nat) (t e:TypeId) (a:ABr Addr) (n c:Nat) (h:P.underlying t=some (.slice e)):(Op.equalIn (d+1) t (.slice a n c) (.slice none 0 0)).run P w= .ok a.isNone w:=by have b:(underlying t).run P w= .ok (.slice e) w:=run_underlying h w;cases a<;>simp[Op.equalIn,b]
theorem iR (t e:TypeId) (a:ABr Addr) (n c:Nat) (h:P.underlying t=some (.slice e)):(binOp .eql t (.slice a n c) (.slice none 0 0)).run P w= .ok (.bool a.isNone) w:=by simp only[binOp];have:(Op.equal t (.slice a n c) (.slice none 0 0)).run P w= .ok a.isNone w:=OW 9999 t e a n c h;simp[this]
theorem iT (t e:TypeId) (a:ABr Addr) (n c:Nat) (h:P.underlying t=some (.slice e)):(binOp .neq t (.slice a n c) (.slice none 0 0)).run P w= .ok (.bool (!a.isNone)) w:=by simp only[binOp];have:(Op.equal t (.slice a n c) (.slice none 0 0)).run P w= .ok a.isNone w:=OW 9999 t e a n c h;simp[this]
def l5 (P:Program) (o:Op) (neg:Bool) (y:Ar):Bool:=match o with
 | .binOp op t x (.const (.slice none 0 0)) _=>(match op with| .eql=> !neg| .neq=>neg|_=>false)&&(match P.underlying t with|some (.slice _)=>true|_=>false)&&CB x y
 |_=>false
theorem nJ {n:Nat} {w0:World} {L M:Nat->Prop} {a:Act} {σ:Sg} (h:Rel G n w0 L M a w σ) {o:Oper} {d:Dk} {g:Bool} {x:Ar} {K:Sg->Prop} {rows:List (List AV)} {z:AV} {pl:ABr (Nat×List Step)} (j:l5 P o.op g x=true) (fR:Dr G n o.dst (some d)=true)
 (W:hd σ x=some (z,pl)) (i:rowsOf z=some rows) (hK:∀b:Bool,(b=true->rows=[])->Ct (some d) (.sc (.bool (if g=true then !b else b))) K σ) (Q:Exit->Act->World->Prop):
 o.wp P a w (λa' w'=>∃σ',Rel G n w0 L M a' w' σ'/\K σ') Q:=by
 obtain⟨S,δ,Fr,hn,ED,R,rfl,p,Ef,C⟩:=h;unfold l5 at j;split at j
 . rename_i op t x' u Z;simp only[AAR]at j;obtain⟨⟨r,O⟩,h3⟩:=j;obtain⟨hx,N⟩:=Aj h3 R;obtain⟨e,U⟩:∃e,P.underlying t=some (.slice e):=by
    split at O
    . exact⟨_,‹_›⟩
    . cases O
   -- the slice's own value
   obtain⟨f,l,c,q,m⟩:∃f l c,Cx δ x= .slice f l c/\(f.isNone=true->rows=[]):=by
    obtain⟨g1,g2⟩:=p.p7 hx W;cases z with
    |own b k rows'=>
     cases b with
     |true=>simp[rowsOf]at i
     |false=>
      simp only[rowsOf,AAQ]at i;subst i;obtain⟨Al,F,e1,B,_⟩:=g1 _ _ _ rfl;generalize Cx δ x=v at B;cases B with
      |nil=>exact⟨none,0,0,rfl,λ_=>by rw[← e1];rfl⟩
      |own _ _ _ b c arr E Fs _ T X Dv LO hvv hr H q KG hF=>exact⟨_,_,_,by simp[JW];exact⟨rfl,rfl,rfl⟩,by simp⟩
    |sl e' k rows'=>
     simp only[rowsOf,AAQ]at i;subst i;obtain⟨s,y,qC⟩:=p.hdSl hx W;have J:=g2 _ _ _ rfl ⟨s,y,qC⟩;generalize Cx δ x=v at J;cases J with
     |nil=>exact⟨_,_,_,rfl,λ_=>rfl⟩
     |sl=>exact⟨_,_,_,rfl,by simp⟩
    |_=>simp[rowsOf]at i
   have T:(execOp a.eval o).run P w= .ok (.value (.bool (if g=true then !f.isNone else f.isNone))) w:=by
    have V:∀op,(eqGuard op t x' (.const (.slice none 0 0)) (.slice f l c) (.slice none 0 0)).run P w= .ok () w:=(by intro op;cases op<;>simp[eqGuard]);have I:a.eval (.const (.slice none 0 0))= .slice none 0 0:=rfl;cases op<;>simp only[AAY]at r
    . have:g=false:=(by simpa using r);subst this;simp only[execOp,Z,N,q,I,Sem.run_bind,V,Result.andThen_ok,iR t e f l c U,Sem.run_pure,AAY,AAd]
    . subst r;simp only[execOp,Z,N,q,I,Sem.run_bind,V,Result.andThen_ok,iT t e f l c U,Sem.run_pure,AAq]
   have X:=hK f.isNone m;have H:=ER fR hn;unfold Oper.wp;rw[T,Oper.upon_value];exact LZ (S2:=S) (D:=.lf (.sc (.bool (if g=true then !f.isNone else f.isNone))) (.bool (if g=true then !f.isNone else f.isNone))) (FD:=λ_=>False) p hn ED R H (by simp) (λ_ _=>rfl) C (λ_ h=>h) (λ_ h=>.inl h) C (.lf _ _ _ ⟨rfl,rfl⟩ (λ_ h=>h)) (λ_ h=>h.elim) (.lf _ _ trivial) Ef rfl rfl rfl (AAv _) X
 . cases j
theorem lS (h:St G w S δ Fr) (rs:List (Nat×List Step)):∀{vs:List Value} {f:List AV},vs.length=rs.length->(∀(i:Nat) r p u,rs[i]? =some (r,p)->vs[i]? =some u->∃bx k rows,Aq (δ r) p=some (.own u bx k rows))->sG (λs=>(δ s).er) rs=some f->
 ∃c:List DV,c.map DV.er=f/\c.map DV.Aw=vs/\∀D∈c,Ok w (λx=>S x∨BA Fr x) D (λ_=>False):=by
 induction rs with
 |nil=>
  intro vs f g _ b;cases vs with
  |nil=>simp only[sG,AAQ]at b;subst b;exact⟨[],rfl,rfl,by simp⟩
  |cons=>simp at g
 |cons x rs ih=>
  obtain⟨r,p⟩:=x;intro vs f g l b;cases vs with
  |nil=>simp at g
  |cons v vs=>
   simp only[sG]at b;split at b
   . rename_i a m n o;simp only[AAQ]at b;subst b;obtain⟨bx,k,rows,q⟩:=l 0 r p v rfl rfl;obtain⟨D,y,z,B⟩:=Ja h (d:=.lf (.al r p) v) (F:=λ_=>False) (.lf _ _ _ trivial (λ_ h=>h)) (λ_ h=>h.elim) (.lf _ _ ⟨bx,k,rows,q⟩) (by simpa using n);obtain⟨c,C,E,H⟩:=ih (by simpa using g) (λi r p u hi t=>l (i+1) r p u (by simpa using hi) (by simpa using t)) o;refine⟨D::c,by simp[y,C],by simpa[E]using z,?_⟩;intro e j;rcases AAp.1 j with rfl|j
     . exact B
     . exact H e j
   . cases b
def lV (P:Program) (o:Op) (f:Nat) (y:Ar) (ys:List Ar):Bool:=match o with
 | .call c=>(match c.callee with
  | .value x=>CB x y&&Gm c.args.toList ys&&(match P.funcs[f]? with|some fn=>fn.body.isSome&&fn.name != "runtime.NumGoroutine" |none=>false)
  |_=>false)
 |_=>false
theorem run_clo {a:Act} {o:Oper} {c:Call} {x:Operand} {f:Nat} {b:Func} {vs:List Value} (k:o.op= .call c) (i:c.callee= .value x) (m:a.eval x= .func (.func f) #[] vs.toArray) (j:P.funcs[f]? =some b) (n:b.body.isSome=true) (hn:(b.name != "runtime.NumGoroutine")=true):
 (execOp a.eval o).run P w= .ok (.enter f (c.args.toList.map a.eval++vs).toArray) w:=by
 have d:b.body.isNone=false:=by cases h:b.body<;>simp_all
 have e:(b.name== "runtime.NumGoroutine")=false:=by simpa using hn
 have g:c.args.map a.eval=(c.args.toList.map a.eval).toArray:=by apply ABe;simp
 simp only[execOp,k,resolve,i,m,Deferred.ofValue,Sem.run_bind,Sem.run_pure,Result.andThen_ok,invoke,callFunc,g];have l:(program).run P w= .ok P w:=rfl;rw[l];simp only[Result.andThen_ok,j,e,d,AAY,AAd,Sem.run_pure];simp
theorem sL {n:Nat} {R:World} {F H:Nat->Prop} (hG:Yj R F H) {a:Act} {σ:Sg} (h:Rel G n R F H a w σ) {o:Oper} {d:ABr Dk} {f:Nat} {x:Ar} {args:List Ar} {K:Sg->Prop} {m:List AV} {z v:AV}
 (i:lV P o.op f x args=true) (fR:Dr G n o.dst d=true) (g:cloA σ f x args=some m) (JX:Says P f m z) (l:UU 0 z=some v) (hK:Ct d v K σ) (Q:Exit->Act->World->Prop):
 o.wp P a w (λa' w'=>∃σ',Rel G n R F H a' w' σ'/\K σ') Q:=by
 obtain⟨S,δ,Fr,hn,ED,I,rfl,k,T,B⟩:=h;have hd:=ER fR hn;have NH:=hG.now T;unfold lV at i;split at i
 . rename_i c ho;split at i
   . rename_i x0 MF;simp only[AAR]at i;obtain⟨⟨h1,h2⟩,p⟩:=i;split at p
     . rename_i fn hf;simp only[AAR]at p;obtain⟨y,ex⟩:=Aj h1 I;unfold cloA at g;split at g
       . rename_i f' rs C;split at g
         . rename_i e;subst e;split at g
           . rename_i as1 bs J L;simp only[AAQ]at g;subst g;obtain⟨vs,Z,N,O⟩:Mn δ (.cl f' rs) (Cx δ x):=by
              cases x with
              |t s=>exact(k.leaf C rfl).2.2
              |c c0=>obtain⟨D0,mP⟩:=y;simp only[ar]at C;subst C;simp[Ix]at mP
             obtain⟨X,p1,p2,p3⟩:=TG k I args h2 J;obtain⟨Ds2,q1,q2,q3⟩:=lS k rs N O L;have Ga:=JX w (λx=>S x∨BA Fr x) (X++Ds2) (λ_=>False) (NH.mono λ_ h=>.inl h) (by simp[p1,q1]) (A5.2 (B4 λD hD=>(AAh.1 hD).elim (p3 D) (q3 D))) (by
              rintro b (q|⟨s,M⟩)
              . exact B b q
              . exact(k.ok s).lt b M)
             have XC:(List.map DV.Aw (X++Ds2))=c.args.toList.map a.eval++vs:=(by simp[p2,q2]);simp only[UU]at l;split at l
             . rename_i FA;simp only[AAQ]at l;have W:=W3 FA;unfold Oper.wp;rw[run_clo ho MF (by rw[ex,Z]) hf p.1 p.2,Oper.upon_enter,← XC];refine Ga.mono ?_;rintro e w' ⟨r,os,S',F',rfl,E,hoe,wV,CZ,j,MD,pZ,Ks,XA⟩;obtain⟨U,Fb,V,_,_,QQ⟩:=A5.1 CZ;have u:∀x,U x->w.heap.size≤x:=λx y=>(XA x ((QQ x).2 (.inl y))).resolve_left id;have PG:Ok w' S r U:=SY V (by rw[E];exact W) (λx y M=>by have:=B x M;have:=u x y;omega);simp only;exact LZ (S2:=S) k hn ED I hd (E.trans l) (λb q=>j.block b q id) B (λ_ h=>h) (λ_ h=>.inl h) (λb q=>ABW (B b q) j.size) PG u (SX V (by rw[E];exact W)) T j.os j.tape j.output j.size hK
             . cases l
           . cases g
         . cases g
       . cases g
     . cases p
   . cases i
 . cases i
def lU (P:Program) (o:Op) (n s:Nat):Bool:=match o with
 | .box t (.tmp s')=>s==s'&&Gg P t==some n
 |_=>false
theorem sF {n:Nat} {C:World} {q r:Nat->Prop} {a:Act} {σ:Sg} (h:Rel G n C q r a w σ) {o:Oper} {d:Dk} {m s:Nat} {K:Sg->Prop} {y:List AV} (f:lU P o.op m s=true) (M:Dr G n o.dst (some d)=true)
 (W:σ s= .agg y) (R:y.length=m) (N:∀B:List Value,B.length=m->Ct (some d) (.vb s 0 B) K σ) (Q:Exit->Act->World->Prop):
 o.wp P a w (λL w'=>∃σ',Rel G n C q r L w' σ'/\K σ') Q:=by
 obtain⟨S,δ,Fr,hn,E,z,rfl,k,F,l⟩:=h;have hd:=ER M hn;unfold lU at f;split at f
 . rename_i t X U;simp only[AAR,AAg]at f;obtain⟨rfl,_⟩:=f;obtain⟨ds,J,T⟩:=P3 (k.ok s) W;have p:(δ s).Aw= .agg (ds.map DV.Aw).toArray:=(by rw[J];simp);have H:a.eval (.tmp s)= .agg (ds.map DV.Aw).toArray:=(by simp only[Act.eval];rw[z s,p]);have g:(ds.map DV.Aw).length=m:=(by rw[← R,← T];simp);have V:(execOp a.eval o).run P w= .ok (.value (.pointer (some ⟨w.heap.size,0,none⟩))) (w.alloc (.cells (ds.map DV.Aw).toArray t)):=(by simp only[execOp,U,H,Sem.run_bind,qP,Result.andThen_ok,Sem.run_pure,Value.cells]);unfold Oper.wp;rw[V,Oper.upon_value];have I:(w.alloc (.cells (ds.map DV.Aw).toArray t)).heap.size=w.heap.size+1:=(by show(w.heap.push _).size=_;exact Array.size_push _);have i:∀b,(S b∨b=w.heap.size)->b<(w.alloc (.cells (ds.map DV.Aw).toArray t)).heap.size:=by
    intro b c;rw[I];rcases c with c|c
    . have:=l b c;omega
    . omega
   have:=LZ (w':=w.alloc (.cells (ds.map DV.Aw).toArray t)) (S2:=λx=>S x∨x=w.heap.size) (D:=.lf (.vb s 0 (ds.map DV.Aw)) (.pointer (some ⟨w.heap.size,0,none⟩))) (FD:=λ_=>False) (v:=.vb s 0 (ds.map DV.Aw)) (K:=K) k hn E z hd (by simp)
    (λb c=>alloc_old w _ b c) l (λ_ h=>.inl h) (λb c=>c.imp id (λe=>by omega)) i
    (.lf _ _ _ ⟨w.heap.size,rfl,.inr rfl,λj u O=>by simp only[World.cell?,ZX];simpa using O⟩ (λ_ h=>h)) (λ_ h=>h.elim) (.lf _ _ p) F rfl rfl rfl (by omega) (N _ g)
   simpa using this
 . cases f
def lY (P:Program) (o:Op) (g n:Nat):Bool:=match o with
 | .load t (.global g')=>g==g'&&Gg P t==some n&&JP P t==some true
 |_=>false
theorem tJ {n:Nat} {q:World} {k l:Nat->Prop} (T:Yj q k l) {a:Act} {σ:Sg} (h:Rel G n q k l a w σ) {o:Oper} {d:Dk} {g m:Nat} {B:List Value} {K:Sg->Prop} (f:lY P o.op g m=true) (M:Dr G n o.dst (some d)=true)
 (c:fP g m=some B) (U:Ct (some d) (.agg (B.map .sc)) K σ) (Q:Exit->Act->World->Prop):
 o.wp P a w (λL w'=>∃σ',Rel G n q k l L w' σ'/\K σ') Q:=by
 obtain⟨S,δ,Fr,hn,I,V,rfl,F,u,s⟩:=h;have J:=T.now u;have hd:=ER M hn;unfold fP at c;split at c
 . rename_i x C;split at c
   . rename_i z;obtain rfl:=AAU c;have N:=ABm C;have p:x.1=g:=(by have:=List.find?_some C;simpa using this);obtain⟨_,arr,E,fz,W,H⟩:=J x N;unfold lY at f;split at f
     . rename_i t g' Z;simp only[AAR,AAg]at f;obtain⟨⟨rfl,O⟩,R⟩:=f;have r:=K3 (P:=P) (w:=w) (b:=g) (off:=0) (vs:=x.2) O R (.inl rfl) z.1 (by
        intro j v X
        have:=H j v X;simp only[World.cell?];rw[← p,W];simpa using this)
       simp only[AAq]at r;have hr:(execOp a.eval o).run P w= .ok (.value (.agg x.2.toArray)) w:=(by simp only[execOp,Z,Act.eval,Instr.loadAt,Instr.sureAddr,Sem.run_bind,Sem.run_pure,Result.andThen_ok,r]);unfold Oper.wp;rw[hr,Oper.upon_value];have y:∀D∈x.2.map (λv=>DV.lf (.sc v) v),Ok w S D (λ_=>False)/\DU δ D:=by intro D e;obtain⟨v,hv,rfl⟩:=ABi.1 e;exact⟨.lf _ _ _ ⟨rfl,AAX.1 z.2 v hv⟩ (λ_ h=>h),.lf _ _ trivial⟩
       have:=LZ (S2:=S) (D:=.agg (x.2.map λv=>DV.lf (.sc v) v)) (FD:=λ_=>False) (v:=.agg (x.2.map .sc)) (K:=K) F hn I V hd (by simp[Function.comp_def]) (λ_ _=>rfl) s (λ_ h=>h) (λ_ h=>.inl h) s (Bt.2 (B4 λD e=>(y D e).1)) (λ_ h=>h.elim) (.agg _ λi D e=>(y D (AAe e)).2) u rfl rfl rfl (AAv _) U;simpa[Function.comp_def]using this
     . cases f
   . cases c
 . cases c
end Go.Abs
namespace Go.Abs
variable {G:Gi} {A:Nat->Prop} {σ σ' τ τ':Sg}
structure Ag (G:Gi) (A:Nat->Prop) (σ σ':Sg):Prop where
 eq:∀s,A s->σ' s=σ s
 ri:∀s,A s->Fh (G.Gy s) (σ s)=true
structure Mv (G:Gi) (A:Nat->Prop) (σ σ' τ τ':Sg):Prop where
 ag:Ag G A τ τ'
 off:∀s,¬A s->τ' s=σ' s/\τ s=σ s
structure Cl (G:Gi) (A:Nat->Prop) (s:Nat):Prop where
 own:A s
 OB:∀x∈G.OB s,A x
 rt:∀r∈G.Gy s,A r/\∀x∈G.OB r,A x
def oL (G:Gi) (A:Nat->Prop):Ar->Prop
 | .t s=>Cl G A s
 | .c a=>Fh [] a=true
theorem Mv.refl (h:Ag G A σ σ'):Mv G A σ σ' σ σ':=⟨h,λ_ _=>⟨rfl,rfl⟩⟩
theorem Mv.trans {d a:Sg} (h:Mv G A σ σ' τ τ') (c:Mv G A τ τ' d a):Mv G A σ σ' d a:=
 ⟨c.ag,λs b=>⟨(c.off s b).1.trans (h.off s b).1,(c.off s b).2.trans (h.off s b).2⟩⟩
theorem Nz (L:List Nat) (d:Nat):∀(a:AV),Fh L a=true->Fh L (DX d a)=true
 | .al r p,h=>by
  rw[XU];split
  . simp
  . exact h
 | .Kn r p i j k,h=>by
  rw[UF];split
  . simp
  . exact h
 | .agg cs,h=>by rw[Jz,AAX]at h;rw[Z2,Jz,ABR,AAX];intro c b;exact Nz L d c (h c b)
 | .BI cs,h=>by rw[N0,AAX]at h;rw[Z3,N0,ABR,AAX];intro c b;exact Nz L d c (h c b)
 | .sc _,_=>by simp
 | .sl ..,_=>by simp
 | .own ..,_=>by simp
 | .fp _,_=>by simp
 | .dead,_=>by simp
 | .un,_=>by simp
 | .mG ..,_=>by simp[DX,Fh]
 | .vb s o us,h=>by
  rw[XV];split
  . simp
  . exact h
 | .cl f rs,h=>by
  rw[Sm];split
  . exact h
  . simp
theorem WB {L:List Nat} (p:List Step):∀{t x f:AV},put t p x=some f->Fh L t=true->Fh L x=true->Fh L f=true:=by
 induction p with
 |nil=>
  intro t x f h _ g;have:f=x:=by cases t<;>simp[put]at h<;>exact h.symm
  subst this;exact g
 |cons s p ih=>
  obtain⟨i,j,k⟩:=s;intro t x f h d g;cases t with
  |own b k rows=>
   simp only[put]at h;split at h
   . split at h
     . split at h
       . cases h;simp
       . cases h
     . cases h
   . cases h
  |agg cs=>
   simp only[put]at h;split at h
   . rename_i c m;split at h
     . rename_i c' l;cases h;rw[Jz,AAX]at d ⊢;intro e a;rcases AAs a with a|rfl
       . exact d e a
       . exact ih l (d c (AAe m)) g
     . cases h
   . cases h
  |BI cs=>
   simp only[put]at h;split at h
   . rename_i c m;split at h
     . rename_i c' l;cases h;rw[N0,AAX]at d ⊢;intro e a;rcases AAs a with a|rfl
       . exact d e a
       . exact ih l (d c (AAe m)) g
     . cases h
   . cases h
  |_=>simp[put]at h
theorem Ag.kup (h:Ag G A σ σ') {r:Nat} {t:AV} (f:A r) (d:∀x∈G.OB r,A x) (g:Fh (G.Gy r) t=true):Mv G A σ σ' (DR (JY G r σ) r t) (DR (JY G r σ') r t):=by
 refine⟨⟨λs a=> ?_,λs a=> ?_⟩,λs a=> ?_⟩
 . simp only[DR,JY,h.eq s a]
 . simp only[DR,JY];split
   . rename_i e;subst e;exact g
   . split
     . exact Nz _ _ _ (h.ri s a)
     . exact h.ri s a
 . have b:s≠r:=λe=>a (e▸f);have c:s∉G.OB r:=λe=>a (d s e);simp[DR,JY,b,c]
theorem Ag.up (h:Ag G A σ σ') {r:Nat} {t:AV} (c:A r) (d:Fh (G.Gy r) t=true):Mv G A σ σ' (DR σ r t) (DR σ' r t):=by
 refine⟨⟨λs a=> ?_,λs a=> ?_⟩,λs a=> ?_⟩
 . simp only[DR,h.eq s a]
 . simp only[DR];split
   . rename_i e;subst e;exact d
   . exact h.ri s a
 . have b:s≠r:=λe=>a (e▸c);simp[DR,b]
theorem Ag.kupn (h:Ag G A σ σ') (n:Nat) {r:Nat} {t:AV} (f:A r) (d:∀x∈G.OB r,A x) (g:Fh (G.Gy r) t=true):Mv G A σ σ' (DR (FU G n r σ) r t) (DR (FU G n r σ') r t):=by
 refine⟨⟨λs a=> ?_,λs a=> ?_⟩,λs a=> ?_⟩
 . simp only[DR,FU,h.eq s a]
 . simp only[DR,FU];split
   . rename_i e;subst e;exact g
   . split
     . exact P9 _ _ _ _ (h.ri s a)
     . exact h.ri s a
 . have b:s≠r:=λe=>a (e▸f);have c:s∉G.OB r:=λe=>a (d s e);simp[DR,FU,b,c]
theorem WD (h:Ag G A σ σ') {r:Nat} {p:List Step} {v:AV} (c:A r) (d:∀x∈G.OB r,A x) (a:ZO G r p σ=some (v,τ)):∃τ',ZO G r p σ'=some (v,τ')/\Mv G A σ σ' τ τ':=by
 unfold ZO at a ⊢;rw[h.eq r c];split at a
 . rename_i b k rows f;split at a
   . rename_i t e;cases a;exact⟨_,rfl,h.kupn _ c d (WB p e (h.ri r c) (by simp))⟩
   . cases a
 . cases a
theorem SZ (h:Ag G A σ σ') {r:Nat} {p:List Step} {v:AV} (c:A r) (d:∀x∈G.OB r,A x) (a:QP G r p σ=some (v,τ)):∃τ',QP G r p σ'=some (v,τ')/\Mv G A σ σ' τ τ':=by
 unfold QP at a ⊢;rw[h.eq r c];split at a
 . rename_i b k rows f;split at a
   . rename_i t e;cases a;refine⟨_,rfl,h.kup c d (WB p e (h.ri r c) ?_)⟩;cases b<;>simp
   . cases a
 . cases a
theorem tkL_loc (c:List AV):∀{σ σ' τ:Sg} {l:List AV},Ag G A σ σ'->(∀r p,AV.al r p∈c->A r/\∀x∈G.OB r,A x)->kG G c σ=some (l,τ)->∃τ',kG G c σ'=some (l,τ')/\Mv G A σ σ' τ τ':=by
 induction c with
 |nil=>intro σ σ' τ l h _ b;simp only[kG,AAQ,AAf]at b ⊢;obtain⟨rfl,rfl⟩:=b;exact⟨σ',⟨rfl,rfl⟩,.refl h⟩
 |cons a c ih=>
  intro σ σ' τ l h m b;have k:∀r p,AV.al r p∈c->A r/\∀x∈G.OB r,A x:=λr p v=>m r p (by simp[v]);have d:(∀r p,a≠ .al r p)->∃τ',kG G (a::c) σ'=some (l,τ')/\Mv G A σ σ' τ τ':=by
   intro i;have e:∀σ,kG G (a::c) σ=if FL a=true then(match kG G c σ with|some (l,τ)=>some (a::l,τ)|none=>none)else none:=by intro σ;cases a<;>first|rfl|exact absurd rfl (i _ _)
   rw[e]at b ⊢;split at b
   . rename_i o;rw[AAa o];split at b
     . rename_i l' j g;cases b;obtain⟨τ',f,g2⟩:=ih h k g;exact⟨τ',by rw[f],g2⟩
     . cases b
   . cases b
  cases a with
  |al r p=>
   obtain⟨w,u⟩:=m r p (by simp);simp only[kG]at b ⊢;split at b
   . rename_i n j g;obtain⟨B,f,g2⟩:=WD h w u g;rw[f];simp only;split at b
     . rename_i l' z t;cases b;obtain⟨y,q,s⟩:=ih g2.ag k t;exact⟨y,by rw[q],g2.trans s⟩
     . cases b
   . cases b
  |_=>exact d (by simp)
theorem Ps (h:Ag G A σ σ') {x:Ar} {v:AV} (u:oL G A x) (d:tk G x σ=some (v,τ)):∃τ',tk G x σ'=some (v,τ')/\Mv G A σ σ' τ τ':=by
 cases x with
 |c a=>simp only[tk,AAQ,AAf]at d ⊢;obtain⟨rfl,rfl⟩:=d;exact⟨σ',⟨rfl,rfl⟩,.refl h⟩
 |t s=>
  have e:Cl G A s:=u;have q:=h.eq s e.own;have f:=h.ri s e.own;simp only[tk]at d ⊢;rw[q];cases hv:σ s with
  |al r p=>rw[hv]at d f;simp only[KA,AAn]at f;obtain⟨g,o⟩:=e.rt r f;exact WD h g o d
  |own b k rows=>rw[hv]at d;cases d;exact⟨_,rfl,h.kup e.own e.OB (by simp)⟩
  |agg cs=>
   rw[hv]at d f;simp only at d ⊢;split at d
   . rename_i i;cases d;rw[AAa i];exact⟨σ',rfl,.refl h⟩
   . rename_i i;rw[AAZ i];split at d
     . rename_i l w g;cases d;have m:=h.kup (t:=.dead) e.own e.OB (by simp);obtain⟨τ',n,g2⟩:=tkL_loc cs m.ag (by
        intro r p j;rw[Jz,AAX]at f
        have:=f _ j;simp only[KA,AAn]at this;exact e.rt r this) g
       exact⟨τ',by rw[n],m.trans g2⟩
     . cases d
  |sc=>rw[hv]at d;cases d;exact⟨σ',rfl,.refl h⟩
  |sl=>rw[hv]at d;cases d;exact⟨σ',rfl,.refl h⟩
  |Kn=>rw[hv]at d;cases d;exact⟨σ',rfl,.refl h⟩
  |fp=>rw[hv]at d;cases d;exact⟨σ',rfl,.refl h⟩
  |_=>rw[hv]at d;cases d
theorem oF (c:List Ar):∀{σ σ' τ:Sg} {l:List AV},Ag G A σ σ'->(∀x∈c,oL G A x)->M6 G c σ=some (l,τ)->∃τ',M6 G c σ'=some (l,τ')/\Mv G A σ σ' τ τ':=by
 induction c with
 |nil=>intro σ σ' τ l h _ b;simp only[M6,AAQ,AAf]at b ⊢;obtain⟨rfl,rfl⟩:=b;exact⟨σ',⟨rfl,rfl⟩,.refl h⟩
 |cons x c ih=>
  intro σ σ' τ l h d b;simp only[M6]at b ⊢;split at b
  . rename_i a n i;obtain⟨p,e,g2⟩:=Ps h (d x (by simp)) i;rw[e];simp only;split at b
    . rename_i l' o j;cases b;obtain⟨m,f,g⟩:=ih g2.ag (λy k=>d y (by simp[k])) j;exact⟨m,by rw[f],g2.trans g⟩
    . cases b
  . cases b
theorem v7 (c:List Ar):∀{σ σ' τ:Sg} {l:List AV},Ag G A σ σ'->(∀x∈c,oL G A x)->Q1 G c σ=some (l,τ)->∃τ',Q1 G c σ'=some (l,τ')/\Mv G A σ σ' τ τ':=by
 induction c with
 |nil=>intro σ σ' τ l h _ b;simp only[Q1,AAQ,AAf]at b ⊢;obtain⟨rfl,rfl⟩:=b;exact⟨σ',⟨rfl,rfl⟩,.refl h⟩
 |cons x c ih=>
  intro σ σ' τ l h d b;simp only[Q1]at b ⊢;split at b
  . rename_i a n i;obtain⟨p,e,g2⟩:=Ps h (d x (by simp)) i;rw[e];simp only;split at b
    . rename_i l' o j;cases b;obtain⟨m,f,g⟩:=ih g2.ag (λy k=>d y (by simp[k])) j;exact⟨m,by rw[f],g2.trans g⟩
    . cases b
  . cases b
theorem zB (c:List (Nat×Nat×Ar)):∀{σ σ' τ:Sg} {d l:List AV},Ag G A σ σ'->(∀p∈c,oL G A p.2.2)->VF G c d σ=some (l,τ)->∃τ',VF G c d σ'=some (l,τ')/\Mv G A σ σ' τ τ':=by
 induction c with
 |nil=>intro σ σ' τ d l h _ b;simp only[VF,AAQ,AAf]at b ⊢;obtain⟨rfl,rfl⟩:=b;exact⟨σ',⟨rfl,rfl⟩,.refl h⟩
 |cons p c ih=>
  obtain⟨off,n,x⟩:=p;intro σ σ' τ d l h e b;simp only[VF]at b ⊢;split at b
  . rename_i a q j;obtain⟨r,f,g2⟩:=Ps h (e _ (ABP ..)) j;rw[f];simp only;split at b
    . rename_i k;rw[AAa k];obtain⟨o,g,i⟩:=ih g2.ag (λy m=>e y (by simp[m])) b;exact⟨o,g,g2.trans i⟩
    . cases b
  . cases b
theorem zD (k:Nat) (c:List (Nat×Ar)):∀{σ σ' τ:Sg} {d l:List (List AV)},Ag G A σ σ'->(∀p∈c,oL G A p.2)->VG G k c d σ=some (l,τ)->∃τ',VG G k c d σ'=some (l,τ')/\Mv G A σ σ' τ τ':=by
 induction c with
 |nil=>intro σ σ' τ d l h _ b;simp only[VG,AAQ,AAf]at b ⊢;obtain⟨rfl,rfl⟩:=b;exact⟨σ',⟨rfl,rfl⟩,.refl h⟩
 |cons p c ih=>
  obtain⟨i,x⟩:=p;intro σ σ' τ d l h e b;simp only[VG]at b ⊢;split at b
  . rename_i a r m;obtain⟨s,f,g2⟩:=Ps h (e _ (ABP ..)) m;rw[f];simp only;split at b
    . rename_i n;rw[AAa n];obtain⟨q,g,j⟩:=ih g2.ag (λy o=>e y (by simp[o])) b;exact⟨q,g,g2.trans j⟩
    . cases b
  . cases b
theorem x9 {k:Nat} {y:Ar} {rows:List (List AV)} (h:Ag G A σ σ') (q:oL G A y) (d:Wh G k y σ=some (rows,τ)):∃τ',Wh G k y σ'=some (rows,τ')/\Mv G A σ σ' τ τ':=by
 cases y with
 |c a=>
  simp only[Wh]at d ⊢;split at d
  . cases d;exact⟨σ',rfl,.refl h⟩
  . cases d
 |t s=>
  have f:Cl G A s:=q;have o:=h.eq s f.own;have i:=h.ri s f.own;simp only[Wh]at d ⊢;rw[o];cases hv:σ s with
  |own b k' rows'=>
   rw[hv]at d;cases b with
   |true=>cases d
   |false=>
    simp only at d ⊢;split at d
    . rename_i g;cases d;rw[AAa g];exact⟨_,rfl,h.kup f.own f.OB (by simp)⟩
    . cases d
  |sl e k' rows'=>
   rw[hv]at d;simp only at d ⊢;split at d
   . rename_i g;cases d;rw[AAa g];exact⟨_,rfl,.refl h⟩
   . cases d
  |al r p=>
   rw[hv]at d i;simp only[KA,AAn]at i;obtain⟨l,m⟩:=f.rt r i;simp only at d ⊢;split at d
   . rename_i n;obtain⟨u,j,g2⟩:=SZ h l m n;rw[j];simp only;split at d
     . rename_i g;cases d;rw[AAa g];exact⟨_,rfl,g2⟩
     . cases d
   . cases d
  |_=>rw[hv]at d;cases d
theorem eO {k:Nat} {x:Ar} {v:AV} (h:Ag G A σ σ') (q:oL G A x) (d:VD G k x σ=some (v,τ)):∃τ',VD G k x σ'=some (v,τ')/\Mv G A σ σ' τ τ':=by
 cases x with
 |c a=>
  simp only[VD]at d ⊢;split at d
  . cases d;exact⟨σ',rfl,.refl h⟩
  . cases d
 |t s=>
  have f:Cl G A s:=q;have o:=h.eq s f.own;have i:=h.ri s f.own;simp only[VD]at d ⊢;rw[o];cases hv:σ s with
  |own b k' rows'=>
   rw[hv]at d;cases b with
   |true=>cases d
   |false=>
    simp only at d ⊢;split at d
    . rename_i g;cases d;rw[AAa g];exact⟨_,rfl,h.kup f.own f.OB (by simp)⟩
    . cases d
  |sl e k' rows'=>
   rw[hv]at d;cases e with
   |false=>cases d
   |true=>
    simp only at d ⊢;split at d
    . rename_i g;cases d;rw[AAa g];exact⟨_,rfl,.refl h⟩
    . cases d
  |al r p=>
   rw[hv]at d i;simp only[KA,AAn]at i;obtain⟨l,m⟩:=f.rt r i;simp only at d ⊢;split at d
   . rename_i n;obtain⟨u,j,g2⟩:=WD h l m n;rw[j];simp only;split at d
     . rename_i g;cases d;rw[AAa g];exact⟨_,rfl,g2⟩
     . cases d
   . cases d
  |_=>rw[hv]at d;cases d
end Go.Abs
namespace Go.Abs
variable {G:Gi} {A:Nat->Prop} {σ σ' τ τ':Sg} {P:Program}
def VA (G:Gi) (A:Nat->Prop):Ar->Prop
 | .t s=>A s/\∀r∈G.Gy s,A r
 | .c a=>Fh [] a=true
theorem Cl.look {s:Nat} (h:Cl G A s):VA G A (.t s):=⟨h.own,λr a=>(h.rt r a).1⟩
theorem oL.look {x:Ar} (h:oL G A x):VA G A x:=by
 cases x with
 |t s=>exact Cl.look h
 |c=>exact h
theorem Ag.ar (h:Ag G A σ σ') {x:Ar} (a:VA G A x):ar σ' x=ar σ x:=by
 cases x with
 |t s=>exact h.eq s a.1
 |c=>rfl
theorem Ag.root (h:Ag G A σ σ') {s r:Nat} {p:List Step} (a:VA G A (.t s)) (b:σ s= .al r p):A r:=by have:=h.ri s a.1;rw[b]at this;simp only[KA,AAn]at this;exact a.2 r this
theorem Ag.rootAdr (h:Ag G A σ σ') {s r:Nat} {p:List Step} {i j k:Nat} (a:VA G A (.t s)) (b:σ s= .Kn r p i j k):A r:=by have:=h.ri s a.1;rw[b]at this;simp only[WA,AAn]at this;exact a.2 r this
theorem Ag.hd (h:Ag G A σ σ') {x:Ar} (a:VA G A x):hd σ' x=hd σ x:=by
 cases x with
 |c=>rfl
 |t s=>
  unfold Abs.hd;simp only;rw[h.eq s a.1];cases hs:σ s with
  |al r p=>simp only;rw[h.eq r (h.root a hs)]
  |_=>rfl
theorem Ag.EB (h:Ag G A σ σ') {x:Ar} (a:VA G A x):EB σ' x=EB σ x:=by
 cases x with
 |c=>rfl
 |t s=>
  unfold Abs.EB;simp only;rw[h.eq s a.1];cases hs:σ s with
  |al r p=>simp only;rw[h.eq r (h.root a hs)]
  |own b k rows=>cases b<;>rfl
  |_=>rfl
theorem Ag.Na (h:Ag G A σ σ') {x:Ar} (d:VA G A x) {r:Nat} {p:List Step} {i j k:Nat} (a:Abs.EB σ x=some (r,p,i,j,k)):A r:=by
 cases x with
 |c=>cases a
 |t s=>
  unfold Abs.EB at a;simp only at a;cases hs:σ s with
  |al r' p'=>
   rw[hs]at a;simp only at a;split at a
   . cases a;exact h.root d hs
   . cases a
  |Kn r' p' i' j' k'=>rw[hs]at a;cases a;exact h.rootAdr d hs
  |own b k' rows=>rw[hs]at a;cases b<;>cases a;exact d.1
  |_=>rw[hs]at a;cases a
theorem Ag.NO (h:Ag G A σ σ') {x:ABr Ar} (a:∀y,x=some y->VA G A y) (d:Nat):NO σ' x d=NO σ x d:=by
 cases x with
 |none=>rfl
 |some y=>simp only[Abs.NO];rw[h.ar (a y rfl)]
theorem Ag.xA (h:Ag G A σ σ') {x:ABr Ar} (a:∀y,x=some y->VA G A y) (d:Nat):xA σ' x d=xA σ x d:=by
 cases x with
 |none=>rfl
 |some y=>simp only[Abs.xA];rw[h.NO a]
def reads:Yb->List Ar
 | .cp x=>[x]
 | .pick c a b=>[c,a,b]
 | .ld _ _ a=>[a]
 | .Uf _ x=>[x]
 | .fld _ _ _ x=>[x]
 | .Yz _ x i=>[x,i]
 | .aad _ _ x i=>[x,i]
 | .idx _ _ _ x i=>[x,i]
 | .bin _ x y=>[x,y]
 | .beq _ x y=>[x,y]
 | .un _ x=>[x]
 | .cvt _ x=>[x]
 | .mm _ x y=>[x,y]
 | .len x=>[x]
 | .ZN x=>[x]
 | .jI x i=>[x,i]
 | .jH _ _ x y=>[x,y]
 | .ext x _=>[x]
 | .flk x _=>[x]
 | .mk _ _ _ l c=>[l,c]
 | .Hx x=>[x]
 | .std x=>[x]
 | .mkf _ xs=>xs
 | .XZ a=>[a]
 | .gD r _ _ _ i=>[.t r,i]
 | .qZ _ _ _ lo hi mx=>lo.toList++hi.toList++mx.toList
 | .call _ args m=>if m=1∨m=3∨m=4 then[]else args
 | .Up _ pre _ _ post=>pre++post
 |_=>[]
def takes:Yb->List Ar
 | .mv x=>[x]
 | .fz x=>[x]
 | .bx _ x=>[x]
 | .T6 _ ps=>ps.map (·.2.2)
 | .OD _ _ ps=>ps.map (·.2)
 | .st _ a v=>[a,v]
 | .WC a v=>[a,v]
 | .app _ _ x y=>[x,y]
 | .qZ _ _ x _ _ _=>[x]
 | .call _ args m=>if m=1∨m=3∨m=4 then args else[]
 | .Up _ _ x _ _=>[x]
 |_=>[]
theorem Ag.valOf (h:Ag G A σ σ') (o:Yb) (d:∀x∈reads o,VA G A x):valOf o σ'=valOf o σ:=by
 cases o with
 |cp x=>
  cases x with
  |c=>rfl
  |t s=>simp only[Abs.valOf];rw[h.eq s (d (.t s) (by simp[reads])).1]
 |pick c a b=>
  have g:=h.ar (d c (by simp[reads]));have m:=h.ar (d a (by simp[reads]));have w:=h.ar (d b (by simp[reads]));simp only[Abs.valOf];rw[g];cases Abs.ar σ c with
  |sc v=>
   cases v with
   |bool x=>cases x<;>simp[m,w]
   |_=>rfl
  |_=>rfl
 |ld agg n a=>
  cases a with
  |c=>rfl
  |t s=>
   have e:=d (.t s) (by simp[reads]);simp only[Abs.valOf];rw[h.eq s e.1];cases hs:σ s with
   |fp=>rfl
   |vb q o us=>have z:A q:=(by have:=h.ri s e.1;rw[hs]at this;simp only[rin_vb,AAn]at this;exact e.2 q this);simp only;rw[h.eq q z]
   |_=>
    simp only;rw[h.EB e];cases ha:Abs.EB σ (.t s)with
    |none=>rfl
    |some q=>obtain⟨r,p,i,j,k⟩:=q;simp only;rw[h.eq r (h.Na e ha)]
 |Uf off x=>
  cases x with
  |c=>rfl
  |t s=>have e:=d (.t s) (by simp[reads]);simp only[Abs.valOf];rw[h.eq s e.1,h.EB e]
 |fld agg off n x=>
  cases x with
  |c=>rfl
  |t s=>have e:=d (.t s) (by simp[reads]);simp only[Abs.valOf];rw[h.eq s e.1]
 |Yz k x i=>simp only[Abs.valOf];rw[h.hd (d x (by simp[reads])),h.ar (d i (by simp[reads]))]
 |aad len k x i=>
  cases x with
  |c=>rfl
  |t s=>
   have e:=d (.t s) (by simp[reads]);simp only[Abs.valOf];rw[h.ar (d i (by simp[reads]))];cases lG (Abs.ar σ i)with
   |none=>rfl
   |some n=>simp only;rw[h.eq s e.1,h.EB e]
 |idx agg len k x i=>
  cases x with
  |c=>rfl
  |t s=>
   have e:=d (.t s) (by simp[reads]);simp only[Abs.valOf];rw[h.ar (d i (by simp[reads]))];cases lG (Abs.ar σ i)with
   |none=>rfl
   |some n=>simp only;rw[h.eq s e.1]
 |bin op x y=>simp only[Abs.valOf];rw[h.ar (d x (by simp[reads])),h.ar (d y (by simp[reads]))]
 |beq op x y=>simp only[Abs.valOf];rw[h.ar (d x (by simp[reads])),h.ar (d y (by simp[reads]))]
 |un op x=>simp only[Abs.valOf];rw[h.ar (d x (by simp[reads]))]
 |cvt op x=>simp only[Abs.valOf];rw[h.ar (d x (by simp[reads]))]
 |mm mx x y=>simp only[Abs.valOf];rw[h.ar (d x (by simp[reads])),h.ar (d y (by simp[reads]))]
 |len x=>simp only[Abs.valOf];rw[h.hd (d x (by simp[reads]))]
 |ZN x=>simp only[Abs.valOf];rw[h.ar (d x (by simp[reads]))]
 |jH neg kd x y=>simp only[Abs.valOf];rw[h.ar (d x (by simp[reads])),h.ar (d y (by simp[reads]))]
 |jI x y=>simp only[Abs.valOf];rw[h.ar (d x (by simp[reads])),h.ar (d y (by simp[reads]))]
 |ext x i=>
  cases x with
  |c=>rfl
  |t s=>simp only[Abs.valOf];rw[h.eq s (d (.t s) (by simp[reads])).1]
 |mkf f xs=>
  have key:∀l:List Ar,(∀x∈l,VA G A x)->SH σ' l=SH σ l:=by
   intro l;induction l with
   |nil=>intro _;rfl
   |cons x l ih=>
    intro e;have g:=e x (by simp);have m:=ih λy B=>e y (by simp[B]);cases x with
    |c=>rfl
    |t s=>
     simp only[SH];rw[h.eq s g.1,m];cases hs:σ s with
     |al r p=>cases SH σ l<;>first|rfl| (simp only;rw[h.eq r (h.root g hs)])
     |own b k rows=>cases b<;>cases SH σ l<;>rfl
     |_=>cases SH σ l<;>rfl
  simp only[Abs.valOf];rw[key xs (λx u=>d x (by simpa[reads]using u))]
 |fl=>rfl
 |flk x i=>
  cases x with
  |c=>rfl
  |t s=>simp only[Abs.valOf];rw[h.eq s (d (.t s) (by simp[reads])).1]
 |gD r off kb k i=>simp only[Abs.valOf];rw[h.eq r (d (.t r) (by simp[reads])).1,h.ar (d i (by simp[reads]))]
 |XZ a=>
  have e:=d a (by simp[reads]);simp only[Abs.valOf];rw[h.EB e];cases ha:Abs.EB σ a with
  |none=>rfl
  |some q=>obtain⟨r,p,i,j,k⟩:=q;simp only;rw[h.eq r (h.Na e ha)]
 |Hx x=>
  have e:=d x (by simp[reads]);simp only[Abs.valOf];rw[h.ar e];cases x with
  |c a=>
   cases a with
   |al r p=>simp[VA]at e
   |own b k rows=>cases b<;>rfl
   |_=>rfl
  |t s=>
   simp only[Abs.ar];cases hs:σ s with
   |al r p=>simp only;rw[h.eq r (h.root e hs)]
   |own b k rows=>cases b<;>rfl
   |_=>rfl
 |_=>rfl
variable {W:Nat->Prop}
theorem Sn (kl:List Nat) (d:Nat) (σ:Sg) (s:Nat):JZ kl d σ s=if s∈kl then DX d (σ s)else σ s:=by cases kl<;>simp[JZ]
theorem Ag.mono {R:Nat->Prop} (h:Ag G R σ σ') (b:∀s,A s->R s):Ag G A σ σ':=⟨λs a=>h.eq s (b s a),λs a=>h.ri s (b s a)⟩
theorem Mv.wr {d:Dk} {v:AV} {g:Sg} (h:Mv G W σ σ' τ τ') (hd:W d.d/\d.rs=G.Gy d.d) (k:∀x∈d.kl,W x) (c:wr d v τ=some g):∃b,wr d v τ'=some b/\Mv G W σ σ' g b:=by
 unfold Abs.wr at c ⊢;split at c
 . rename_i f;cases c;rw[AAa f];refine⟨_,rfl,⟨λs a=> ?_,λs a=> ?_⟩,λs a=> ?_⟩
   . simp only[DR,Sn,h.ag.eq s a]
   . simp only[DR,Sn];split
     . rename_i e;subst e;rw[← hd.2];exact f
     . split
       . exact Nz _ _ _ (h.ag.ri s a)
       . exact h.ag.ri s a
   . have i:s≠d.d:=λe=>a (e▸hd.1);have j:s∉d.kl:=λe=>a (k s e);simp only[DR,i,AAd,Sn,j];exact h.off s a
 . cases c
theorem q6 {L:List Nat} (p:List Step) (i k:Nat) (a:List AV):∀{j:Nat} {t b:AV},stC p i k j a t=some b->Fh L t=true->a.all FL=true->Fh L b=true:=by
 induction a with
 |nil=>intro j t b h e _;simp only[stC,AAQ]at h;subst h;exact e
 |cons c a ih=>
  intro j t b h e d;simp only[ABL,AAR]at d;simp only[stC]at h;split at h
  . rename_i g f;exact ih h (WB _ f e (eZ d.1)) d.2
  . cases h
def HasD (G:Gi) (W:Nat->Prop) (d:ABr Dk):Prop:=∀x,d=some x->(W x.d/\x.rs=G.Gy x.d)/\∀y∈x.kl,W y
theorem eff_loc {R:Nat->Prop} (h:Ag G R σ σ') (hWR:∀s,W s->R s) {o:Yb} {d:ABr Dk} (L:∀x∈takes o,oL G W x) (Q:∀x∈reads o,VA G R x) (hd:HasD G W d) (f:GU G o d σ=some τ):
 ∃τ',GU G o d σ'=some τ'/\Mv G W σ σ' τ τ':=by
 have g:Ag G W σ σ':=h.mono hWR;have val:∀S,d=some S->(match Abs.valOf o σ with|some v=>Abs.wr S v σ|none=>none)=some τ->∃τ',(match Abs.valOf o σ' with|some v=>Abs.wr S v σ'|none=>none)=some τ'/\Mv G W σ σ' τ τ':=by
  intro S Rx f;rw[h.valOf o Q];cases hv:Abs.valOf o σ with
  |none=>rw[hv]at f;cases f
  |some v=>rw[hv]at f;exact(Mv.refl g).wr (hd S Rx).1 (hd S Rx).2 f
 cases d with
 |none=>
  cases o with
  |st n a v=>
   simp only[GU]at f ⊢;split at f
   . rename_i x w B;obtain⟨M,C,g2⟩:=Ps g (L v (by simp[takes])) B;rw[C];simp only;have O:=(L a (by simp[takes])).look;rw[g2.ag.EB O];split at f
     . rename_i r p i j k D;have P:W r:=g2.ag.Na O D;have T:∀x∈G.OB r,W x:=by
        have Jf:=L a (by simp[takes]);cases a with
        |c=>cases D
        |t s=>
         have E:Cl G W s:=Jf;simp only[Abs.EB]at D;have H:=g2.ag.ri s E.own;cases hs:w s with
         |al r' p'=>
          rw[hs]at D H;simp only at D;simp only[KA,AAn]at H;split at D
          . cases D;exact(E.rt _ H).2
          . cases D
         |Kn r' p' i' j' Z=>rw[hs]at D H;cases D;simp only[WA,AAn]at H;exact(E.rt _ H).2
         |own b Z rows=>rw[hs]at D;cases b<;>cases D;exact E.OB
         |_=>rw[hs]at D;cases D
       rw[g2.ag.eq r P];split at f
       . rename_i b0 k0 rows Bp;split at f
         . rename_i row Dt;split at f
           . rename_i K;rw[AAa K];split at f
             . rename_i t B9;have Yy:Fh (G.Gy r) t=true:=q6 p i k _ B9 (g2.ag.ri r P) K.2.1;split at f
               . rename_i V;cases f;rw[AAa V];exact⟨_,rfl,(g2.trans (g2.ag.up P Yy))⟩
               . rename_i V;cases f;rw[AAZ V];exact⟨_,rfl,(g2.trans (g2.ag.kup P T Yy))⟩
             . cases f
           . cases f
         . cases f
       . cases f
     . cases f
   . cases f
  |WC a v=>
   have O:=(L a (by simp[takes])).look;simp only[GU]at f ⊢;rw[g.ar (L v (by simp[takes])).look,g.EB O];split at f
   . rename_i u hu;split at f
     . rename_i r p i j k D;have P:W r:=g.Na O D;rw[g.eq r P];split at f
       . rename_i b0 k0 rows Bp;split at f
         . rename_i row Dt;split at f
           . rename_i u0 hc0;split at f
             . rename_i t B9;have Yy:Fh (G.Gy r) t=true:=q6 p i k [.sc u] (j:=j) (by simp only[stC];rw[B9]) (g.ri r P) (by simp[FL]);cases f;exact⟨_,rfl,g.up P Yy⟩
             . cases f
           . cases f
         . cases f
       . cases f
     . cases f
   . cases f
  |std a=>
   simp only[GU]at f ⊢;have O:=Q a (by simp[reads]);rw[h.EB O];split at f
   . rename_i r p i j k D;rw[h.eq r (h.Na O D)];split at f
     . cases f;exact⟨σ',rfl,Mv.refl g⟩
     . cases f
   . cases f
  |_=>simp[GU]at f
 |some d=>
  obtain⟨J,I⟩:=hd d rfl;cases o with
  |mv x=>
   simp only[GU]at f ⊢;split at f
   . rename_i v w B;obtain⟨M,C,g2⟩:=Ps g (L x (by simp[takes])) B;rw[C];exact g2.wr J I f
   . cases f
  |fz x=>
   cases x with
   |c=>simp[GU]at f
   |t s=>
    have E:Cl G W s:=L (.t s) (by simp[takes]);have H:=g.ri s E.own;simp only[GU]at f ⊢;rw[g.eq s E.own];cases hs:σ s with
    |al r p=>
     rw[hs]at f H;simp only[KA,AAn]at H;simp only at f ⊢;split at f
     . rename_i v w B;obtain⟨M,C,g2⟩:=SZ g (E.rt r H).1 (E.rt r H).2 B;rw[C];exact g2.wr J I f
     . cases f
    |own b k rows=>
     rw[hs]at f;simp only at f ⊢;split at f
     . rename_i v w B;obtain⟨M,C,g2⟩:=SZ g E.own E.OB B;rw[C];exact g2.wr J I f
     . cases f
    |sc v=>rw[hs]at f;exact(Mv.refl g).wr J I f
    |sl e k rows=>rw[hs]at f;exact(Mv.refl g).wr J I f
    |_=>rw[hs]at f;cases f
  |bx n x=>
   simp only[GU]at f ⊢;split at f
   . rename_i v w B;obtain⟨M,C,g2⟩:=Ps g (L x (by simp[takes])) B;rw[C];simp only;split at f
     . rename_i K;rw[AAa K];exact g2.wr J I f
     . cases f
   . cases f
  |T6 z ps=>
   simp only[GU]at f ⊢;split at f
   . rename_i v w B;obtain⟨M,C,g2⟩:=zB ps g (λp hp=>L _ (by simp only[takes,ABi];exact⟨p,hp,rfl⟩)) B;rw[C];exact g2.wr J I f
   . cases f
  |OD k z ps=>
   simp only[GU]at f ⊢;split at f
   . rename_i v w B;obtain⟨M,C,g2⟩:=zD k ps g (λp hp=>L _ (by simp only[takes,ABi];exact⟨p,hp,rfl⟩)) B;rw[C];exact g2.wr J I f
   . cases f
  |mk k bytes z l c=>
   simp only[GU]at f ⊢;rw[h.ar (Q l (by simp[reads])),h.ar (Q c (by simp[reads]))];split at f
   . rename_i l' c' B N;split at f
     . rename_i K;rw[AAa K];exact(Mv.refl g).wr J I f
     . cases f
   . cases f
  |qZ k fr x lo hi mx=>
   have U:=L x (by simp[takes]);have hlo:∀y,lo=some y->VA G R y:=λy X=>Q y (by simp[reads,X]);have hhi:∀y,hi=some y->VA G R y:=λy X=>Q y (by simp[reads,X]);have hmx:∀y,mx=some y->VA G R y:=λy X=>Q y (by simp[reads,X]);simp only[GU]at f ⊢;rw[g.hd U.look];have eo:∀d,Abs.NO σ' lo d=Abs.NO σ lo d:=h.NO hlo;have eh:∀d,Abs.NO σ' hi d=Abs.NO σ hi d:=h.NO hhi;have em:∀d,Abs.xA σ' mx d=Abs.xA σ mx d:=h.xA hmx;simp only[eo,eh,em];split at f
   . rename_i e Z rows q F
     try rw[F]
     try simp only
     split at f
     . rename_i l hh B N
       try rw[B,N]
       try simp only
       split at f
       . rename_i rs m h3 h4
         try rw[h3,h4]
         try simp only
         split at f
         . rename_i K;rw[AAa K];exact(Mv.refl g).wr J I f
         . cases f
       . cases f
     . cases f
   . rename_i Z rows r p F;have Um:W r/\∀x∈G.OB r,W x:=by
      cases x with
      |c a=>cases a<;>cases F
      |t s=>
       have E:Cl G W s:=U;have H:=g.ri s E.own;simp only[Abs.hd]at F;cases hs:σ s with
       |al r' p'=>
        rw[hs]at F H;simp only[KA,AAn]at H;simp only at F;split at F
        . cases F;exact E.rt _ H
        . cases F
       |own b k rows=>rw[hs]at F;cases F;exact⟨E.own,E.OB⟩
       |sl=>rw[hs]at F;cases F
       |_=>rw[hs]at F;cases F
     try rw[F]
     try simp only
     split at f
     . rename_i l hh B N
       try rw[B,N]
       try simp only
       split at f
       . rename_i rs m h3 h4
         try rw[h3,h4]
         try simp only
         split at f
         . rename_i K;rw[AAa K];split at f
           . rename_i hf;rw[AAa hf];split at f
             . rename_i v w h5;obtain⟨M,C,g2⟩:=SZ g Um.1 Um.2 h5;rw[C];exact g2.wr J I f
             . cases f
           . rename_i hf;rw[AAZ hf];split at f
             . rename_i V;rw[AAa V];split at f
               . rename_i v w h5;obtain⟨M,C,g2⟩:=WD g Um.1 Um.2 h5;rw[C];exact g2.wr J I f
               . cases f
             . cases f
         . cases f
       . cases f
     . cases f
   . cases f
  |app k bytes x y=>
   simp only[GU]at f ⊢;split at f
   . rename_i ys w B;obtain⟨M,C,g2⟩:=x9 g (L y (by simp[takes])) B;rw[C];simp only;split at f
     . rename_i b Z rows τ2 N;obtain⟨wH,g3,g4⟩:=eO g2.ag (L x (by simp[takes])) N;rw[g3];simp only;split at f
       . rename_i K;rw[AAa K];exact(g2.trans g4).wr J I f
       . cases f
     . rename_i e Z rows τ2 N;obtain⟨wH,g3,g4⟩:=eO g2.ag (L x (by simp[takes])) N;rw[g3];simp only;split at f
       . rename_i hq;rw[AAa hq];exact(g2.trans g4).wr J I f
       . rename_i hq;rw[AAZ hq];split at f
         . rename_i K;rw[AAa K];exact(g2.trans g4).wr J I f
         . cases f
     . cases f
   . cases f
  |st=>simp[GU,Abs.valOf]at f
  |call=>simp[GU,Abs.valOf]at f
  |bad=>simp[GU,Abs.valOf]at f
  |_=>exact val d rfl f
end Go.Abs
namespace Go.Abs
variable {G:Gi} {A:Nat->Prop} {σ σ' τ τ':Sg} {P:Program}
theorem N8 {d:ABr Dk} {v:AV} {K:Sg->Prop} {τ:Sg}:Ct d v K τ↔∃a,Ct d v (· =a) τ/\K a:=by
 cases d with
 |none=>simp[Ct]
 |some d=>simp only[Ct];split<;>simp
theorem Zc {o:BJ} {K:Sg->Prop}:EA P G o K σ↔∃τ,EA P G o (· =τ) σ/\K τ:=by
 unfold EA;split
 . split
   . constructor
     . rintro⟨a,c,b⟩;split at b
       . obtain⟨e,g,g2⟩:=N8.1 b;rename_i v i;exact⟨e,⟨a,c,by rw[i];exact g⟩,g2⟩
       . exact b.elim
     . rintro⟨e,⟨a,c,b⟩,f⟩;refine⟨a,c,?_⟩;split at b
       . rename_i v i;exact N8.2 ⟨e,b,f⟩
       . exact b.elim
   . simp
 . split
   . split
     . constructor
       . rintro⟨a,out,u,c,b,f,h,d⟩;split at d
         . obtain⟨e,g,g2⟩:=N8.1 d;rename_i t k;exact⟨e,⟨a,out,u,c,b,f,h,by rw[k];exact g⟩,g2⟩
         . exact d.elim
       . rintro⟨e,⟨a,out,u,c,b,f,h,d⟩,j⟩;refine⟨a,out,u,c,b,f,h,?_⟩;split at d
         . exact N8.2 ⟨e,d,j⟩
         . exact d.elim
     . simp
   . simp
 . split<;>simp
theorem O0 {o:BJ} {K:Sg->Prop}:Ko P G o K σ↔∃τ,Ko P G o (· =τ) σ/\K τ:=by
 unfold Ko;split
 . exact Zc
 . split
   . split
     . exact Zc
     . split<;>simp
   . split<;>simp
   . simp
theorem Q6 (a:List BJ):∀{σ:Sg} {K:Sg->Prop},Nb P G a K σ->∃q:Nat->Sg,q 0=σ/\(∀i io,a[i]? =some io->Ko P G io (· =q (i+1)) (q i))/\K (q a.length):=by
 induction a with
 |nil=>intro σ K h;exact⟨λ_=>σ,rfl,by simp,h⟩
 |cons o os ih=>
  intro σ K h;obtain⟨τ,d,e⟩:=O0.1 h;obtain⟨q,b,g2,c⟩:=ih e;refine⟨λi=>match i with|0=>σ|i+1=>q i,rfl,?_,c⟩
  intro i io hi;cases i with
  |zero=>simp only[AA7,AAQ]at hi;subst hi;simp only[b];exact d
  |succ i=>simp only[ABH]at hi;exact g2 i io hi
theorem Ag.TJ (h:Ag G A σ σ') {a:AV} (c:∀r p,a= .al r p->A r):TJ σ' a=TJ σ a:=by
 cases a with
 |al r p=>simp only[Abs.TJ];rw[h.eq r (c r p rfl)]
 |own b k rows=>cases b<;>first|rfl| (match rows with|[]=>rfl|[_]=>rfl|_::_::_=>rfl)
 |_=>rfl
theorem Ag.xB (h:Ag G A σ σ') (b:List AV):(∀r p,AV.al r p∈b->A r)->xB σ' b=xB σ b:=by
 induction b with
 |nil=>intro _;rfl
 |cons a b ih=>intro c;simp only[Abs.xB];rw[h.TJ (a:=a) (λr p e=>c r p (by simp[e])),ih (λr p d=>c r p (by simp[d]))]
theorem Ag.gY (h:Ag G A σ σ') {x:Ar} (d:VA G A x):gY σ' (Abs.ar σ' x)=gY σ (Abs.ar σ x):=by
 rw[h.ar d];cases x with
 |c a=>
  simp only[Abs.ar];cases a with
  |agg cs=>
   simp only[Abs.gY];rw[h.xB cs (λr p g=>by
    have f:Fh [] (.agg cs)=true:=d;rw[Jz,AAX]at f
    have:=f _ g;simp at this)]
  |al r p=>have f:Fh [] (.al r p)=true:=d;simp at f
  |own b k rows=>cases b<;>first|rfl| (match rows with|[]=>rfl|[_]=>rfl|_::_::_=>rfl)
  |_=>rfl
 |t s=>
  simp only[Abs.ar];cases hs:σ s with
  |agg cs=>
   simp only[Abs.gY];rw[h.xB cs (λr p g=>by
    have:=h.ri s d.1;rw[hs,Jz,AAX]at this
    have:=this _ g;simp only[KA,AAn]at this;exact d.2 r this)]
  |al r p=>simp only[Abs.gY];exact h.TJ (λi p' e=>by cases e;exact h.root d hs)
  |own b k rows=>cases b<;>first|rfl| (match rows with|[]=>rfl|[_]=>rfl|_::_::_=>rfl)
  |_=>rfl
theorem Ag.Jr (h:Ag G A σ σ') (a:List Ar):(∀x∈a,VA G A x)->Jr σ' a=Jr σ a:=by
 induction a with
 |nil=>intro _;rfl
 |cons x a ih=>intro b;simp only[Abs.Jr];rw[h.gY (b x (by simp)),ih (λy c=>b y (by simp[c]))]
theorem Ag.Wp (h:Ag G A σ σ') (rs:List (Nat×List Step)):(∀x∈rs,A x.1)->Wp σ' rs=Wp σ rs:=by
 induction rs with
 |nil=>intro _;rfl
 |cons x rs ih=>obtain⟨r,p⟩:=x;intro b;simp only[Abs.Wp];rw[h.TJ (a:=.al r p) (λd p' e=>by cases e;exact b (r,p) (by simp)),ih (λy c=>b y (by simp[c]))]
theorem tkLk_loc (g:List Ar):∀{σ σ' τ:Sg} {b:List AV},Ag G A σ σ'->(∀x∈g,oL G A x)->Vs G g σ=some (b,τ)->∃τ',Vs G g σ'=some (b,τ')/\Mv G A σ σ' τ τ':=by
 induction g with
 |nil=>intro σ σ' τ b _ _ a;simp[Vs]at a
 |cons y g ih=>
  intro σ σ' τ b h n a;have m:=n y (by simp);cases g with
  |nil=>
   simp only[Vs]at a ⊢;rw[h.ar m.look];split at a
   . rename_i f rs k;have d:∀x∈rs,A x.1:=by
      intro x i;cases y with
      |c c0=>simp only[Abs.ar]at k;subst k;have j:Fh [] (.cl f rs)=true:=m;simp only[nW,AAX]at j;have:=j x i;simp at this
      |t s=>
       simp only[Abs.ar]at k;have e:Cl G A s:=m
       have:=h.ri s e.own;rw[k,nW,AAX]at this;exact(e.rt x.1 (by simpa using this x i)).1
     rw[h.Wp rs d];split at a
     . rename_i E F;simp only[AAQ,AAf]at a;obtain⟨rfl,rfl⟩:=a;exact⟨σ',rfl,Mv.refl h⟩
     . cases a
   . cases a
  |cons y2 g=>
   simp only[Vs]at a ⊢;split at a
   . rename_i v B u;obtain⟨D,p,g2⟩:=Ps h m u;rw[p];simp only;split at a
     . rename_i l C w;simp only[AAQ,AAf]at a;obtain⟨rfl,rfl⟩:=a;obtain⟨z,q,r⟩:=ih g2.ag (λx o=>n x (by simp[o])) w;rw[q];exact⟨z,rfl,g2.trans r⟩
     . cases a
   . cases a
theorem aP {W:Nat->Prop} {d:ABr Dk} {v:AV} {c:Sg} (h:Mv G W σ σ' τ τ') (hd:HasD G W d) (b:Ct d v (· =c) τ):∃a,Ct d v (· =a) τ'/\Mv G W σ σ' c a:=by
 cases d with
 |none=>cases b;exact⟨τ',rfl,h⟩
 |some d=>
  simp only[Ct]at b ⊢;split at b
  . rename_i x f;subst b;obtain⟨a,e,g2⟩:=h.wr (hd d rfl).1 (hd d rfl).2 f;exact⟨a,by rw[e],g2⟩
  . exact b.elim
theorem Ag.rdF (h:Ag G A σ σ') {x:Ar} (b:VA G A x):rdF σ' x=rdF σ x:=by
 cases x with
 |c a=>rfl
 |t s=>simp only[Abs.rdF];rw[h.eq s b.1]
theorem Ag.Mz (h:Ag G A σ σ') (a:List Ar):(∀x∈a,VA G A x)->Mz σ' a=Mz σ a:=by
 induction a with
 |nil=>intro _;rfl
 |cons x a ih=>intro b;simp only[Abs.Mz];rw[h.rdF (b x (by simp)),ih (λy c=>b y (by simp[c]))]
theorem Ag.PY (h:Ag G A σ σ') {x:Ar} (l:oL G A x) {c:ABr Nat} {r:Nat} {p:List Step} (b:PY σ x c=some (r,p)):PY σ' x c=some (r,p)/\(∀n,Sr σ' x c n=Sr σ x c n)/\A r/\∀y∈G.OB r,A y:=by
 cases x with
 |c a=>cases c<;>simp[Abs.PY,vD]at b
 |t s=>
  have d:Cl G A s:=l;have f:=h.ri s d.own;have e:σ' s=σ s:=h.eq s d.own;have i:Abs.PY σ' (.t s) c=Abs.PY σ (.t s) c:=by cases c<;>simp only[Abs.PY,vD,e]
  refine⟨by rw[i];exact b,λn=>by cases c<;>simp only[Sr,Abs.ar,e],?_⟩;cases c with
  |none=>
   simp only[Abs.PY,vD]at b;split at b
   . rename_i m p' g;cases b;rw[g]at f;simp only[KA,AAn]at f;exact⟨(d.rt _ f).1,(d.rt _ f).2⟩
   . cases b;exact⟨d.own,d.OB⟩
   . cases b
  |some j=>
   simp only[Abs.PY]at b;split at b
   . rename_i o g;rw[g]at f;split at b
     . rename_i m p' k;cases b
       have:=(by rw[Jz,AAX]at f;exact f _ (AAe k):Fh (G.Gy s) (.al r p)=true);simp only[KA,AAn]at this;exact⟨(d.rt _ this).1,(d.rt _ this).2⟩
     . cases b;exact⟨d.own,d.OB⟩
     . cases b
   . cases b
theorem eT {R W:Nat->Prop} (h:Ag G R σ σ') (I:∀s,W s->R s) {o:BJ} (z:∀x∈takes o.op,oL G W x) (E:∀x∈reads o.op,VA G R x) (hd:HasD G W o.dst) (a:EA P G o (· =τ) σ):
 ∃τ',EA P G o (· =τ') σ'/\Mv G W σ σ' τ τ':=by
 have j:Ag G W σ σ':=h.mono I;have B:∀op,o.op=op->(match GU G op o.dst σ with|some K=>K=τ|none=>False)->∃τ',(match GU G op o.dst σ' with|some K=>K=τ'|none=>False)/\Mv G W σ σ' τ τ':=by
  intro op n a;split at a
  . rename_i K hu;subst a;obtain⟨τ',i,g2⟩:=eff_loc h I (by rw[← n];exact z) (by rw[← n];exact E) hd hu;exact⟨τ',by rw[i],g2⟩
  . exact a.elim
 cases n:o.op with
 |call f args m=>
  unfold EA at a ⊢;rw[n]at a z E ⊢;simp only at a ⊢;split at a
  . rename_i F U d;obtain⟨C,N,H⟩:=a;have key:∃g,GR G m args σ'=some (F,g)/\Mv G W σ σ' U g:=by
     by_cases Q:m=1
     . subst Q;simp only[GR]at d ⊢;obtain⟨g,i,g2⟩:=oF args j (by simpa[takes]using z) d;exact⟨g,i,g2⟩
     . by_cases q:m=3
       . subst q;simp only[GR]at d ⊢;obtain⟨g,i,g2⟩:=v7 args j (by simpa[takes]using z) d;exact⟨g,i,g2⟩
       by_cases w:m=4
       . subst w;simp only[GR]at d ⊢;obtain⟨g,i,g2⟩:=tkLk_loc args j (by simpa[takes]using z) d;exact⟨g,i,g2⟩
       have e:∀σ,GR G m args σ=match Abs.Jr σ args with|some l=>some (l,σ)|none=>none:=by
        intro σ;unfold GR;split
        . exact absurd rfl Q
        . exact absurd rfl q
        . exact absurd rfl w
        . rfl
       rw[e]at d ⊢;rw[h.Jr args (by simpa[reads,Q,q,w]using E)];split at d
       . cases d;exact⟨σ',rfl,Mv.refl j⟩
       . cases d
    obtain⟨g,i,g2⟩:=key;rw[i];simp only;split at H
    . rename_i v hv;obtain⟨D,L,M⟩:=aP g2 hd H;exact⟨D,⟨C,N,by rw[hv];exact L⟩,M⟩
    . exact H.elim
  . exact a.elim
 |Up f pre x c post=>
  unfold EA at a ⊢;rw[n]at a z E ⊢;simp only at a ⊢;split at a
  . rename_i r p F bs hp Yx Z;obtain⟨e1,e2,T,J⟩:=j.PY (z x (by simp[takes])) hp;rw[e1,h.Mz pre (λy S=>E y (by simp[reads,S])),h.Mz post (λy S=>E y (by simp[reads,S])),Yx,Z];simp only[e2];rw[j.eq r T];split at a
    . rename_i b k rows hs;obtain⟨C,out,u,N,H,X,h4,O⟩:=a;split at O
      . rename_i t V;have Yy:Fh (G.Gy r) t=true:=WB _ V (j.ri r T) (Nd X);obtain⟨D,L,M⟩:=aP (j.kupn _ T J Yy) hd O;exact⟨D,⟨C,out,u,N,H,X,h4,by rw[V];exact L⟩,M⟩
      . exact O.elim
    . exact a.elim
  . exact a.elim
 |_=>unfold EA at a ⊢;rw[n]at a ⊢;exact B _ n a
theorem aop_loc {R W:Nat->Prop} (h:Ag G R σ σ') (c:∀s,W s->R s) {o:BJ} (l:∀x∈takes o.op,oL G W x) (k:∀x∈reads o.op,VA G R x) (hd:HasD G W o.dst) (q:∀g,o.guard=some g->R g.1) (a:Ko P G o (· =τ) σ):
 ∃τ',Ko P G o (· =τ') σ'/\Mv G W σ σ' τ τ':=by
 have j:Ag G W σ σ':=h.mono c;have skip:(match o.dst with|some d=>DR (JZ d.kl d.d σ) d.d .un=τ|none=>σ=τ)->∃τ',(match o.dst with|some d=>DR (JZ d.kl d.d σ') d.d .un=τ'|none=>σ'=τ')/\Mv G W σ σ' τ τ':=by
  intro a;cases ME:o.dst with
  |none=>rw[ME]at a;subst a;exact⟨σ',rfl,Mv.refl j⟩
  |some d=>rw[ME]at a;subst a;obtain⟨n,p⟩:=hd d ME;have r:Abs.wr d .un σ=some (DR (JZ d.kl d.d σ) d.d .un):=(by simp[Abs.wr]);obtain⟨t,i,g2⟩:=(Mv.refl j).wr n p r;have f:Abs.wr d .un σ'=some (DR (JZ d.kl d.d σ') d.d .un):=(by simp[Abs.wr]);rw[f]at i;cases i;exact⟨_,rfl,g2⟩
 unfold Ko at a ⊢;cases hgd:o.guard with
 |none=>rw[hgd]at a;exact eT h c l k hd a
 |some g=>
  obtain⟨g,m⟩:=g;rw[hgd]at a;simp only at a ⊢;rw[h.eq g (q _ hgd)];split at a
  . rename_i b u;split at a
    . rename_i e;simp only[AAa e];exact eT h c l k hd a
    . rename_i e;simp only[AAZ e];exact skip a
  . exact skip a
  . exact a.elim
end Go.Abs
namespace Go.Abs
variable {G:Gi} {P:Program}
def aK (G:Gi):Ar->List Nat
 | .t s=>s::G.OB s++(G.Gy s).flatMap (λr=>r::G.OB r)
 | .c _=>[]
def GF (G:Gi):Ar->List Nat
 | .t s=>s::G.Gy s
 | .c _=>[]
def Rt (G:Gi) (o:BJ):List Nat:=(takes o.op).flatMap (aK G)++(match o.dst with|some d=>d.d::d.kl|none=>[])
def cW (G:Gi) (o:BJ):List Nat:=Rt G o++(reads o.op).flatMap (GF G)++(match o.guard with|some g=>[g.1]|none=>[])
def cOK:Ar->Bool
 | .t _=>true
 | .c a=>Fh [] a
def O1 (o:BJ):Bool:=(takes o.op).all cOK&&(reads o.op).all cOK
theorem ZY {σ σ' τ:Sg} {o:BJ} (j:O1 o=true) (n:∀d,o.dst=some d->d.rs=G.Gy d.d) (h:Ag G (· ∈cW G o) σ σ') (k:Ko P G o (· =τ) σ):∃f,Ko P G o (· =f) σ'/\Mv G (· ∈Rt G o) σ σ' τ f:=by
 simp only[O1,AAR,AAX]at j;refine aop_loc h (λs m=>by simp only[cW,AAh];exact .inl (.inl m)) ?_ ?_ ?_ ?_ k
 . intro x b;cases x with
   |c a=>exact j.1 _ b
   |t s=>
    have key:∀y∈aK G (.t s),y∈Rt G o:=λy e=>(by simp only[Rt,AAh,List.mem_flatMap];exact .inl ⟨_,b,e⟩);refine⟨key _ (by simp[aK]),λx b=>key _ (by simp[aK,b]),λr i=>⟨key _ ?_,λx b=>key _ ?_⟩⟩
    . simp only[aK,AA6,AAp,AAh,List.mem_flatMap];exact .inr (.inr ⟨r,i,.inl rfl⟩)
    . simp only[aK,AA6,AAp,AAh,List.mem_flatMap];exact .inr (.inr ⟨r,i,.inr b⟩)
 . intro x b;cases x with
   |c a=>exact j.2 _ b
   |t s=>have key:∀y∈GF G (.t s),y∈cW G o:=λy e=>(by simp only[cW,AAh,List.mem_flatMap];exact .inl (.inr ⟨_,b,e⟩));exact⟨key _ (by simp[GF]),λr i=>key _ (by simp[GF,i])⟩
 . intro d hd;refine⟨⟨?_,n d hd⟩,λy e=> ?_⟩
   . simp only[Rt,hd,AAh];exact .inr (ABP ..)
   . simp only[Rt,hd,AAh,AAp];exact .inr (.inr e)
 . intro g l;simp only[cW,l,AAh];exact .inr (ABP ..)
theorem aop_off {σ τ:Sg} {o:BJ} (c:O1 o=true) (f:∀d,o.dst=some d->d.rs=G.Gy d.d) (b:∀s,Fh (G.Gy s) (σ s)=true) (e:Ko P G o (· =τ) σ):(∀s,s∉Rt G o->τ s=σ s)/\∀s,Fh (G.Gy s) (τ s)=true:=by
 obtain⟨g,_,h⟩:=ZY c f (⟨λ_ _=>rfl,λs _=>b s⟩:Ag G (· ∈cW G o) σ σ) e;refine⟨λs a=>(h.off s a).2,λs=> ?_⟩;by_cases a:s∈Rt G o
 . exact h.ag.ri s a
 . rw[(h.off s a).2];exact b s
def FC (L:Nat->Bool) (W:Nat->List Nat) (s:Nat):Nat->Nat
 |0=>0
 |m+1=>if L m=true/\s∈W m then m+1 else FC L W s m
theorem XW (L:Nat->Bool) (W:Nat->List Nat) (s m:Nat):FC L W s m≤m:=by
 induction m with
 |zero=>simp[FC]
 |succ m ih=>simp only[FC];split<;>omega
section
variable {q:Nat->Sg} {L L':Nat->Bool} {W R:Nat->List Nat} {n i:Nat}
theorem lastW_at (hi:L i=false) (o:i<n) (e:∀j s,j<n->s∉W j->q (j+1) s=q j s)
 (f:∀j s,j<i->s∈W j->s∈R i->L j=true) (d:∀j s,i<j->j<n->s∈W j->s∈R i->L j=true->L i=true) {s:Nat} (c:s∈R i):q (FC L W s n) s=q i s:=by
 have:∀m,m≤n->q (FC L W s m) s=q (min m i) s:=by
  intro m;induction m with
  |zero=>intro _;simp[FC]
  |succ m ih=>
   intro p;simp only[FC];by_cases g:m<i
   . rw[show min (m+1) i=m+1 from by omega];by_cases a:s∈W m
     . rw[AAa ⟨f m s g a c,a⟩]
     . rw[AAZ (λh=>a h.2),ih (by omega),show min m i=m from by omega,e m s (by omega) a]
   . rw[AAZ,ih (by omega),show min m i=i from by omega,show min (m+1) i=i from by omega];rintro⟨b,k⟩;by_cases l:m=i
     . subst l;rw[hi]at b;cases b
     . have:=d m s (by omega) (by omega) k c b;rw[hi]at this;cases this
 rw[this n (AAv _),show min n i=i from by omega]
theorem lastW_in (f:i<n) (c:∀j,L' j=(L j||j==i)) (hi:L i=false) (e:∀j s,i<j->j<n->s∈W j->s∈W i->L j=true->L i=true) {s:Nat} (d:s∈W i):FC L' W s n=i+1:=by
 have:∀m,i<m->m≤n->FC L' W s m=i+1:=by
  intro m;induction m with
  |zero=>intro h;omega
  |succ m ih=>
   intro l o;simp only[FC];by_cases a:m=i
   . subst a;rw[AAa ⟨by simp[c],d⟩]
   . rw[AAZ,ih (by omega) (by omega)];rintro⟨b,g⟩;rw[c]at b;have k:L m=true:=by simpa[a]using b
     have:=e m s (by omega) (by omega) g d k;rw[hi]at this;cases this
 exact this n f (AAv _)
theorem uP (a:∀j,L' j=(L j||j==i)) {s:Nat} (b:s∉W i) (m:Nat):FC L' W s m=FC L W s m:=by
 induction m with
 |zero=>rfl
 |succ m ih=>
  simp only[FC,ih,a];by_cases h:m=i
  . subst h;simp[b]
  . simp[h]
theorem uO (a:∀j,j<n->L j=true) (b:∀j s,j<n->s∉W j->q (j+1) s=q j s) (s:Nat):∀m,m≤n->q (FC L W s m) s=q m s:=by
 intro m;induction m with
 |zero=>intro _;rfl
 |succ m ih=>
  intro c;simp only[FC];by_cases h:s∈W m
  . rw[AAa ⟨a m (by omega),h⟩]
  . rw[AAZ (λx=>h x.2),ih (by omega),b m s (by omega) h]
end
end Go.Abs
