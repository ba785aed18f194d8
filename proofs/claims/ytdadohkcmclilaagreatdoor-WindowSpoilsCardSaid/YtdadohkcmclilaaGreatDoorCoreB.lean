/- A calculus of abstract states of Go memory, and that it is sound. -/
import Derived.Test.YtdadohkcmclilaaGreatDoorCoreA
import Derived.Laws.MakeOwn
set_option linter.unusedSimpArgs false
set_option linter.unusedVariables false
namespace Go.Abs
variable {w w':World} {S S':Nat->Prop} {G:Gi} {δ:Nat->DV} {Fr:Nat->Nat->Prop} {P:Program}
theorem Yq (b:Nat->ABh (Nat×Nat)) (a:List Value) (i off n:Nat) (v:Value) (c:List (Nat×Value)) (vs:List Value) (j:b i=some (off,n)) (f:v.cells=vs.toArray) (hn:vs.length=n) (k:off+n≤a.length):
 Instr.fill b a.toArray ((i,v)::c)=Instr.fill b (a.take off++vs++a.drop (off+vs.length)).toArray c:=by
 have h:(decide (v.cells.size≠n)||decide (off+v.cells.size>a.toArray.size))=false:=by simp[f,hn];omega
 have d:=zG vs off a.toArray (by simp;omega) 0;simp only[Nat.add_zero]at d;rcases d with d|d
 . have:(v.cells.zipIdx.foldl (λg (x:Value×Nat)=>g.setIfInBounds (off+x.2) x.1) a.toArray)=(a.take off++vs++a.drop (off+vs.length)).toArray:=(by apply ABS;rw[f,← d];have e:vs.toArray.zipIdx=vs.zipIdx.toArray:=(by simp);rw[e];simp);simp only[Instr.fill,j,h];simp only[AAQ,AAY];exact congrArg (λz=>Instr.fill b z c) this
 . simp at d;omega
def LB (place:Nat->ABh (Nat×Nat)):List (Nat×Operand)->List (Nat×Nat×Ar)->Bool
 |[],[]=>true
 | (i,x)::qs,(off,n,y)::ps=>(match place i with|some (o',n')=>o'==off&&n'==n|none=>false)&&CH x y&&LB place qs ps
 |_,_=>false
theorem St.Ul {a:Act} {b:Nat->ABh (Nat×Nat)} (K:List (Nat×Nat×Ar)):∀(k:List (Nat×Operand)) {δ:Nat->DV} {Fr:Nat->Nat->Prop} {ds:List DV} {Fd:Nat->Prop} {I:List AV} {τ:Sg},St G w S δ Fr->Rd δ a->
 LB b k K=true->JH w S ds Fd->(∀s x,Fr s x->¬Fd x)->(ds.map DV.er).all FB=true->Abs.Ul G K (ds.map DV.er) (λs=>(δ s).er)=some (I,τ)->
 ∃u M B C,St G w S u M/\(λs=>(u s).er)=τ/\(∀s,(u s).A0=(δ s).A0)/\JH w S B C/\B.map DV.er=I/\Instr.fill b (ds.map DV.A0).toArray (k.map λ(i,x)=>(i,a.eval x))=some (B.map DV.A0).toArray/\
  (∀s x,M s x->¬C x)/\(∀x,BD M x∨C x->BD Fr x∨Fd x)/\I.all FB=true:=by
 induction K with
 |nil=>
  intro k δ Fr ds Fd I τ h P d L J z f;cases k with
  |cons q k=>simp[LB]at d
  |nil=>simp only[Abs.Ul,AAG,AAU]at f;obtain⟨rfl,rfl⟩:=f;exact⟨δ,Fr,ds,Fd,h,rfl,λ_=>rfl,L,rfl,by simp[Instr.fill],J,λx l=>l,z⟩
 |cons p K ih=>
  obtain⟨off,n,y⟩:=p;intro k δ Fr ds Fd I τ h P d L J z f;cases k with
  |nil=>simp[LB]at d
  |cons q k=>
   obtain⟨i,x⟩:=q;simp only[LB,AAH]at d;obtain⟨⟨F,R⟩,Q⟩:=d;have V:b i=some (off,n):=by
    split at F
    . rename_i o' n' Tl;simp only[AAH,AAV]at F;rw[Tl,F.1,F.2]
    . cases F
   obtain⟨hy,K1⟩:=Ah R P;simp only[Abs.Ul]at f;split at f
   . rename_i v τ1 H;split at f
     . rename_i Ew;obtain⟨hn,Z,N⟩:=Ew;obtain⟨δ1,F1,D,Ff,e,Iu,E4,Qv⟩:=h.tk hy H;subst Iu;subst E4;have U:=K0 D e.ok.KU;have hl:(Er D).length=n:=(by rw[← hn,← U];simp);have Ta:=K7 e.ok N;have T:∀x,Fd x->¬Ff x:=(by intro x l hf;obtain⟨t,H⟩:=e.own x (.inr hf);exact J t x H l);have o:off+(Er D).length≤ds.length:=(by rw[hl];simpa using Z);obtain⟨F2,X9,dR⟩:=Vs off L (Mf e.ok) T o;have Ln:∀s x,F1 s x->¬F2 x:=by
        intro s x l h2;rcases dR x h2 with m|m
        . obtain⟨t,H⟩:=e.own x (.inl ⟨s,l⟩);exact J t x H m
        . exact e.LX s x l m
       have W:=mB ds (Er D) off;have g:((ds.take off++Er D++ds.drop (off+(Er D).length)).map DV.er).all FB=true:=by
        rw[AAN]at z N ⊢;intro c d;simp only[AAv,AAa]at d;rcases d with(d|d)|d
        . exact z c (by rw[ABX]at d;exact ABa d)
        . rw[U]at d;exact N c d
        . exact z c (by rw[ABg]at d;exact List.mem_of_mem_drop d)
       rw[← U]at f;rw[← W]at f;obtain⟨X,F2',B,C,Jg,Qw,Lm,E,Oh,Wa,AAB,r,j⟩:=ih k e.st (λs=>(P s).trans (e.A0 s).symm) Q X9 Ln g f;refine⟨X,F2',B,C,Jg,Qw,λs=>(Lm s).trans (e.A0 s),E,Oh,?_,AAB,?_,j⟩
       . simp only[AAb];rw[Yq b (ds.map DV.A0) i off n (a.eval x) _ ((Er D).map DV.A0) V (by rw[K1,← Qv];exact Ta) (by simpa using hl) (by simpa using Z)];rw[← Wa];congr 2;simp[ABX,ABg]
       . intro x l;rcases r x l with m|m
         . exact .inl (e.own x (.inl m))
         . rcases dR x m with O|O
           . exact .inr O
           . exact .inl (e.own x (.inr O))
     . cases f
   . cases f
theorem runs_bld (h:St G w S δ Fr) {a:Act} (l:Rd δ a) {o:Oper} {t:TypeId} {b:Array (Nat×Operand)} {f:Nat->ABh (Nat×Nat)} {z:List AV} {k:List DV} {r:List (Nat×Nat×Ar)} {d:Dw} (hd:Ip G a o (some d)) (M:o.op= .build t b)
 (O:WG z=some k) (j:z.all FB=true) (p:LB f b.toList r=true)
 (N:∀c:Array Value,Instr.fill f (k.map DV.A0).toArray (b.toList.map λ(i,x)=>(i,a.eval x))=some c->(Instr.build t (b.map λ(i,x)=>(i,a.eval x))).run P w= .ok (.agg c) w) {σ':Sg}
 (m:F6 G (.TY z r) (some d) (λs=>(δ s).er)=some σ'):Pw P G w S Fr a o σ':=by
 have g:k.map DV.er=z/\JH w S k (λ_=>False):=by have:=ID (w:=w) (S:=S) (δ:=δ) (.agg z) (.agg k) (by simp[IZ,O]);exact⟨by simpa using this.1,B0.1 this.2.1⟩
 simp only[F6]at m;split at m
 . rename_i T τ y;rw[← g.1]at y j;obtain⟨Q,R,J,L,v,H,E,C,I,K,B,F,u⟩:=h.Ul (a:=a) r b.toList l p g.2 (λ_ _ _ h=>h) j y;subst H;subst I;refine Je (D:=.agg J) (Ff:=L) v (λs=>(l s).trans (E s).symm) hd ?_ (λ_ _=>rfl) (λ_ _ _=>rfl) (λ_ h=>h) (λs x q=>(v.ok s).Ek x q) (B0.2 C) B (.agg _ λi e hi=> ?_) (by simpa using m) (Nx.less ?_)
   . have:=N _ K;simp only[execOp,M,Sem.run_bind,this,Result.andThen_ok,Sem.run_pure,JP]
   . exact Qj (λa l=>by rw[AAN]at u;exact u a l) e (AAS hi)
   . intro x q;rcases F x q with n|n
     . exact n
     . exact n.elim
 . cases m
theorem UH {d:Type} {rows:List (List d)} {k i:Nat} {r:List d} (c:∀a∈rows,a.length=k) (hi:i<rows.length) (h:r.length=k):(rows.set i r).flatten=rows.flatten.take (i*k)++r++rows.flatten.drop (i*k+r.length):=by
 induction rows generalizing i with
 |nil=>simp at hi
 |cons x xs ih=>
  have b:=c x (by simp);cases i with
  |zero=>simp[h,← b]
  |succ i=>simp only[List.set_cons_succ,ABd];rw[ih (λa e=>c a (by simp[e])) (by simpa using hi)];have f:(x++xs.flatten).take ((i+1)*k)=x++xs.flatten.take (i*k):=(by rw[show(i+1)*k=x.length+i*k from by rw[ABM,b];omega,List.take_length_add_append]);have g:(x++xs.flatten).drop ((i+1)*k+r.length)=xs.flatten.drop (i*k+r.length):=(by rw[show(i+1)*k+r.length=x.length+(i*k+r.length)from by rw[ABM,b];omega,List.drop_length_add_append]);rw[f,g];simp[AA0]
def NI (k:Nat):List (Nat×Operand)->List (Nat×Ar)->Bool
 |[],[]=>true
 | (i,x)::qs,(j,y)::ps=>i==j&&CH x y&&NI k qs ps
 |_,_=>false
theorem St.Um {a:Act} {k:Nat} (I:List (Nat×Ar)):∀(d:List (Nat×Operand)) {δ:Nat->DV} {Fr:Nat->Nat->Prop} {ds:List (List DV)} {Fd:Nat->Prop} {rs:List (List AV)} {τ:Sg},St G w S δ Fr->Rd δ a->
 NI k d I=true->JH w S ds.flatten Fd->(∀r∈ds,r.length=k)->(∀s x,Fr s x->¬Fd x)->Abs.Um G k I (ds.map (·.map DV.er)) (λs=>(δ s).er)=some (rs,τ)->
 ∃(n:Nat->DV) (K:Nat->Nat->Prop) (g:List (List DV)) (z:Nat->Prop),St G w S n K/\(λs=>(n s).er)=τ/\(∀s,(n s).A0=(δ s).A0)/\JH w S g.flatten z/\(∀r∈g,r.length=k)/\g.length=ds.length/\g.map (·.map DV.er)=rs/\
  Instr.fill (λi=>some (i*k,k)) (ds.flatten.map DV.A0).toArray (d.map λ(i,x)=>(i,a.eval x))=some (g.flatten.map DV.A0).toArray/\(∀s x,K s x->¬z x)/\(∀x,BD K x∨z x->BD Fr x∨Fd x):=by
 induction I with
 |nil=>
  intro d δ Fr ds Fd rs τ h M B J o H c;cases d with
  |cons q d=>simp[NI]at B
  |nil=>simp only[Abs.Um,AAG,AAU]at c;obtain⟨rfl,rfl⟩:=c;exact⟨δ,Fr,ds,Fd,h,rfl,λ_=>rfl,J,o,rfl,rfl,by simp[Instr.fill],H,λx e=>e⟩
 |cons p I ih=>
  obtain⟨j,y⟩:=p;intro d δ Fr ds Fd rs τ h M B J o H c;cases d with
  |nil=>simp[NI]at B
  |cons q d=>
   obtain⟨i,x⟩:=q;simp only[NI,AAH,AAV]at B;obtain⟨⟨rfl,O⟩,N⟩:=B;obtain⟨hy,K1⟩:=Ah O M;simp only[Abs.Um]at c;split at c
   . rename_i v τ1 F;split at c
     . rename_i Z;obtain⟨hn,hi,Ho⟩:=Z;obtain⟨δ1,F1,D,Ff,b,Iu,X,Qv⟩:=h.tk hy F;subst Iu;subst X;have W:=K0 D b.ok.KU;have u:(Er D).length=k:=(by rw[← hn,← W];simp);have Ta:=K7 b.ok Ho;have hi':i<ds.length:=(by simpa using hi);have P:∀x,Fd x->¬Ff x:=(by intro x e hf;obtain⟨t,F⟩:=b.own x (.inr hf);exact H t x F e);have R:i*k+(Er D).length≤ds.flatten.length:=(by rw[Db o,u,← ABM];exact AA1 _ hi');obtain⟨F2,U,V⟩:=Vs (i*k) J (Mf b.ok) P R;rw[← UH o hi' u]at U;have Ln:∀s x,F1 s x->¬F2 x:=by
        intro s x e h2;rcases V x h2 with l|l
        . obtain⟨t,F⟩:=b.own x (.inl ⟨s,e⟩);exact H t x F l
        . exact b.LX s x e l
       have Tb:∀r∈ds.set i (Er D),r.length=k:=by
        intro r hr;rcases AAm hr with h|rfl
        . exact o r h
        . exact u
       rw[← W]at c;rw[← List.map_set (f:=λx:List DV=>x.map DV.er)]at c;obtain⟨T,F2',g,z,Jg,Qw,Lm,E,Q,C,Oh,Wa,AAB,m⟩:=ih d b.st (λs=>(M s).trans (b.A0 s).symm) N U Tb Ln c;refine⟨T,F2',g,z,Jg,Qw,λs=>(Lm s).trans (b.A0 s),E,Q,by simpa using C,Oh,?_,AAB,?_⟩
       . simp only[AAb];rw[Yq _ (ds.flatten.map DV.A0) i (i*k) k (a.eval x) _ ((Er D).map DV.A0) rfl (by rw[K1,← Qv];exact Ta) (by simpa using u) (by rw[AAn];rw[u]at R;exact R)];rw[← Wa,UH o hi' u];congr 2;simp[ABX,ABg]
       . intro x e;rcases m x e with l|l
         . exact .inl (b.own x (.inl l))
         . rcases V x l with L|L
           . exact .inr L
           . exact .inl (b.own x (.inr L))
     . cases c
   . cases c
def qZ:List (List AV)->ABh (List (List DV))
 |[]=>some []
 |r::rs=>match WG r,qZ rs with
  |some d,some ds=>some (d::ds)
  |_,_=>none
theorem kE (rs:List (List AV)) (ds:List (List DV)) (h:qZ rs=some ds):ds.map (·.map DV.er)=rs/\JH w S ds.flatten (λ_=>False):=by
 induction rs generalizing ds with
 |nil=>simp only[qZ,AAG]at h;subst h;exact⟨rfl,λ_ h=>h⟩
 |cons r rs ih=>
  simp only[qZ]at h;split at h
  . rename_i d a e f;obtain rfl:=AAJ h;obtain⟨b,c⟩:=ih a f
    have:=ID (w:=w) (S:=S) (δ:=λ_=>default) (.agg r) (.agg d) (by simp[IZ,e]);refine⟨by simp[b];simpa using this.1,?_⟩;simp only[ABd];exact(K3 (B0.1 this.2.1) c (λ_ h=>h.elim)).congr λx=>by simp
  . cases h
theorem runs_bsl (h:St G w S δ Fr) (Q:∀b,S b->b<w.heap.size) {a:Act} (J:Rd δ a) {o:Oper} {t e:TypeId} {len k:Nat} {f:Array (Nat×Operand)} {z:List (List AV)} {u:List (List DV)} {H:List (Nat×Ar)} {d:Dw} (hd:Ip G a o (some d)) (Z:o.op= .buildSlice t len f)
 (hz:qZ z=some u) (D:∀r∈z,r.length=k) (F:z.length=len) (B:NI k f.toList H=true)
 (C:∀g:Array Value,Instr.fill (λi=>some (i*k,k)) (u.flatten.map DV.A0).toArray (f.toList.map λ(i,x)=>(i,a.eval x))=some g->
  (Instr.buildSlice t len (f.map λ(i,x)=>(i,a.eval x))).run P w= .ok (.slice (some ⟨w.heap.size,0,none⟩) len len) (w.alloc (.cells g e))) {σ':Sg}
 (v:F6 G (.NH k z H) (some d) (λs=>(δ s).er)=some σ'):Pw P G w S Fr a o σ':=by
 obtain⟨m,q⟩:=kE (w:=w) (S:=S) z u hz;have p:∀r∈u,r.length=k:=by
  intro r C
  have:=D (r.map DV.er) (by rw[← m];exact ABK C);simpa using this
 have l:u.length=len:=by rw[← F,← m];simp
 simp only[F6]at v;split at v
 . rename_i rs τ K;rw[← m]at K;obtain⟨δ',F',I,X,N,U,R,O,L,j,V,W,M,T⟩:=h.Um (a:=a) H f.toList J B q p (λ_ _ _ h=>h) K;subst U;subst V;refine Xc (bx:=false) (k:=k) (c:=len) (rows:=I) (Fd:=X) (arr:=(I.flatten.map DV.A0).toArray) (E:=e) N Q (λs=>(J s).trans (R s).symm) hd ?_ O M L ?_ ?_ v ?_
   . have:=C _ W;simp only[execOp,Z,Sem.run_bind,this,Result.andThen_ok,Sem.run_pure,I9,AAQ,AAY,j,l]
   . simp only[AAQ,AAY,ABe,AAn,Db L,j,l];exact⟨trivial,AAr _⟩
   . intro n d hn;rw[List.getElem?_toArray,AAR,hn];rfl
   . intro x hx;rcases T x hx with y|y
     . exact y
     . exact y.elim
 . cases v
theorem Qp (z:List AV) (a:List DV) (h:WG z=some a):a.map DV.er=z/\∀D∈a,Ok w S D (λ_=>False):=by
 obtain⟨f,g,_⟩:=ID (w:=w) (S:=S) (δ:=λ_=>.lf .un undef) (.agg z) (.agg a) (by simp[IZ,h]);refine⟨by simpa using f,λD j=> ?_⟩;obtain⟨b,c,_,_,d⟩:=JM.1 (B0.1 g);obtain⟨i,hi⟩:=AAj j
 have:=c i D hi;have e:b i=λ_=>False:=funext λx=>propext ⟨λk=>(d x).2 ⟨i,k⟩,False.elim⟩;rwa [e]at this
theorem zF {b:Type} (a:List b) (l:Nat):∀n,n<l*a.length->(List.replicate l a).flatten[n]? =a[n%a.length]? :=by
 induction l with
 |zero=>intro n h;omega
 |succ l ih=>
  intro n h;rw[List.replicate_succ,ABd];by_cases hn:n<a.length
  . rw[AAf hn,Nat.mod_eq_of_lt hn]
  . rw[AAl (by omega),ih (n-a.length) (by rw[Nat.add_mul,Nat.one_mul]at h;omega),← Nat.mod_eq_sub_mod (by omega)]
theorem runs_mk (h:St G w S δ Fr) (Cy:∀b,S b->b<w.heap.size) {a:Act} (v:Rd δ a) {o:Oper} {t e:TypeId} {k bytes:Nat} {x y:Operand} {z:List AV} {f:List DV} {X Z:Ar} {d:Dw} {i:TypeInfo} {zv:Value} (hd:Ip G a o (some d)) (ho:o.op= .makeSlice t x y)
 (hu:P.underlying t=some (.slice e)) (hi:P.info? e=some i) (O:i.zero=some zv) (T:i.size=k) (B:i.bytes=bytes) (rQ:0<bytes) (dJ:0<k) (M:WG z=some f) (p:zv.cells.toList=f.map DV.A0) (N:z.length=k)
 (H:CH x X=true) (I:CH y Z=true) {σ':Sg} (g:F6 G (.mk k bytes z X Z) (some d) (λs=>(δ s).er)=some σ'):Pw P G w S Fr a o σ':=by
 obtain⟨L,ex⟩:=Ah H v;obtain⟨hy,ey⟩:=Ah I v;simp only[F6]at g;split at g
 . rename_i l c J C;split at g
   . rename_i Ew;obtain⟨h0,QY,Oj⟩:=Ew;obtain⟨kl,J⟩:=NF J;obtain⟨kc,C⟩:=NF C;obtain⟨el,_⟩:=h.Ep L J;obtain⟨ec,_⟩:=h.Ep hy C;have hr:c.toNat*bytes≤70368744177664:=(by simpa[Ap]using Oj);have F:(c.toNat:Int)=c:=Int.toNat_of_nonneg (by omega);have U:c.toNat≤c.toNat*bytes:=Nat.le_mul_of_pos_right _ rQ;have r:f.length=k:=(by have:=congrArg List.length (Qp (w:=w) (S:=S) z f M).1;rw[AAn]at this;rw[this,N]);have Cb:=run_make (P:=P) w t e i zv hu hi O kl kc l c h0 QY (by rw[B,← F];have:(bytes:Int)*(c.toNat:Int)=((c.toNat*bytes:Nat):Int):=(by rw[AA8];simp);rw[this];omega) (by omega);have q:zv.cells.size=k:=(by have:=congrArg List.length p;simp only[AAn,r]at this;simpa using this);have R:(List.replicate l.toNat f).length=l.toNat:=(by simp);refine Xc (bx:=false) (k:=k) (c:=c.toNat) (rows:=List.replicate l.toNat f) (Fd:=λ_=>False) (arr:=madeCells zv.cells (c.toNat*i.size)) (E:=e) h Cy v hd ?_ ?_ (λ_ _ _ h=>h) ?_ ?_ ?_ ?_ (λx L=>L.elim id False.elim)
     . simp only[execOp,ho,ex,ey,el,ec,Sem.run_bind,Cb,Result.andThen_ok,Sem.run_pure,I9,AAQ,AAY,R]
     . refine Ca λD hD=> ?_;obtain⟨Q,u,j⟩:=List.mem_flatten.1 hD;rw[ABO u]at j;exact(Qp z f M).2 D j
     . intro Q u;rw[ABO u,r]
     . simp only[AAQ,AAY,size_madeCells,T,R];exact⟨trivial,by omega⟩
     . intro n D hn;have m:n<l.toNat*f.length:=(by have:=(AAI.1 hn).1;simpa using this);rw[zF f l.toNat n m]at hn;have V:l.toNat*k≤c.toNat*k:=AA1 _ (by omega);have K:n<c.toNat*i.size:=(by rw[T];rw[r]at m;omega);have W:n%k<k:=Nat.mod_lt _ dJ;rw[r]at hn;have Bo:zv.cells[n%k]? =some D.A0:=(by rw[← Array.getElem?_toList,p,AAR,hn];rfl);simp only[madeCells,Array.getElem?_map,Array.getElem?_range,AAP K,AAk,q];rw[getElem!_def,Bo]
     . have:(List.replicate l.toNat f).map (·.map DV.er)=List.replicate l.toNat z:=(by rw[List.map_replicate,(Qp (w:=w) (S:=S) z f M).1]);rw[this];exact g
   . cases g
 . cases g
end Go.Abs
namespace Go.Abs
variable {w w':World} {S S':Nat->Prop} {G:Gi} {δ:Nat->DV} {Fr:Nat->Nat->Prop} {P:Program}
def Bd (v:ABh Value) (dflt n:Nat):Prop:=(v=none/\n=dflt)∨∃kk i,v=some (.int kk i)/\0≤i/\i.toNat=n
theorem St.bd (h:St G w S δ Fr) {a:Act} (f:Rd δ a) {x:ABh Operand} {y:ABh Ar} (c:Qn x y=true) {dflt n:Nat} (b:Mp (λs=>(δ s).er) y dflt=some n):Bd (x.map a.eval) dflt n/\(x=none↔y=none):=by
 unfold Qn at c;split at c
 . simp only[Mp,AAG]at b;exact⟨.inl ⟨rfl,b.symm⟩,by simp⟩
 . rename_i x y;obtain⟨j,g⟩:=Ah c f;simp only[Mp]at b;split at b
   . rename_i i hi;split at b
     . rename_i e;simp only[AAG]at b;obtain⟨k,hi⟩:=NF hi;obtain⟨d,_⟩:=h.Ep j hi;exact⟨.inr ⟨k,i,by simp[g,d],e,b⟩,by simp⟩
     . cases b
   . cases b
 . cases c
theorem IM {c:IntKind} {i:Int} {y n:Nat} {a:BoundsCode} (b:0≤i) (hn:i.toNat=n) (d:n≤y) (w:World):(Instr.sliceBound (.int c i) y a).run P w= .ok n w:=by
 have:i≤y:=by omega
 simp[Instr.sliceBound,asIntOf,b,this,hn]
theorem aH {t e:TypeId} {k len cap l h m:Nat} (u:P.underlying t=some (.slice e)) (B:GD P e=some k) {lo hi mx:ABh Value} (C:Bd lo 0 l) (z:Bd hi len h) (D:Bd mx cap m) (q:mx≠none->hi≠none) (p:l≤h) (o:h≤m) (r:m≤cap) (d:ABh Addr) (w:World):
 (Instr.sliceAt t (.slice d len cap) lo hi mx).run P w= .ok (.slice (if m=l then d else d.map (·.add (l*k))) (h-l) (m-l)) w:=by
 have y:(Instr.sliceBounds true len cap lo hi mx).run P w= .ok (l,h,m) w:=by
  rcases D with⟨rfl,rfl⟩|⟨I,G,rfl,i,j⟩<;>rcases z with⟨rfl,rfl⟩|⟨H,E,rfl,b,c⟩<;>rcases C with⟨rfl,rfl⟩|⟨kl,F,rfl,f,g⟩<;>
   first
    | (simp[Instr.sliceBounds,IM i j r,IM b c o,IM f g p];done)
    | (simp[Instr.sliceBounds,IM i j r,IM b c o];done)
    | (simp[Instr.sliceBounds,IM b c o,IM f g p];done)
    | (simp[Instr.sliceBounds,IM b c o];done)
    | (simp[Instr.sliceBounds,IM f g p];done)
    | (simp[Instr.sliceBounds];done)
    |exact absurd rfl (q (by simp))
 have:(Instr.sliceAt t (.slice d len cap) lo hi mx)=(do match ← underlying t with
  | .array n elem=>
   let a ← Instr.sureAddr (.slice d len cap)
   let(l,h,m) ← Instr.sliceBounds false n n lo hi mx
   let size ← sizeOf elem
   pure (.slice (some (if m=l then a else a.add (l*size))) (h-l) (m-l))
  |_=>Instr.slice t (.slice d len cap) lo hi mx):=rfl
 rw[this];simp only[Sem.run_bind,run_underlying u,Result.andThen_ok];have v:(Instr.slice t (.slice d len cap) lo hi mx)=(do
  match ← underlying t,(Value.slice d len cap)with
  | .string,.string s=>
   if mx.isSome then stuck "Slice: full slice of a string"
   let(l,h,_) ← Instr.sliceBounds false s.size s.size lo hi none
   pure (.string (s.extract l h))
  | .slice elem,.slice a len cap=>
   let(l,h,m) ← Instr.sliceBounds true len cap lo hi mx
   let size ← sizeOf elem
   pure (.slice (if m=l then a else a.map (·.add (l*size))) (h-l) (m-l))
  | .pointer arr,x=>
   let a ← asAddr x
   let .array n elem ← underlying arr|stuck "Slice: array type expected"
   let(l,h,m) ← Instr.sliceBounds false n n lo hi mx
   let size ← sizeOf elem
   pure (.slice (some (if m=l then a else a.add (l*size))) (h-l) (m-l))
  |_,_=>stuck "Slice: string, slice or pointer to array expected"):=rfl
 rw[v];simp only[Sem.run_bind,run_underlying u,Result.andThen_ok,y,run_sizeOf B,Sem.run_pure]
theorem Fz.cut {e:Bool} {k:Nat} {rows:List (List AV)} {o:ABh Addr} {n cap l h m:Nat} {x:Bool} (v:Fz w S (.sl e k rows) (.slice o n cap)) (z:l≤h) (u:h≤rows.length) (B:h≤m) (s:x=true->m=h):
 Fz w S (.sl x k ((rows.drop l).take (h-l))) (.slice (if m=l then o else o.map (·.add (l*k))) (h-l) (m-l)):=by
 have f:((rows.drop l).take (h-l)).length=h-l:=by simp;omega
 by_cases p:h=l
 . subst p;simp only[Nat.sub_self,List.take_zero];exact .nil x k _ _ (λq=>by have:=s q;omega)
 . have y:m≠l:=(by omega);cases v with
   |nil=>simp at u;omega
   |sl _ _ _ b off c vs hxe QY hS hk hc hr=>
    simp only[y,AAY,AAk,Addr.add_lit];have g:∀i d,((rows.drop l).take (h-l))[i]? =some d->rows[l+i]? =some d:=by
     intro i d hi;rw[ABH]at hi;split at hi
     . simpa using hi
     . cases hi
    have key:Fz w S (.sl x k ((rows.drop l).take (h-l))) (.slice (some ⟨b,off+l*k,none⟩) ((rows.drop l).take (h-l)).length (m-l)):=by
     refine .sl x k _ b (off+l*k) (m-l) (λi j=>vs (l+i) j) (λq=>by have:=s q;rw[f];omega) (by rw[f];omega) hS (λd t=>hk d (List.mem_of_mem_drop (ABa t))) ?_ ?_
     . intro i j d a hi r
       have:=hc (l+i) j d a (g i d hi) r;rw[show off+l*k+(i*k+j)=off+((l+i)*k+j)from by rw[Nat.add_mul];omega];exact this
     . intro i j d a hi r;exact hr (l+i) j d a (g i d hi) r
    rw[f]at key;exact key
theorem NJ {rows rs:List (List AV)} {l h:Nat} (a:Rn rows l h=some rs):l≤h/\h≤rows.length/\rs=(rows.drop l).take (h-l):=by
 unfold Rn at a;split at a
 . rename_i b;exact⟨b.1,b.2,(AAJ a).symm⟩
 . cases a
theorem St.bdM (h:St G w S δ Fr) {a:Act} (l:Rd δ a) {x:ABh Operand} {y:ABh Ar} (e:Qn x y=true) {c m cap:Nat} (n:vT (λs=>(δ s).er) y c=some m) (f:m=c) (g:c≤cap):
 ∃d,Bd (x.map a.eval) cap d/\c≤d/\d≤cap/\(y.isSome=true->d=c):=by
 cases y with
 |none=>
  cases x with
  |none=>exact⟨cap,.inl ⟨rfl,rfl⟩,g,AAr _,by simp⟩
  |some x=>simp[Qn]at e
 |some y=>
  obtain⟨b,_⟩:=h.bd l e (dflt:=0) (by simpa only[vT]using n);subst f;cases x with
  |none=>simp[Qn]at e
  |some x=>
   rcases b with⟨b,_⟩|⟨o,i,b,j,k⟩
   . simp at b
   . exact⟨m,.inr ⟨o,i,b,j,k⟩,AAr _,g,λ_=>rfl⟩
theorem fC (h:St G w S δ Fr) {a:Act} (u:Rd δ a) {o:Oper} {t e:TypeId} {x:Operand} {lo hi mx:ABh Operand} {k:Nat} {y:Ar} {lo' hi' q:ABh Ar} {d:Dw} (hd:Ip G a o (some d)) (ho:o.op= .slice t x lo hi mx)
 (hu:P.underlying t=some (.slice e)) (hk:GD P e=some k) (hc:CH x y=true) (Xx:Qn lo lo'=true) (LC:Qn hi hi'=true) (R:Qn mx q=true) (hmh:mx=none∨hi≠none) {σ':Sg}
 (f:F6 G (.vV k true y lo' hi' q) (some d) (λs=>(δ s).er)=some σ'):Pw P G w S Fr a o σ':=by
 obtain⟨hy,N⟩:=Ah hc u;have B:mx.map a.eval≠none->hi.map a.eval≠none:=by
  intro C K;rcases hmh with h3|h3
  . simp[h3]at C
  . simp at K;exact h3 K
 simp only[F6]at f;split at f
 . -- frozen already
   rename_i ee L rows pl W;split at f
   . rename_i l g I H;split at f
     . rename_i rs m AAA hm;split at f
       . rename_i Ew;obtain⟨rfl,j⟩:=Ew;obtain⟨C,K,rfl⟩:=NJ AAA;have J:=(h.nV hy W).2 _ _ _ rfl (h.hdSl hy W);obtain⟨i,cap,E⟩:=Oc J;rw[E]at J N;have O:rows.length≤cap:=by
          cases J with
          |nil=>simp
          |sl _ _ _ b off c vs hxe O=>exact O
         obtain⟨b1,_⟩:=h.bd u Xx I;obtain⟨b2,_⟩:=h.bd u LC H;obtain⟨n,b3,Q,g2,g3⟩:=h.bdM u R hm j (cap:=cap) (by omega);have Z:=aH (P:=P) hu hk b1 b2 b3 B C Q g2 i w;have V:=J.cut (m:=n) (x:=q.isSome) C K Q g3;have LZ:(DV.lf (.sl q.isSome L ((rows.drop l).take (g-l))) (.slice (if n=l then i else i.map (·.add (l*L))) (g-l) (n-l))).er= .sl q.isSome L ((rows.drop l).take (g-l)):=by simp
         refine Je (D:=.lf (.sl q.isSome L ((rows.drop l).take (g-l))) (.slice (if n=l then i else i.map (·.add (l*L))) (g-l) (n-l))) (Ff:=λ_=>False) h u hd ?_ (λ_ _=>rfl) (λ_ _ _=>rfl) (λ_ h=>h) (λs x z=>(h.ok s).Ek x z)
          (.lf _ _ _ V (λ_ h=>h)) (λ_ _ _ h=>h) (.lf _ _ trivial) (by rw[LZ];exact f) (Nx.less λx z=>z.elim id False.elim)
         simp only[execOp,ho,N,Sem.run_bind,Z,Result.andThen_ok,Sem.run_pure,Ke]
       . cases f
     . cases f
   . cases f
 . -- frozen now
   rename_i L rows r p W;split at f
   . rename_i l g I H;split at f
     . rename_i rs m AAA hm;split at f
       . rename_i Ew;obtain⟨rfl,j⟩:=Ew;obtain⟨C,K,rfl⟩:=NJ AAA;simp only[AAo]at f;split at f
         . rename_i fr τ J;obtain⟨δ1,F1,Fo,v,bx,M,Ak,CF,Iu,DU,Bv,T,hfe,C4,Dy,_⟩:=h.Pz J;subst Iu;obtain⟨X,F,QZ,Co,Tl⟩:=(h.nV hy W).1 _ _ _ rfl;have KR:=Tl r p rfl;rw[Bv]at KR;simp only[AAG,DV.own.injEq]at KR;obtain⟨rfl,rfl,rfl,rfl⟩:=KR;have U:fr= .sl false M (rows.map (·.map I1)):=(by rw[hfe];simp only[EN,NM,QZ]);rw[U]at T;obtain⟨i,cap,E⟩:=Oc T;rw[E]at T N;have bJ:(rows.map (·.map I1)).length=rows.length:=(by simp);have O:rows.length≤cap:=by
            rw[← bJ];generalize rows.map (·.map I1)=rr at*;cases T with
            |nil=>simp
            |sl _ _ _ b off c vs hxe O=>exact O
           obtain⟨b1,_⟩:=h.bd u Xx I;obtain⟨b2,_⟩:=h.bd u LC H;rw[bJ]at N;obtain⟨n,b3,Q,g2,g3⟩:=h.bdM u R hm j (cap:=cap) (by omega);have Z:=aH (P:=P) hu hk b1 b2 b3 B C Q g2 i w;have V:=T.cut (m:=n) (x:=q.isSome) C (by rw[bJ];exact K) Q g3;rw[← ABg,← ABX]at V;have LZ:(DV.lf (.sl q.isSome M (((rows.drop l).take (g-l)).map (·.map I1))) (.slice (if n=l then i else i.map (·.add (l*M))) (g-l) (n-l))).er= .sl q.isSome M (((rows.drop l).take (g-l)).map (·.map I1)):=by simp
           refine Je (S:=S) (S':=λx=>S x∨Fo x) (D:=.lf (.sl q.isSome M (((rows.drop l).take (g-l)).map (·.map I1))) (.slice (if n=l then i else i.map (·.add (l*M))) (g-l) (n-l))) (Ff:=λ_=>False) CF (λs=>(u s).trans (DU s).symm) hd ?_ (λ_ _=>rfl) (λ_ _ _=>rfl) (λ_ h=>h) (λs x z=>(CF.ok s).Ek x z)
            (.lf _ _ _ V (λ_ h=>h)) (λ_ _ _ h=>h) (.lf _ _ trivial) (by rw[LZ];exact f) ?_
           . simp only[execOp,ho,N,Sem.run_bind,Z,Result.andThen_ok,Sem.run_pure,Ke]
           . refine Nx.I1 (λx z=>Dy x (z.imp (λh=>h.elim id False.elim) id)) λx z=> ?_;obtain⟨t,ht⟩:=Dy x (.inr z);exact(h.ok t).lt x ht
         . cases f
       . cases f
     . cases f
   . cases f
 . cases f
theorem Ok.front {v:Value} {k:Nat} {rows:List (List DV)} {F:Nat->Prop} (h:Ok w S (.own v false k rows) F) {n:Nat} (hn:n≤rows.length):
 ∃g c,v= .slice g rows.length c/\rows.length≤c/\(∀q:Nat,g.map (·.add (0*q))=g)/\∃s,Ok w S (.own (.slice g n c) false k (rows.take n)) s/\∀x,s x->F x:=by
 cases h with
 |nil _ _ hF=>simp only[ABA,Nat.le_zero]at hn;subst hn;exact⟨none,0,rfl,AAr _,λ_=>rfl,F,.nil k F hF,λ_ h=>h⟩
 |own _ _ _ b c arr E Fs _ hb hk Dv Ku hv hr hd Bb Jf hF=>
  simp only[AAQ,AAY]at Dv;have f:(rows.take n).length=n:=by simp;omega
  have e:∀i (a:List DV),(rows.take n)[i]? =some a->rows[i]? =some a/\i<n:=by
   intro i a hi;rw[ABH]at hi;split at hi
   . exact⟨hi,by assumption⟩
   . cases hi
  have key:Ok w S (.own (I9 false b (rows.take n).length c) false k (rows.take n)) (λx=>x=b∨∃i j,(i<n/\Fs i j x)):=by
   refine .own false k _ b c arr E (λi j x=>i<n/\Fs i j x) _ hb (λa t=>hk a (ABa t)) (by simp only[AAQ,AAY];omega) Ku ?_ ?_ (λi j y z x o p=>hd i j y z x o.2 p.2) ?_ (λi j h=>Jf i j h.2) (λx=>ABb)
   . exactλi j a d hi r=>hv i j a d (e i a hi).1 r
   . intro i j a d hi r;obtain⟨l,m⟩:=e i a hi;have:(λx=>i<n/\Fs i j x)=Fs i j:=funext λx=>propext ⟨λh=>h.2,λh=>⟨m,h⟩⟩;rw[this];exact hr i j a d l r
   . rintro i j x ⟨o,p⟩;obtain⟨a,d,l,m⟩:=Bb i j x p;exact⟨a,d,by rw[ABH,AAP o];exact l,m⟩
  refine⟨some ⟨b,0,none⟩,c,by simp[I9],Dv.2,λq=>by simp[Addr.add],λx=>x=b∨∃i j,(i<n/\Fs i j x),?_,λx u=>(hF x).2 (u.elim .inl λ⟨i,j,h⟩=>.inr ⟨i,j,h.2⟩)⟩;rw[f]at key;simpa[I9]using key
theorem tT (h:St G w S δ Fr) {a:Act} (i:Rd δ a) {o:Oper} {t e:TypeId} {x:Operand} {lo hi mx:ABh Operand} {k:Nat} {y:Ar} {lo' hi' N:ABh Ar} {d:Dw} (hd:Ip G a o (some d)) (ho:o.op= .slice t x lo hi mx)
 (hu:P.underlying t=some (.slice e)) (hk:GD P e=some k) (hc:CH x y=true) (Xx:Qn lo lo'=true) (LC:Qn hi hi'=true) (U:Qn mx N=true) (u:mx=none∨hi≠none) {σ':Sg}
 (b:F6 G (.vV k false y lo' hi' N) (some d) (λs=>(δ s).er)=some σ'):Pw P G w S Fr a o σ':=by
 obtain⟨hy,L⟩:=Ah hc i;have hmh':mx.map a.eval≠none->hi.map a.eval≠none:=by
  intro O Q;rcases u with R|R
  . simp[R]at O
  . simp at Q;exact R Q
 by_cases C:∃ee k' rows pl,Abs.hd (λs=>(δ s).er) y=some (.sl ee k' rows,pl)
 . refine fC h i hd ho hu hk hc Xx LC U u ?_;obtain⟨ee,k',rows,pl,q⟩:=C;simp only[F6,q]at b ⊢;exact b
 simp only[F6]at b;split at b
 . rename_i q;exact absurd ⟨_,_,_,_,q⟩ C
 . rename_i k' rows r p q;split at b
   . rename_i l f X V;split at b
     . rename_i rs m AAA hm;split at b
       . rename_i Ew;obtain⟨rfl,hmeq⟩:=Ew;obtain⟨O,Q,rfl⟩:=NJ AAA;rw[AAO (by simp)]at b;split at b
         . rename_i W;obtain⟨rfl,hmx⟩:=W;split at b
           . rename_i nn τ ht;obtain⟨δ1,F1,D,Ff,CF,Iu,DU,YA,E4,⟨v,bx,H,J,rfl⟩,Bv,C4,Dy,_⟩:=h.aT ht;subst Iu;obtain⟨I,F,QZ,_,Tl⟩:=(h.nV hy q).1 _ _ _ rfl;have M:=Tl r p rfl;rw[Bv]at M;simp only[AAG,DV.own.injEq]at M;obtain⟨rfl,rfl,rfl,rfl⟩:=M;have bJ:J.length=rows.length:=(by rw[← QZ];simp);obtain⟨g,c,hv,QY,j,F',B,gF⟩:=YA.front (n:=f) (by omega);rw[hv]at L;have Z:N=none:=(by simpa using hmx);subst Z;have z:mx=none:=(by cases mx<;>simp_all [Qn]);subst z;obtain⟨b1,_⟩:=h.bd i Xx X;obtain⟨b2,_⟩:=h.bd i LC V;rw[bJ]at L;have K:=aH (P:=P) hu hk b1 b2 (mx:=none) (cap:=c) (m:=c) (.inl ⟨rfl,rfl⟩) (by simp) O (by omega) (AAr _) g w;have T:(if c=0 then g else g.map (·.add (0*H)))=g:=by
              split
              . rfl
              . exact j H
             rw[T,Nat.sub_zero,Nat.sub_zero]at K;have LZ:(DV.own (.slice g f c) false H (J.take f)).er= .own false H ((rows.drop 0).take (f-0)):=(by simp[← QZ,ABX]);refine Je (D:=.own (.slice g f c) false H (J.take f)) (Ff:=F') CF (λs=>(i s).trans (DU s).symm) hd ?_ (λ_ _=>rfl) (λ_ _ _=>rfl) (λ_ h=>h) (λs x E=>(CF.ok s).Ek x E)
              B (λs x E Kc=>C4 s x E (gF x Kc)) (.own _ _ _ _) (by rw[LZ];exact b) (Nx.less λx E=>Dy x (E.imp id (gF x)))
             simp only[execOp,ho,L,Option.map_none,Sem.run_bind,Option.map_none]at K ⊢;simp only[K,Result.andThen_ok,Sem.run_pure,KE]
           . cases b
         . cases b
       . cases b
     . cases b
   . cases b
 . cases b
end Go.Abs
namespace Go.Abs
variable {w w':World} {S S':Nat->Prop} {G:Gi} {δ:Nat->DV} {Fr:Nat->Nat->Prop} {P:Program}
theorem putD_sub {t h new:DV} (p:List Step) {v:Value} {bx:Bool} {k i j:Nat} {rows:List (List DV)} {f:List DV} {g:DV} (e:Ao t p=some (.own v bx k rows)) (l:rows[i]? =some f) (m:f[j]? =some g) (d:DW t (p++[(i,j,k)]) new=some h):
 Ao h p=some (.own v bx k (rows.set i (f.set j new))):=by
 induction p generalizing t h with
 |nil=>simp only[Ao,AAG]at e;subst e;simp only[ABB,DW,l,m,AAG]at d;subst d;rfl
 |cons s p ih=>
  obtain⟨i0,j0,n⟩:=s;cases t with
  |lf a v=>simp[Ao]at e
  |own hh b k1 JF=>
   simp only[Ao]at e;simp only[AAz,DW]at d;cases hi:JF[i0]? with
   |none=>simp[hi]at e
   |some row1=>
    simp only[hi]at e d;cases hj:row1[j0]? with
    |none=>simp[hj]at e
    |some c=>
     simp only[hj]at e d;cases hc:DW c (p++[(i,j,k)]) new with
     |none=>simp[hc]at d
     |some c'=>simp only[hc,AAG]at d;subst d;simp only[Ao,AAK (AAI.1 hi).1,AAK (AAI.1 hj).1];exact ih e hc
  |agg cs=>
   simp only[Ao]at e;simp only[AAz,DW]at d;cases hj:cs[j0]? with
   |none=>simp[hj]at e
   |some c=>
    simp only[hj]at e d;cases hc:DW c (p++[(i,j,k)]) new with
    |none=>simp[hc]at d
    |some c'=>simp only[hc,AAG]at d;subst d;simp only[Ao,AAK (AAI.1 hj).1];exact ih e hc
  |BT cs=>
   simp only[Ao]at e;simp only[AAz,DW]at d;cases hj:cs[j0]? with
   |none=>simp[hj]at e
   |some c=>
    simp only[hj]at e d;cases hc:DW c (p++[(i,j,k)]) new with
    |none=>simp[hc]at d
    |some c'=>simp only[hc,AAG]at d;subst d;simp only[Ao,AAK (AAI.1 hj).1];exact ih e hc
theorem PM {b off:Nat} {v u:Value} {arr:Array Value} {E:TypeId} (a:w.heap[b]? =some (.cells arr E (0,0))) (f:arr[off]? =some u) (e:Fl v=true):(store ⟨b,off,none⟩ v).run P w= .ok () (w.setCell ⟨b,off,none⟩ v):=by
 have c:w.cell? ⟨b,off,none⟩=some u:=by simp[World.cell?,a,f]
 have d:w.frozen? ⟨b,off,none⟩=false:=by simp[World.frozen?,a]
 cases v<;>first
  |simp[Fl]at e;done
  |simp[store,Sem.run,c,d]
theorem O2 {v:Value} {bx:Bool} {k:Nat} {rows:List (List DV)} {F:Nat->Prop} {b:Nat} (h:Ok w S (.own v bx k rows) F) (a:Ry v=some b):F b/\∃arr E,w.heap[b]? =some (.cells arr E (0,0))/\∀(i j:Nat) row d,rows[i]? =some row->row[j]? =some d->arr[i*k+j]? =some d.A0:=by
 cases h with
 |nil=>simp[Ry]at a
 |own _ _ _ b' c arr E Fs _ nS hk Dv Ku hv hr hd Bb Jf hF=>simp only[WX,AAG]at a;subst a;exact⟨(hF b').2 (.inl rfl),arr,E,nS,hv⟩
theorem cQ {L:List Nat} {a:AV} (h:FB a=true):FM L a=true:=by cases a<;>first| (simp;done)| (simp[FB]at h;done)
theorem ZL (ds:List DV):∀{w:World} {t:DV} {F Fd:Nat->Prop} {p:List Step} {v:Value} {bx:Bool} {k i j b:Nat} {rows:List (List DV)} {c:List DV} {U:AV},Ok w S t F->Ao t p=some (.own v bx k rows)->Ry v=some b->rows[i]? =some c->j+ds.length≤c.length->
 JH w S ds Fd->(∀x,Fd x->¬F x)->(ds.map DV.er).all FB=true->stC p i k j (ds.map DV.er) t.er=some U->∀(m off:Nat),off+m=i*k+j->
 ∃(w':World) (y:DV) (Q:Nat->Prop),(storeCells ⟨b,off,none⟩ (ds.map DV.A0) m).run P w= .ok () w'/\Ok w' S y Q/\y.er=U/\y.A0=t.A0/\(∀x,Q x->F x∨Fd x)/\(∀x,x≠b->w'.heap[x]? =w.heap[x]?)/\F b/\
  w'.os=w.os/\w'.tape=w.tape/\w'.output=w.output/\w'.heap.size=w.heap.size/\(∀δ,DQ δ t->DQ δ y)/\(∀L,FM L t.er=true->FM L y.er=true)/\
  ((((c.map DV.er).drop j).take ds.length).all C3=true->∀q v bx k rows,Ao t q=some (.own v bx k rows)->∃g,Ao y q=some (.own v bx k g)):=by
 induction ds with
 |nil=>intro w t F Fd p v bx k i j b rows c U h C K hi hj Co O D z m off hm;simp only[AAy,stC,AAG]at z;obtain⟨F1,s,J⟩:=h.Ao C;exact⟨w,t,F,by simp[storeCells],h,z,rfl,λx e=>.inl e,λ_ _=>rfl,J b (O2 s K).1,rfl,rfl,rfl,rfl,λ_ h=>h,λ_ h=>h,λ_ q v bx k rows hq=>⟨rows,hq⟩⟩
 |cons d ds ih=>
  intro w t F Fd p v bx k i j b rows c U h C K hi hj Co O D z m off hm;obtain⟨Fa,Fb,hd,JT,W,H⟩:=Co;simp only[AAx]at hj;have N:j<c.length:=by omega
  have f:c[j]? =some c[j]:=AAL N;obtain⟨Fn,Z,hn2⟩:=h.Ao C;obtain⟨QS,arr,E,nS,P1⟩:=O2 Z K;have l:=hn2 b QS;have Ku:¬S b:=h.Ek b l;have Mj:∀x,Fd x->x≠b:=by rintro x e rfl;exact O x e l
  have u:Ok (w.setCell ⟨b,i*k+j,none⟩ d.A0) S d Fa:=by refine hd.mono (λx e=>DA _ _ _ _ _ ?_) (λx e=>DA _ _ _ _ _ (Mj x ((H x).2 (.inl e)))) (λ_ h=>h) hd.Ek;rintro rfl;exact Ku e
  obtain⟨t1,F1,I,dQ,r,JS,_⟩:=h.store p C hi f K u (λx e=>O x ((H x).2 (.inl e)));simp only[AAb,stC]at z;split at z
  . rename_i t'' hpt;have r7:t1.er=t'':=(by obtain⟨t2,T,V⟩:=Gr d h.KU hpt;rw[I]at T;obtain rfl:=AAJ T;exact V);subst r7;have hs1:=putD_sub p C hi f I;have X:(rows.set i (c.set j d))[i]? =some (c.set j d):=AAK (AAI.1 hi).1;simp only[AAb,AA6,AAH]at D;have n:JH (w.setCell ⟨b,i*k+j,none⟩ d.A0) S ds Fb:=(by refine JT.mono (λx e=>DA _ _ _ _ _ ?_) (λx e=>DA _ _ _ _ _ (Mj x ((H x).2 (.inr e)))) (λ_ h=>h) (B0.2 JT).Ek;rintro rfl;exact Ku e);obtain⟨w',y,Q,Cb,Oi,M,QU,KR,We,_,T,V,g3,g4,g5,g6,Qx⟩:=ih (off:=off) (m:=m+1) (j:=j+1) dQ hs1 K X (by simp;omega) n (by
     intro x e hx1;rcases r x hx1 with s|s
     . exact O x ((H x).2 (.inr e)) s
     . exact W x s e) D.2 z (by omega)
    refine⟨w',y,Q,?_,Oi,M,QU.trans JS,?_,?_,l,T,V,g3,by rw[g4];simp,?_,?_,?_⟩
    . have En:=PM (P:=P) (w:=w) (off:=i*k+j) (v:=d.A0) nS (P1 i j c _ hi f) (KH hd D.1);simp only[AAb,storeCells,Sem.run_bind,Addr.add_lit,hm,En,Result.andThen_ok,Cb]
    . intro x e;rcases KR x e with s|s
      . rcases r x s with J|J
        . exact .inl J
        . exact .inr ((H x).2 (.inl J))
      . exact .inr ((H x).2 (.inr s))
    . intro x e;rw[We x e,DA _ _ _ _ _ e]
    . intro δ GG;refine g5 δ (Lv _ I GG ?_);exact Qj (ds:=[d]) (by simpa using D.1) d (by simp)
    . intro L hL;refine g6 L (LO _ I hL ?_);exact cQ D.1
    . intro R q v' bC k' g hq;have B:(c.map DV.er).drop j=(c[j]).er::(c.map DV.er).drop (j+1):=(by rw[ABD (by simpa using N)];simp);rw[B]at R;simp only[AAx,List.take_succ_cons,AA6,AAH]at R;have dK:∃a v,c[j]= .lf a v:=by
       have hl:=(h.KU.Ao C);cases hl with
       |own _ _ _ _ hr=>
        have:=hr i j c _ hi f;have G:=R.1;cases RY:c[j]with
        |lf a v=>exact⟨a,v,rfl⟩
        |own=>rw[RY]at G;simp[C3]at G
        |agg=>rw[RY]at G;simp[C3]at G
        |BT=>rw[RY]at G;simp[C3]at G
      obtain⟨a0,v0,bH⟩:=dK;have o:Ao t (p++[(i,j,k)])=some (.lf a0 v0):=(by rw[Hx,C];simp[Ao,hi,f,bH]);obtain⟨JF,hq1⟩:=Qh _ I o (by simp) (by simp) (by simp) q v' bC k' g hq;refine Qx ?_ q v' bC k' JF hq1;rw[List.map_set,List.drop_set_of_lt (by omega)];exact R.2
  . cases z
theorem oS (h:St G w S δ Fr) {a:Act} (W:Rd δ a) {o:Oper} {t:TypeId} {x u:Operand} {n:Nat} {y z:Ar} (hd:Ip G a o none) (ho:o.op= .store t x u) (hn:GD P t=some n) (hc:CH x y=true) (LC:CH u z=true) {σ':Sg}
 (f:F6 G (.st n y z) none (λs=>(δ s).er)=some σ'):Pw P G w S Fr a o σ':=by
 obtain⟨hy,K1⟩:=Ah hc W;obtain⟨hz,I⟩:=Ah LC W;simp only[F6]at f;split at f
 . rename_i v τ ht;obtain⟨l,B,D,Ff,d,Iu,E4,Qv⟩:=h.tk hz ht;subst Iu;subst E4;split at f
   . rename_i r p i j k Un;cases y with
     |c c=>simp[D9]at Un
     |t s=>
      obtain⟨vh,bx,Ak,b,Fx,Bv,X,hp,Co,_⟩:=d.st.D9 Un;split at f
      . rename_i bC k' rows rU;obtain⟨D',H,zO⟩:=Dj (d.st.ok r).KU rU;rw[Bv]at H;obtain rfl:=AAJ H;simp only[EN,AV.own.injEq]at zO;obtain⟨rfl,rfl,rfl⟩:=zO;split at f
        . rename_i row Du;rw[AAR,AAi]at Du;obtain⟨IL,hrD,rfl⟩:=Du;split at f
          . rename_i Ew;obtain⟨K,O,Z⟩:=Ew;split at f
            . rename_i t' CF;have hm:=K0 D d.ok.KU;have J:(Er D).length=n:=(by rw[← K,← hm];simp);have Ta:=K7 d.ok O;rw[← hm]at CF O;obtain⟨w',F,E,Cb,Oi,q,T,KR,U,R,g1,g2,g3,g4,g5,g6,Qx⟩:=ZL (P:=P) (Er D) (d.st.ok r) Bv X hrD (by rw[J];simpa using Z) (Mf d.ok) (λx g L=>d.LX r x L g) O CF 0 (i*k+j) rfl;have hS:∀x,S x->w'.heap[x]? =w.heap[x]? :=λx g=>U x (by rintro rfl;exact(d.st.ok r).Ek _ R g);have hF:∀s,s≠r->∀x,B s x->w'.heap[x]? =w.heap[x]? :=λs hs x g=>U x (by rintro rfl;exact hs (d.st.LX s r _ g R));have C4:∀s,s≠r->∀x,E x->¬B s x:=by
               intro s hs x g L;rcases KR x g with V|V
               . exact hs (d.st.LX s r x L V)
               . exact d.LX s x L V
              have UL:(execOp a.eval o).run P w= .ok .skip w':=(by have P3:¬((C0 δ z).cells.size≠n):=(by rw[← Qv,Ta];simp[J]);have hpt:C0 δ (.t s)= .pointer (some ⟨b,i*k+j,none⟩):=(by simp only[C0];rw[← d.A0 s];exact hp);have Gu:(C0 δ z).cells.toList=(Er D).map DV.A0:=(by rw[← Qv,Ta]);simp only[execOp,ho,K1,I,hpt,Instr.storeAt,Instr.sureAddr,storeVar,Sem.run_bind,Sem.run_pure,Result.andThen_ok,run_sizeOf hn,Sem.run_ite,P3,AAY,Gu,Cb]);have RZ:∀(C:Nat->DV),(∀s,(C s).A0=(l s).A0)->Rd C (a.put o.dst undef):=(by intro C hδ s;have h0:o.dst=none:=hd;rw[h0];simp only[Act.put];rw[hδ,d.A0];exact W s);have Ec:∀Q:Nat->Nat->Prop,(∀x,BD Q x->BD B x∨Ff x)->Nx w S (BD Fr) w' S (BD Q):=(by intro Q M;refine⟨g1,g2,g3,by omega,?_,λ_ h=>h,λ_ h=>.inl h,λJ b X=>by rw[g4];exact J b X,λx g=>.inl (d.own x (M x g))⟩;intro x _ hU;refine U x ?_;rintro rfl;exact hU (d.own _ (.inl ⟨r,R⟩)));have M:∀x,BD (DP B r E) x->BD B x∨Ff x:=by
               rintro x ⟨s,g⟩;by_cases e:s=r
               . subst e;rw[BG]at g;exact(KR x g).imp (λh=>⟨s,h⟩) id
               . rw[Ba _ _ e]at g;exact .inl ⟨s,g⟩
              have m:DQ l F:=g5 l (d.st.al r);have YC:FM (G.Gc r) F.er=true:=g6 _ (d.st.rt r);split at f
              . rename_i Ho;simp only[AAG]at f;subst f;refine⟨.skip,undef,w',S,DP l r F,DP B r E,UL,.inr ⟨rfl,rfl⟩,RZ _ ?_,?_,d.st.poke r F E hS hF Oi C4 YC m (Qx (by rw[J];exact Ho)) T,Ec _ M⟩
                . intro N;by_cases e:N=r
                  . subst e;rw[BG,T]
                  . rw[Ba _ _ e]
                . funext N;by_cases e:N=r
                  . subst e;simp only[BG,q]
                  . simp only[Ba _ _ e]
              . simp only[AAG]at f;subst f;refine⟨.skip,undef,w',S,DP (Gy G r l) r F,DP B r E,UL,.inr ⟨rfl,rfl⟩,RZ _ ?_,?_,d.st.set r F E hS hF (λ_ h=>h) (λs _ x g=>(d.st.ok s).Ek x g) Oi C4 YC m,Ec _ M⟩
                . intro N;rw[HN d.st];split
                  . rename_i e;rw[e,T]
                  . rfl
                . rw[Hm d.st,q]
            . cases f
          . cases f
        . cases f
      . cases f
   . cases f
 . cases f
end Go.Abs
namespace Go.Abs
variable {w w':World} {S S':Nat->Prop} {G:Gi} {δ:Nat->DV} {Fr:Nat->Nat->Prop} {P:Program}
def Reads (w:World) (v:Value) (n:Nat) (vs:List Value):Prop:=(∃a c,v= .slice a 0 c/\n=0/\vs=[])∨∃b off c,v= .slice (some ⟨b,off,none⟩) n c/\∀(j:Nat) u,vs[j]? =some u->w.cell? ⟨b,off+j,none⟩=some u
theorem Po {size n:Nat} {v:Value} {vs:List Value} (h:Reads w v n vs) (e:vs.length=n*size):(Builtin.firstCells size n v).run P w= .ok vs.toArray w:=by
 rcases h with⟨a,c,rfl,rfl,rfl⟩|⟨b,off,c,rfl,d⟩
 . cases a<;>simp[Builtin.firstCells,loadCells,loadCellsFrom]
 . exact run_firstCells_some (P:=P) w size n ⟨b,off,none⟩ n c vs e (λj u f=>by rw[Addr.add_lit];exact d j u f)
theorem Reads.drew {v:Value} {n:Nat} {vs:List Value} (h:Reads w v n vs):Reads w.drew v n vs:=h
theorem Reads.len {v:Value} {n:Nat} {vs:List Value} (h:Reads w v n vs):∃d c,v= .slice d n c:=by
 rcases h with⟨a,c,rfl,rfl,rfl⟩|⟨b,off,c,rfl,e⟩
 . exact⟨a,c,rfl⟩
 . exact⟨_,c,rfl⟩
theorem TD {t ty e:TypeId} {i:TypeInfo} {z:Value} (r:P.underlying t=some (.slice e)) (hi:P.info? e=some i) (u:i.zero=some z) {base:ABh Addr} {n d m:Nat} {v:Value} {b a:List Value}
 (s:Reads w (.slice base n d) n b) (q:b.length=n*i.size) (k:Reads w v m a) (hn:a.length=m*i.size) (p:d<n+m) (y:(n+m)*i.bytes≤70368744177664) (l:n+m≤9223372036854775807):
 (Builtin.append_ #[t,t] ty #[.slice base n d,v]).run P w= .ok (.slice (some ⟨w.heap.size,0,none⟩) (n+m) (grownCap w (n+m) d e)) (w.drew.alloc (.cells ((b++a).toArray++Builtin.zeroCells z.cells (grownCap w (n+m) d e-(n+m))) e)):=by
 obtain⟨x,c,rfl⟩:=k.len;have j:¬(n+m≤d):=by omega
 have g:¬(9223372036854775807<((n:Int)+(m:Int))):=by omega
 have f:¬(281474976710656<Builtin.nextslicecap (n+m) d*i.bytes):=by have:=growslice_fits (bytes:=i.bytes) p (by omega);omega
 have o:=Po (P:=P) k.drew hn;have h:=Po (P:=P) s.drew q;simp[Builtin.append_,run_underlying r,sizeOf,typeInfo,zeroValue,hi,u,Builtin.lenOf,j,g,f,Question.forced,o,h,newRow,grownCap];congr 2;apply ABS;simp[AA0]
theorem aG {t ty e E:TypeId} {i:TypeInfo} (p:P.underlying t=some (.slice e)) (hi:P.info? e=some i) {g n d m:Nat} {v:Value} {a:List Value} {b:Array Value} (f:w.heap[g]? =some (.cells b E (0,0)))
 (j:Reads w v m a) (hn:a.length=m*i.size) (o:∀u∈a,u.oneCell'=true) (k:n+m≤d) (q:n*i.size+a.length≤b.size):
 (Builtin.append_ #[t,t] ty #[.slice (some ⟨g,0,none⟩) n d,v]).run P w= .ok (.slice (some ⟨g,0,none⟩) (n+m) d) (w.setRow g (b.toList.take (n*i.size)++a++b.toList.drop (n*i.size+a.length)).toArray):=by
 obtain⟨r,c,rfl⟩:=j.len;have l:=Po (P:=P) j hn;have h:=run_storeCells_at P g (n*i.size) E a 0 b w f (by simpa using q) o;simp only[Nat.add_zero]at h;simp[Builtin.append_,run_underlying p,sizeOf,typeInfo,hi,Builtin.lenOf,k,l,Addr.add_lit,h]
theorem s8 {v:Value} (h:Fl v=true):v.oneCell'=true:=by cases v<;>simp_all [Fl,Value.oneCell']
theorem Qt {x:Bool} {k:Nat} {rows:List (List AV)} {v:Value} (h:Fz w S (.sl x k rows) v):
 ∃ds:List (List DV),ds.map (·.map DV.er)=rows.map (·.map I3)/\(∀r∈ds,r.length=k)/\JH w S ds.flatten (λ_=>False)/\Reads w v ds.length (ds.flatten.map DV.A0)/\ds.length=rows.length:=by
 cases h with
 |nil x k a c hx=>exact⟨[],by simp,by simp,λ_ h=>h,.inl ⟨a,c,rfl,rfl,rfl⟩,rfl⟩
 |sl x k rows b off c vs hx QY hS hk hc hr=>
  obtain⟨ds,l,p⟩:=Kg rows (λi f (g:List DV)=>g.map DV.er=f.map I3/\g.length=k/\(∀d∈g,Ok w S d (λ_=>False))/\∀(j:Nat) d,g[j]? =some d->w.cell? ⟨b,off+(i*k+j),none⟩=some d.A0) (by
   intro i f hi;obtain⟨y,l,I9⟩:=Kg f (λj a (d:DV)=>d.er=I3 a/\Ok w S d (λ_=>False)/\w.cell? ⟨b,off+(i*k+j),none⟩=some d.A0) (by intro j a o;obtain⟨D,q,E,F,_⟩:=WN (δ:=λ_=>default) (hr i j f a hi o);exact⟨D,q,F,by rw[E];exact hc i j f a hi o⟩);refine⟨y,?_,by rw[l];exact hk f (AAS hi),?_,?_⟩
   . exact map_mk l I9 _ _ (by simp) λj a d e G=>by simp[G,e.1]
   . intro d hd;obtain⟨j,o⟩:=AAj hd;obtain⟨a,_,e⟩:=mem_mk l I9 j d o;exact e.2.1
   . intro j d hd;obtain⟨a,_,e⟩:=mem_mk l I9 j d hd;exact e.2.2)
  have m:∀r∈ds,r.length=k:=by intro r s;obtain⟨i,hi⟩:=AAj s;obtain⟨c,_,e⟩:=mem_mk l p i r hi;exact e.2.1
  refine⟨ds,?_,m,Ca ?_,.inr ⟨b,off,c,by rw[l],?_⟩,l⟩
  . exact map_mk l p _ _ (by simp) λi f y e B=>by simp[B,e.1]
  . intro d hd;rw[List.mem_flatten]at hd;obtain⟨r,s,hd⟩:=hd;obtain⟨i,hi⟩:=AAj s;obtain⟨c,_,e⟩:=mem_mk l p i r hi;exact e.2.2.1 d hd
  . intro n u z;rw[AAR,AAi]at z;obtain⟨d,hd,rfl⟩:=z;have t:n<ds.length*k:=(by rw[← Db m];exact(AAI.1 hd).1);have C:0<k:=(Nat.eq_zero_or_pos k).elim (λh=>by subst h;simp at t) id;have hi:n/k<ds.length:=Nat.div_lt_of_lt_mul (by rw[AA8];exact t);have o:n%k<(ds[n/k]).length:=(by rw[m _ (AAW hi)];exact Nat.mod_lt _ C);have q:=KN m (AAL hi) (AAL o);rw[AA8,ABL,hd]at q;obtain rfl:=AAJ q;obtain⟨c,_,e⟩:=mem_mk l p _ _ (AAL hi)
    have:=e.2.2.2 _ _ (AAL o);rw[show n/k*k+n%k=n from by rw[AA8];exact ABL n k]at this;exact this
theorem Ts {rows:List (List AV)} (h:rows.all (·.all G9)=true):rows.map (·.map I3)=rows:=by
 rw[AAN]at h
 conv=>rhs;rw[← List.map_id rows]
 apply ABf;intro r d;have b:=h r d;rw[AAN]at b
 conv=>rhs;rw[id,← List.map_id r]
 apply ABf;intro a c
 have:=b a c;cases a<;>simp_all [G9,I3]
theorem Q7 {ds:List (List DV)} {F:Nat->Prop} (h:JH w S ds.flatten F) (a:(ds.map (·.map DV.er)).all (·.all FB)=true):∀d∈ds.flatten,Fl d.A0=true:=by
 intro d hd;obtain⟨e,b,_,_,_⟩:=JM.1 h;obtain⟨n,hn⟩:=AAj hd;refine KH (b n d hn) ?_;rw[List.mem_flatten]at hd;obtain⟨r,c,hd⟩:=hd;rw[AAN]at a
 have:=a (r.map DV.er) (ABK c);rw[AAN]at this;exact this d.er (ABK hd)
theorem Sh {rows:List (List AV)} (h:rows.all (·.all G9)=true):rows.all (·.all FB)=true:=by
 rw[AAN]at h ⊢;intro r c
 have:=h r c;rw[AAN]at this ⊢;intro a b
 have:=this a b;cases a<;>simp_all [G9,FB]
theorem ZG {v:Value} {k:Nat} {rows:List (List DV)} {F:Nat->Prop} (h:Ok w S (.own v false k rows) F):Reads w v rows.length (rows.flatten.map DV.A0)/\(∀r∈rows,r.length=k)/\∃a,JH w S rows.flatten a/\∀x,a x->F x:=by
 rcases ZF h with⟨rfl,_,rfl,e⟩|⟨b,c,arr,E,a,rfl,j,l,o,q,g,p,e,i⟩
 . exact⟨.inl ⟨none,0,rfl,rfl,rfl⟩,by simp,λ_=>False,λ_ h=>h,λ_ h=>h.elim⟩
 . refine⟨.inr ⟨b,0,c,by simp[I9],?_⟩,l,a,g,λx m=>(e x).2 (.inr m)⟩;intro n u f;rw[AAR,AAi]at f;obtain⟨d,hd,rfl⟩:=f;simp[World.cell?,j,i n d hd]
theorem St.V0 (h:St G w S δ Fr) {y:Ar} {k:Nat} {M:List (List AV)} {τ:Sg} (hy:Vm y) (a:Abs.V0 G k y (λs=>(δ s).er)=some (M,τ)):
 ∃(S1:Nat->Prop) (g:Nat->DV) (m:Nat->Nat->Prop) (j:List (List DV)) (z:Nat->Prop),St G w S1 g m/\(λs=>(g s).er)=τ/\(∀s,(g s).A0=(δ s).A0)/\j.map (·.map DV.er)=M/\(∀r∈j,r.length=k)/\
  JH w S1 j.flatten z/\Reads w (C0 δ y) j.length (j.flatten.map DV.A0)/\(∀d∈j.flatten,Fl d.A0=true)/\(∀s x,m s x->¬z x)/\Nx w S (BD Fr) w S1 (λx=>BD m x∨z x):=by
 cases y with
 |c c=>
  simp only[Abs.V0]at a;split at a
  . rename_i kk;simp only[AAG,AAU]at a;obtain⟨rfl,rfl⟩:=a;exact⟨S,δ,Fr,[],λ_=>False,h,rfl,λ_=>rfl,rfl,by simp,λ_ h=>h,.inl ⟨none,0,by simp[C0,IZ],rfl,rfl⟩,by simp,λ_ _ _ h=>h,Nx.less λx f=>f.elim id False.elim⟩
  . cases a
 |t s=>
  simp only[Abs.V0]at a;cases hs:(δ s).er with
  |own b K rows=>
   cases b with
   |true=>simp[hs]at a
   |false=>
    simp only[hs]at a;split at a
    . rename_i l;obtain⟨rfl,N⟩:=l;simp only[AAG,AAU]at a;obtain⟨rfl,rfl⟩:=a;obtain⟨F,hd,J⟩:=h.W0 hs;have H:=h.ok s;rw[hd]at H;obtain⟨V,hk,Q,L,q⟩:=ZG H;refine⟨S,_,_,F,Q,h.empty s,by rw[Hm h];simp,?_,J,hk,L,V,Q7 L (by rw[J];exact N),?_,Nx.less ?_⟩
      . intro t;rw[HN h];split
        . rename_i e;rw[e];simp
        . rfl
      . intro t x f C;by_cases e:t=s
        . subst e;rw[BG]at f;exact f
        . rw[Ba _ _ e]at f;exact e (h.LX t s x f (q x C))
      . rintro x (⟨t,f⟩|f)
        . by_cases e:t=s
          . subst e;rw[BG]at f;exact f.elim
          . rw[Ba _ _ e]at f;exact⟨t,f⟩
        . exact⟨s,q x f⟩
    . cases a
  |sl W K rows=>
   simp only[hs]at a;split at a
   . rename_i l;obtain⟨rfl,n⟩:=l;simp only[AAG,AAU]at a;obtain⟨rfl,rfl⟩:=a;obtain⟨ds,i,B,o,u,X⟩:=Qt (h.leaf hs rfl).2.1;rw[Ts n]at i;exact⟨S,δ,Fr,ds,λ_=>False,h,rfl,λ_=>rfl,i,B,o,u,Q7 o (by rw[i];exact Sh n),λ_ _ _ h=>h,Nx.less λx f=>f.elim id False.elim⟩
   . cases a
  |al r p=>
   simp only[hs]at a;split at a
   . rename_i W K rows τ' U;split at a
     . rename_i l;obtain⟨rfl,n⟩:=l;simp only[AAG,AAU]at a;obtain⟨rfl,rfl⟩:=a;obtain⟨g,m,Fo,v,bx,kk,F,O,T,P,q,C,Z,C4,I,_⟩:=h.Pz U;obtain⟨_,_,R⟩:=h.leaf hs rfl;obtain⟨bC,k2,E,D⟩:=R;rw[q]at D;simp only[AAG,DV.own.injEq]at D;obtain⟨ds,i,B,o,u,X⟩:=Qt C;rw[Ts n]at i;refine⟨_,g,m,ds,λ_=>False,O,T,P,i,B,o,by rw[D.1]at u;exact u,Q7 o (by rw[i];exact Sh n),λ_ _ _ h=>h,Nx.I1 ?_ ?_⟩
       . intro x f;exact I x (f.imp (λh=>h.elim id False.elim) id)
       . intro x f;obtain⟨t,ht⟩:=I x (.inr f);exact(h.ok t).lt x ht
     . cases a
   . cases a
  |_=>simp[hs]at a
theorem St.Uj (h:St G w S δ Fr) {x:Ar} {k:Nat} {n:AV} {τ:Sg} (d:Vm x) (a:Abs.Uj G k x (λs=>(δ s).er)=some (n,τ)):
 (∃rows,n= .own false k rows/\∃(f:Nat->DV) (i:Nat->Nat->Prop) (g:List (List DV)) (Ff:Nat->Prop),St G w S f i/\(λs=>(f s).er)=τ/\(∀s,(f s).A0=(δ s).A0)/\g.map (·.map DV.er)=rows/\Ok w S (.own (C0 δ x) false k g) Ff/\
  (∀s x,i s x->¬Ff x)/\(∀x,BD i x∨Ff x->BD Fr x))∨
 (∃rows,n= .sl true k rows/\τ=(λs=>(δ s).er)/\rows.all (·.all G9)=true/\Fz w S (.sl true k rows) (C0 δ x)):=by
 cases x with
 |c c=>
  simp only[Abs.Uj]at a;split at a
  . rename_i O;simp only[AAG,AAU]at a;obtain⟨rfl,rfl⟩:=a;exact .inl ⟨[],rfl,δ,Fr,[],λ_=>False,h,rfl,λ_=>rfl,rfl,by simpa[C0,IZ]using Ok.nil k _ (λ_ h=>h),λ_ _ _ h=>h,λx d=>d.elim id False.elim⟩
  . cases a
 |t s=>
  simp only[Abs.Uj]at a;cases hs:(δ s).er with
  |own b y rows=>
   cases b with
   |true=>simp[hs]at a
   |false=>
    simp only[hs]at a;split at a
    . rename_i j;subst j;simp only[AAG,AAU]at a;obtain⟨rfl,rfl⟩:=a;obtain⟨g,hd,m⟩:=h.W0 hs;have q:=h.ok s;rw[hd]at q;refine .inl ⟨rows,rfl,_,_,g,Fr s,h.empty s,by rw[Hm h];simp,?_,m,by simpa[C0]using q,?_,?_⟩
      . intro t;rw[HN h];split
        . rename_i e;rw[e];simp
        . rfl
      . intro t x d M;by_cases e:t=s
        . subst e;rw[BG]at d;exact d
        . rw[Ba _ _ e]at d;exact e (h.LX t s x d M)
      . rintro x (⟨t,d⟩|d)
        . by_cases e:t=s
          . subst e;rw[BG]at d;exact d.elim
          . rw[Ba _ _ e]at d;exact⟨t,d⟩
        . exact⟨s,d⟩
    . cases a
  |sl ee y rows=>
   cases ee with
   |false=>simp[hs]at a
   |true=>
    simp only[hs]at a;split at a
    . rename_i H;obtain⟨rfl,K⟩:=H;simp only[AAG,AAU]at a;obtain⟨rfl,rfl⟩:=a;exact .inr ⟨rows,rfl,rfl,K,(h.leaf hs rfl).2.1⟩
    . cases a
  |al r p=>
   simp only[hs]at a;split at a
   . rename_i y rows P N;split at a
     . rename_i j;subst j;simp only[AAG,AAU]at a;obtain⟨rfl,rfl⟩:=a;obtain⟨f,i,D,Ff,C,J,E,L,u,⟨v,bx,O,g,rfl⟩,z,B,F,_,_⟩:=h.aT N;simp only[EN,AV.own.injEq]at u;obtain⟨rfl,rfl,m⟩:=u;obtain⟨_,_,I⟩:=h.leaf hs rfl;obtain⟨Q,R,o,l⟩:=I;rw[z]at l;simp only[AAG,DV.own.injEq]at l;exact .inl ⟨rows,rfl,f,i,g,Ff,C,J,E,m,by rw[show C0 δ (.t s)=v from l.1.symm];exact L,B,F⟩
     . cases a
   . cases a
  |_=>simp[hs]at a
end Go.Abs
namespace Go.Abs
variable {w w':World} {S S':Nat->Prop} {G:Gi} {δ:Nat->DV} {Fr:Nat->Nat->Prop} {P:Program}
theorem Xb {S1:Nat->Prop} {U1:Nat->Prop} {i:Nat->DV} {q:Nat->Nat->Prop} {a:Act} {o:Oper} {d:Dw} {σ':Sg} {k c:Nat} {rows:List (List DV)} {Fd:Nat->Prop} {arr:Array Value} {E:TypeId} (h:St G w S1 i q) (p:∀b,S1 b->b<w.heap.size) (K:Rd i a)
 (hd:Ip G a o (some d)) (N:(execOp a.eval o).run P w= .ok (.value (.slice (some ⟨w.heap.size,0,none⟩) rows.length c)) w') (l:w'.heap=w.heap.push (.cells arr E)) (t:w'.os=w.os) (y:w'.tape=w.tape) (u:w'.output=w.output)
 (m:JH w S1 rows.flatten Fd) (F:∀s x,q s x->¬Fd x) (L:∀z∈rows,z.length=k)
 (H:c*k=arr.size/\rows.length≤c) (O:∀(n:Nat) d,rows.flatten[n]? =some d->arr[n]? =some d.A0)
 (I:wr d (.own false k (rows.map (·.map DV.er))) (λs=>(i s).er)=some σ') (C:∀x,BD q x∨Fd x->U1 x) (j:Nx w S (BD Fr) w S1 U1):Pw P G w S Fr a o σ':=by
 have B:=(B0.2 m).lt;have r:=(B0.2 m).Ek;have e:∀b,b<w.heap.size->w'.heap[b]? =w.heap[b]? :=λb f=>by rw[l,Array.getElem?_push,AAO (by omega)]
 have Q:w'.heap[w.heap.size]? =some (.cells arr E (0,0)):=by rw[l];simp
 have J:Ok w' S1 (.own (I9 false w.heap.size rows.length c) false k rows) (λx=>x=w.heap.size∨Fd x):=by refine lQ Q L (by simpa using H) (λv=>by have:=p _ v;omega) ?_ (λv=>by have:=B _ v;omega) O;exact m.mono (λb f=>e b (p b f)) (λb f=>e b (B b f)) (λ_ h=>h) r
 refine Je (D:=.own (I9 false w.heap.size rows.length c) false k rows) h K hd (by simpa[I9]using N) (λb f=>e b (p b f)) (λs x g=>e x ((h.ok s).lt x g)) (λ_ h=>h) (λs x g=>(h.ok s).Ek x g) J ?_ (.own _ _ _ _) (by simpa using I) ?_
 . rintro s x g (rfl|hf)
   . have:=(h.ok s).lt _ g;omega
   . exact F s x g hf
 . refine j.trans ⟨t,y,u,by rw[l];simp,λb f _=>e b f,λ_ h=>h,λ_ h=>.inl h,λM b f=>by rw[l];have:=M b f;simp;omega,?_⟩;rintro x (g|rfl|g)
   . exact .inl (C x (.inl g))
   . exact .inr (AAr _)
   . exact .inl (C x (.inr g))
theorem TE {t ty e:TypeId} {i:TypeInfo} (f:P.underlying t=some (.slice e)) (hi:P.info? e=some i) {base:ABh Addr} {n c:Nat} (a:n≤c) {v:Value} (b:Reads w v 0 []):
 (Builtin.append_ #[t,t] ty #[.slice base n c,v]).run P w= .ok (.slice base n c) w:=by
 obtain⟨g,c',rfl⟩:=b.len;have d:=Po (P:=P) (size:=i.size) b (by simp);cases base<;>simp[Builtin.append_,run_underlying f,sizeOf,typeInfo,hi,Builtin.lenOf,d,a,storeCells]
theorem WR {z:Value} {k n m cap:Nat} {a b:List Value} (e:z.cells.size=k) (c:a.length=n*k) (d:b.length=m*k) (f:n+m≤cap):cap*k=((a++b).toArray++Builtin.zeroCells z.cells (cap-(n+m))).size:=by simp only[Array.size_append,ABe,AAu,size_zeroCells,c,d,e,← Nat.add_mul];congr 1;omega
theorem fz_weak {x:Bool} {k:Nat} {rows:List (List AV)} {v:Value} (h:Fz w S (.sl x k rows) v):Fz w S (.sl false k rows) v:=by
 cases h with
 |nil _ _ a c _=>exact .nil _ _ _ _ (λh=>nomatch h)
 |sl _ _ _ b off c vs _ QY hS hk hc hr=>exact .sl _ _ _ _ _ _ _ (λh=>nomatch h) QY hS hk hc hr
theorem runs_app (h:St G w S δ Fr) (Cy:∀b,S b->b<w.heap.size) {a:Act} (ha:Rd δ a) {o:Oper} {c:Call} {u v:Operand} {t e:TypeId} {i:TypeInfo} {z:Value} {k bytes:Nat} {x y:Ar} {d:Dw} (hd:Ip G a o (some d)) (ho:o.op= .call c) (Kv:c.callee= .builtin .append) (FW:c.args= #[u,v]) (hty:c.argTypes= #[t,t])
 (hu:P.underlying t=some (.slice e)) (hi:P.info? e=some i) (P3:i.size=k) (hby:i.bytes=bytes) (rQ:0<bytes) (hz:i.zero=some z) (hzk:z.cells.size=k) (hc:CH u x=true) (LC:CH v y=true) {σ':Sg}
 (m:F6 G (.app k bytes x y) (some d) (λs=>(δ s).er)=some σ'):Pw P G w S Fr a o σ':=by
 obtain⟨g,K1⟩:=Ah hc ha;obtain⟨hy,hev2⟩:=Ah LC ha;subst P3;subst hby;have UL:∀r w',(Builtin.append_ #[t,t] o.type #[C0 δ x,C0 δ y]).run P w= .ok r w'->(execOp a.eval o).run P w= .ok (.value r) w':=by intro r w' hr;simp only[execOp,ho,resolve,Kv,FW,hty,invoke,builtin,Sem.run_bind,Sem.run_pure,Result.andThen_ok,List.map_toArray,AAb,AAy,K1,hev2,hr]
 simp only[F6]at m;split at m
 . rename_i ys τ hY;obtain⟨S1,δ1,F1,j,T,En,WZ,JS,H,X,hyok,N,hypl,M,rW⟩:=h.V0 hy hY;subst WZ;have K:=rW.lt Cy;have hav:C0 δ1 x=C0 δ x:=(by cases x<;>simp[C0,JS]);have C:j.length=ys.length:=(by rw[← H];simp);split at m
   . -- a node
     rename_i b' k' rows τ' hX;split at m
     . rename_i Oj;rcases En.Uj g hX with⟨KX,hn,δ2,F2,f,Ff,Jg,Qw,Lm,hrm,Co,Ln,Z⟩|⟨_,hn,_⟩
       . simp only[AV.own.injEq]at hn;obtain⟨rfl,rfl,rfl⟩:=hn;subst Qw;have bJ:f.length=rows.length:=(by rw[← hrm];simp);have ha2:Rd δ2 a:=λs=>(ha s).trans ((Lm s).trans (JS s)).symm;simp only[Ap,AAZ]at Oj;rw[← bJ,← C]at Oj;have h63:f.length+j.length≤9223372036854775807:=(by have:=Nat.le_mul_of_pos_right (f.length+j.length) rQ;omega);rw[hav]at Co;obtain⟨hxr,hxk,Fc',hxok',KR⟩:=ZG Co;have L:(f.flatten.map DV.A0).length=f.length*i.size:=(by rw[AAn,Db hxk]);have B:(j.flatten.map DV.A0).length=j.length*i.size:=(by rw[AAn,Db X]);have V:∀x,BD F2 x∨Ff x->¬T x:=(by intro x g hfy;obtain⟨s,hs⟩:=Z x g;exact M s x hs hfy);have oA:(f++j).map (·.map DV.er)=rows++ys:=(by rw[AAv,hrm,H]);have hkk:∀r∈f++j,r.length=i.size:=by
          intro r hr;rcases AAa.1 hr with l|l
          . exact hxk r l
          . exact X r l
         have hU:Nx w S (BD Fr) w S1 (λx=>BD F1 x∨T x):=rW;have Ho:∀R,(∀x,R x->Ff x)->JH w S1 f.flatten R->JH w S1 (f++j).flatten (λx=>R x∨T x):=(by intro R Bv rX;rw[List.flatten_append];exact K3 rX hyok (λx g=>V x (.inr (Bv x g))));have grow:∀(base:ABh Addr) (n ON:Nat),C0 δ x= .slice base n ON->n=f.length->ON<f.length+j.length->Pw P G w S Fr a o σ':=by
          intro base n ON F hn Q;subst hn;rw[F]at hxr;have J:=TD (P:=P) (ty:=o.type) hu hi hz hxr L N B Q Oj h63;have bB:=grownCap_ge w (f.length+j.length) ON e;obtain⟨W1,O⟩:∃W1,W1=w.drew.alloc (.cells ((f.flatten.map DV.A0++j.flatten.map DV.A0).toArray++Builtin.zeroCells z.cells (grownCap w (f.length+j.length) ON e-(f.length+j.length))) e):=⟨_,rfl⟩;rw[← O]at J;refine Xb (w':=W1) (Fr:=Fr) (U1:=λx=>BD F1 x∨T x) (rows:=f++j) (Fd:=λx=>Fc' x∨T x) (arr:=(f.flatten.map DV.A0++j.flatten.map DV.A0).toArray++Builtin.zeroCells z.cells (grownCap w (f.length+j.length) ON e-(f.length+j.length))) (E:=e) Jg K ha2 hd
           (by rw[AAu];exact UL _ _ (by rw[F];exact J)) (by rw[O];rfl) (by rw[O];rfl) (by rw[O];rfl) (by rw[O];rfl) (Ho Fc' KR hxok') ?_ hkk ⟨WR hzk L B bB,by simpa using bB⟩ ?_ (by rw[oA];exact m) ?_ hU
          . rintro s x g (l|l)
            . exact Ln s x g (KR x l)
            . exact V x (.inl ⟨s,g⟩) l
          . intro n d hn;rw[List.flatten_append]at hn;have Q:n<(f.flatten++j.flatten).length:=(AAI.1 hn).1;rw[Array.getElem?_append_left (by rw[ABe,AAu,AAn,AAn,← AAu];exact Q),List.getElem?_toArray,← AAv,AAR,hn];rfl
          . rintro x (g|l|l)
            . exact .inl (Z x (.inl g))
            . exact .inl (Z x (.inr (KR x l)))
            . exact .inr l
         rcases ZF Co with⟨F,_,hr0,hF0⟩|⟨b,cc,arr,E,R,F,hb,hk,Dv,hS,rX,Jf,hF,P1⟩
         . subst hr0;by_cases hm:j.length=0
           . have hy0:j=[]:=List.eq_nil_of_length_eq_zero hm;subst hy0;have J:=TE (P:=P) (w:=w) (ty:=o.type) hu hi (base:=none) (n:=0) (c:=0) (AAr 0) (by simpa using N);have hys:ys=[]:=(by rw[← H];rfl);have rZ:rows=[]:=(by rw[← hrm];rfl);subst hys;subst rZ;refine Je (D:=.own (.slice none 0 0) false i.size []) (Ff:=λ_=>False) Jg ha2 hd (by simpa using UL _ _ (by rw[F];exact J)) (λ_ _=>rfl) (λ_ _ _=>rfl) (λ_ h=>h) (λs x g=>(Jg.ok s).Ek x g) (.nil _ _ (λ_ h=>h)) (λ_ _ _ h=>h) (.own _ _ _ _) (by simpa using m) ?_;exact hU.trans (Nx.less λx g=>.inl (Z x (.inl (g.elim id False.elim))))
           . exact grow none 0 0 F rfl (by omega)
         . by_cases rS:f.length+j.length≤cc
           . -- room
             simp only[AAQ,AAY]at Dv;have hsz2:f.length*i.size+(j.flatten.map DV.A0).length≤arr.size:=(by rw[B,← Dv.1,← Nat.add_mul];exact AA1 _ rS);have J:=aG (P:=P) (ty:=o.type) hu hi hb N B (by intro q hq;obtain⟨dd,LZ,rfl⟩:=ABR.1 hq;exact s8 (hypl dd LZ)) rS hsz2;generalize p:w.setRow b (arr.toList.take (f.length*i.size)++j.flatten.map DV.A0++arr.toList.drop (f.length*i.size+(j.flatten.map DV.A0).length)).toArray=w1 at J;have W:w1.heap[b]? =some (.cells (arr.toList.take (f.length*i.size)++j.flatten.map DV.A0++arr.toList.drop (f.length*i.size+(j.flatten.map DV.A0).length)).toArray E (0,0)):=(by rw[← p];exact setRow_heap w b arr _ E _ hb);have Up:∀x,x≠b->w1.heap[x]? =w.heap[x]? :=λx g=>(by rw[← p];exact setRow_other w b x _ g);have zR:Ff b:=(hF b).2 (.inl rfl);have hFc:∀x,R x->Ff x:=λx g=>(hF x).2 (.inr g);have hnb:∀x,R x∨T x->x≠b:=by
              rintro x (l|l) rfl
              . exact Jf l
              . exact V x (.inr zR) l
             have zZ:=Ho R hFc rX;have dN:Ok w1 S1 (.own (I9 false b (f++j).length cc) false i.size (f++j)) (λx=>x=b∨(R x∨T x)):=by
              refine lQ W hkk ?_ hS (zZ.mono (λx g=>Up x (by rintro rfl;exact hS g)) (λx g=>Up x (hnb x g)) (λ_ h=>h) (B0.2 zZ).Ek) (λg=>hnb b g rfl) ?_
              . simp only[AAQ,AAY,ABe,AAu,List.length_take,List.length_drop,Array.length_toList];refine⟨?_,by simpa using rS⟩;rw[Dv.1];omega
              . intro n d hn;rw[List.flatten_append]at hn;have hxl':f.flatten.length=f.length*i.size:=Db hxk;rw[List.getElem?_toArray];have Q:n<(f.flatten++j.flatten).length:=(AAI.1 hn).1;have htl:(arr.toList.take (f.length*i.size)).length=f.flatten.length:=(by have e0:arr.toList.length=arr.size:=Array.length_toList;rw[hxl',List.length_take];exact Nat.min_eq_left (by omega));rw[AAf (by rw[AAu,htl,AAn];simpa using Q)];by_cases Ec:n<f.flatten.length
                . rw[AAf (by omega)]at hn ⊢;rw[ABH,AAP (by omega)]
                  have:=P1 n d hn;simpa using this
                . rw[AAl (by omega)]at hn ⊢;rw[htl,AAR,hn];rfl
             refine Je (D:=.own (I9 false b (f++j).length cc) false i.size (f++j)) (S1:=S1) (S':=S1) Jg ha2 hd (by simpa[I9]using UL _ _ (by rw[F];simpa[I9]using J)) (λx g=>Up x (by rintro rfl;exact hS g))
              (λs x g=>Up x (by rintro rfl;exact Ln s x g zR)) (λ_ h=>h) (λs x g=>(Jg.ok s).Ek x g) dN ?_ (.own _ _ _ _) (by rw[EN,oA];exact m) ?_
             . rintro s x g (rfl|l|l)
               . exact Ln s x g zR
               . exact Ln s x g (hFc x l)
               . exact V x (.inl ⟨s,g⟩) l
             . refine hU.trans ⟨by rw[← p];rfl,by rw[← p];rfl,by rw[← p];rfl,by rw[← p];simp[World.setRow],?_,λ_ h=>h,λ_ h=>.inl h,λhl q hq=>by have:=hl q hq;rw[← p];simpa[World.setRow]using this,?_⟩
               . intro x _ hUx;refine Up x ?_;rintro rfl;exact hUx (.inl (Z x (.inr zR)))
               . rintro x (g|rfl|l|l)
                 . exact .inl (.inl (Z x (.inl g)))
                 . exact .inl (.inl (Z x (.inr zR)))
                 . exact .inl (.inl (Z x (.inr (hFc x l))))
                 . exact .inl (.inr l)
           . exact grow _ _ cc (by rw[F];rfl) rfl (by omega)
       . cases hn
     . cases m
   . -- a frozen slice without room
     rename_i e0 k0 rows τ' hX;rcases En.Uj g hX with⟨_,hn,_⟩|⟨KX,hn,hτ,Tl,My⟩
     . cases hn
     . simp only[AV.sl.injEq]at hn;obtain⟨rfl,rfl,rfl⟩:=hn;subst hτ;rw[hav]at My;have QT:Rd δ1 a:=λs=>(ha s).trans (JS s).symm;obtain⟨ad,cap,F⟩:=Oc My;have U:cap=rows.length:=by
        rw[F]at My;cases My with
        |nil _ _ _ _ g=>exact g rfl
        |sl _ _ _ _ _ _ _ g=>exact g rfl
       subst U;split at m
       . -- nothing to append
         rename_i hem;obtain rfl:=List.isEmpty_iff.1 hem;have hy0:j=[]:=List.eq_nil_of_length_eq_zero (by rw[C];rfl);subst hy0;have J:=TE (P:=P) (w:=w) (ty:=o.type) hu hi (base:=ad) (n:=rows.length) (c:=rows.length) (AAr _) (by simpa using N);refine Je (D:=.lf (.sl false i.size rows) (.slice ad rows.length rows.length)) (Ff:=λ_=>False) (S1:=S1) (S':=S1) En QT hd (by simpa using UL _ _ (by rw[F];exact J)) (λ_ _=>rfl) (λ_ _ _=>rfl) (λ_ h=>h) (λs x g=>(En.ok s).Ek x g) (.lf _ _ _ (by rw[← F];exact fz_weak My) (λ_ h=>h)) (λ_ _ _ h=>h) (.lf _ _ trivial) (by rw[El];exact m) ?_;exact rW.trans (Nx.less λx g=>.inl (g.elim id False.elim))
       . rename_i Mj;obtain⟨y0,I,rfl⟩:∃y0 I,ys=y0::I:=by
          cases ys with
          |nil=>exact absurd rfl Mj
          |cons y0 I=>exact⟨y0,I,rfl⟩
         split at m
         . rename_i Oj;simp only[Ap,AAZ]at Oj;obtain⟨f,l,h2,h3,h4,h5⟩:=Qt My;rw[Ts Tl]at l;have hyl1:j.length=(y0::I).length:=C;rw[← h5,← hyl1]at Oj;have h63:f.length+j.length≤9223372036854775807:=(by have:=Nat.le_mul_of_pos_right (f.length+j.length) rQ;omega);have L:(f.flatten.map DV.A0).length=f.length*i.size:=(by rw[AAn,Db h2]);have B:(j.flatten.map DV.A0).length=j.length*i.size:=(by rw[AAn,Db X]);rw[F,← h5]at h4;have Q:f.length<f.length+j.length:=(by rw[hyl1];simp);have J:=TD (P:=P) (ty:=o.type) hu hi hz h4 L N B Q Oj h63;have bB:=grownCap_ge w (f.length+j.length) f.length e;obtain⟨W1,O⟩:∃W1,W1=w.drew.alloc (.cells ((f.flatten.map DV.A0++j.flatten.map DV.A0).toArray++Builtin.zeroCells z.cells (grownCap w (f.length+j.length) f.length e-(f.length+j.length))) e):=⟨_,rfl⟩;rw[← O]at J;have oA:(f++j).map (·.map DV.er)=rows++y0::I:=(by rw[AAv,l,H]);refine Xb (w':=W1) (Fr:=Fr) (U1:=λx=>BD F1 x∨T x) (rows:=f++j) (Fd:=λx=>False∨T x) (arr:=(f.flatten.map DV.A0++j.flatten.map DV.A0).toArray++Builtin.zeroCells z.cells (grownCap w (f.length+j.length) f.length e-(f.length+j.length))) (E:=e) En K QT hd
            (by rw[AAu];exact UL _ _ (by rw[F,← h5];exact J)) (by rw[O];rfl) (by rw[O];rfl) (by rw[O];rfl) (by rw[O];rfl) (by rw[List.flatten_append];exact K3 h3 hyok (λ_ h=>h.elim)) ?_ ?_ ⟨WR hzk L B bB,by simpa using bB⟩ ?_ (by rw[oA];exact m) ?_ rW
           . rintro s x g (l|l)
             . exact l
             . exact M s x g l
           . intro r hr;rcases AAa.1 hr with l|l
             . exact h2 r l
             . exact X r l
           . intro n d hn;rw[List.flatten_append]at hn;have Q:n<(f.flatten++j.flatten).length:=(AAI.1 hn).1;rw[Array.getElem?_append_left (by rw[ABe,AAu,AAn,AAn,← AAu];exact Q),List.getElem?_toArray,← AAv,AAR,hn];rfl
           . rintro x (g|l|l)
             . exact .inl g
             . exact l.elim
             . exact .inr l
         . cases m
   . cases m
 . cases m
end Go.Abs
namespace Go.Abs
variable {w w':World} {S S':Nat->Prop} {G:Gi} {δ:Nat->DV} {Fr:Nat->Nat->Prop} {P:Program}
def placeOf (P:Program) (t:TypeId):Nat->ABh (Nat×Nat):=λi=>match P.underlying t with
 |some (.struct fs)=>match fs[i]? with
  |some f=>match GD P f.type with
   |some n=>some (f.offset,n)
   |none=>none
  |none=>none
 |some (.array _ e)=>match GD P e with
  |some k=>some (i*k,k)
  |none=>none
 |_=>none
def aK (P:Program) (t:TypeId):Bool:=match P.underlying t with
 |some (.struct fs)=>fs.toList.all λf=>(GD P f.type).isSome
 |some (.array _ e)=>(GD P e).isSome
 |_=>false
def aE (zc:Array Value) (n:Nat):List Value:=((Array.range n).map (zc[· %zc.size]!)).toList
def I7 (P:Program):Op->Xu->Bool
 | .move x,.cp y=>CH x y
 | .assign x,.mv y=>CH x y
 | .assign x,.cp y=>CH x y
 | .pick c a b,.pick c' a' b'=>CH c c'&&CH a a'&&CH b b'
 | .alloc t,.bx n (.c z)=>GD P t==some n&&(match(P.info? t).bind (·.zero),IZ z with|some v,some D=>oU v D.A0|_,_=>false)
 | .box t x,.bx n y=>GD P t==some n&&CH x y
 | .build t parts,.TY z ps=>(match(P.info? t).bind (·.zero),WG z with
  |some v,some zd=>TJ v.cells.toList (zd.map DV.A0)&&z.all FB&&aK P t&&LB (placeOf P t) parts.toList ps
  |_,_=>false)
 | .buildSlice t len parts,.NH k z ps=>(match P.underlying t with
  |some (.slice e)=>GD P e==some k&&decide (len*k≤16777216)&&(match(P.info? e).bind (·.zero),qZ z with
   |some v,some zd=>TJ (aE (if len*k=0 then #[]else v.cells) (len*k)) (zd.flatten.map DV.A0)&&z.length==len&&z.all (·.length==k)&&NI k parts.toList ps
   |_,_=>false)
  |_=>false)
 | .load t a,.ld g n b=>GD P t==some n&&I2 P t==some g&&(g||n==1)&&CH a b
 | .store t a x,.st n b y=>GD P t==some n&&CH a b&&CH x y
 | .fieldAddr t x f,.UG off y=>(match P.underlying t with
  |some (.struct fs)=>match fs[f]? with
   |some fd=>fd.offset==off&&(match GD P fd.type with|some n=>n != 0|none=>false)
   |none=>false
  |_=>false)&&CH x y
 | .indexAddr t x i,.Va k y j=>(match P.underlying t with|some (.slice e)=>GD P e==some k|_=>false)&&CH x y&&CH i j
 | .indexAddr t x i,.aad len k y j=>(match P.underlying t with|some (.array n e)=>n==len&&GD P e==some k|_=>false)&&CH x y&&CH i j
 | .makeSlice t x y,.mk k bytes z x' y'=>(match P.underlying t with
  |some (.slice e)=>match P.info? e with
   |some i=>i.size==k&&i.bytes==bytes&&decide (0<bytes)&&decide (0<k)&&z.length==k&&(match i.zero,WG z with|some v,some zd=>TJ v.cells.toList (zd.map DV.A0)|_,_=>false)
   |none=>false
  |_=>false)&&CH x x'&&CH y y'
 | .field t x f,.fld agg off n y=>(match P.underlying t with
  |some (.struct fs)=>match fs[f]? with
   |some fd=>fd.offset==off&&GD P fd.type==some n&&I2 P fd.type==some agg&&(agg||n==1)
   |none=>false
  |_=>false)&&CH x y
 | .index t x i,.idx agg len k y j=>(match P.underlying t with|some (.array n e)=>n==len&&GD P e==some k&&I2 P e==some agg&&(agg||k==1)|_=>false)&&CH x y&&CH i j
 | .index t x i,.fL y j=>(match P.underlying t with|some .string=>true|_=>false)&&CH x y&&CH i j
 | .binOp op _ x y _,.bin op' x' y'=>decide (op=op')&&CH x x'&&CH y y'
 | .binOp op t x y _,.beq neg x' y'=>decide (op=if neg=true then .neq else .eql)&&(match P.underlying t with|some .bool=>true|_=>false)&&CH x x'&&CH y y'
 | .binOp op t x y _,.fK neg kd x' y'=>decide (op=if neg=true then .neq else .eql)&&jZ P t kd&&CH x x'&&CH y y'
 | .load t a,.Wv b=>GD P t==some 1&&I2 P t==some false&&CH a b
 | .store t a x,.Vg b y=>GD P t==some 1&&CH a b&&CH x y
 | .nilCheck x,.JW y=>CH x y
 | .makeFunc (.func f) first Zi,.mkf f' ys=>f==f'&&first.isEmpty&&GN Zi.toList ys
 | .unOp op _ x,.un op' y=>decide (op=op')&&CH x y
 | .convert s d x,.cvt k y=>(match P.underlying s,P.underlying d with|some (.int _),some (.int k')=>decide (k=k')|_,_=>false)&&CH x y
 | .call c,.len y=>(match c.callee,c.args.toList,c.argTypes.toList with
  | .builtin .len,[x],[t]=>(match P.underlying t with|some (.slice _)=>true|_=>false)&&CH x y
  |_,_,_=>false)
 | .call c,.YU y=>(match c.callee,c.args.toList,c.argTypes.toList with
  | .builtin .len,[x],[t]=>(match P.underlying t with|some .string=>true|_=>false)&&CH x y
  |_,_,_=>false)
 | .call c,.mm mx x y=>(match c.callee,c.args.toList with
  | .builtin b,[u,v]=>(match b,mx with| .max,true=>true| .min,false=>true|_,_=>false)&&CH u x&&CH v y
  |_,_=>false)
 | .call c,.app k bytes x y=>(match c.callee,c.args.toList,c.argTypes.toList with
  | .builtin .append,[u,v],[t,t']=>t==t'&&(match P.underlying t with
   |some (.slice e)=>match P.info? e with
    |some i=>i.size==k&&i.bytes==bytes&&decide (0<bytes)&&(match i.zero with|some z=>z.cells.size==k|none=>false)
    |none=>false
   |_=>false)&&CH u x&&CH v y
  |_,_,_=>false)
 | .slice t x lo hi mx,.vV k fr y lo' hi' eF=>(match P.underlying t with|some (.slice e)=>GD P e==some k|_=>false)&&(mx.isNone||hi.isSome)&&CH x y&&Qn lo lo'&&Qn hi hi'&&Qn mx eF
 | .extract x i,.ext y j=>decide (i=j)&&CH x y
 |_,.bad=>true
 |_,_=>false
theorem arr2 {b:Type} {a:Array b} {x y:b} (h:a.toList=[x,y]):a= #[x,y]:=by apply ABS;simpa using h
theorem run_mapM {c d:Type} (l:List c) (f:c->Sem d) (g:c->d) (h:∀a∈l,(f a).run P w= .ok (g a) w):(l.mapM f).run P w= .ok (l.map g) w:=by
 induction l with
 |nil=>simp
 |cons a l ih=>have e:=h a (by simp);have i:=ih (λb j=>h b (by simp[j]));simp[List.mapM_cons,e,i]
theorem run_build {t:TypeId} {v:Value} {b:Array (Nat×Value)} {i:TypeInfo} (hi:P.info? t=some i) (p:i.zero=some v) (c:aK P t=true) (a:Array Value) (l:Instr.fill (placeOf P t) v.cells b.toList=some a):
 (Instr.build t b).run P w= .ok (.agg a) w:=by
 unfold aK at c;split at c
 . rename_i g h;have q:(g.mapM (m:=Sem) λ(f:Field)=>Prod.mk f.offset <$> sizeOf f.type).run P w= .ok (g.map λf=>(f.offset,(GD P f.type).getD 0)) w:=by
    rw[Array.mapM_eq_mapM_toList]
    have:=run_mapM (P:=P) (w:=w) g.toList (λ(f:Field)=>(Prod.mk f.offset <$> sizeOf f.type:Sem (Nat×Nat))) (λf=>(f.offset,(GD P f.type).getD 0)) (by
     intro f d;rw[AAN]at c
     have:=c f d;obtain⟨n,hn⟩:=Option.isSome_iff_exists.1 this;simp[run_sizeOf hn,hn])
    simp only[Sem.run_map,this,Result.andThen_ok];congr 1;apply ABS;simp
   have j:(λi=>Option.map (λ(f:Field)=>(f.offset,(GD P f.type).getD 0)) g[i]?)=placeOf P t:=by
    funext i;simp only[placeOf,h];cases d:g[i]? with
    |none=>rfl
    |some f=>
     rw[AAN]at c
     have:=c f (by rw[Array.mem_toList_iff];exact Array.mem_of_getElem? d);obtain⟨n,hn⟩:=Option.isSome_iff_exists.1 this;simp[hn]
   simp only[Instr.build,zeroValue,typeInfo,Sem.run_bind,run_underlying h];simp[program,Sem.run,hi,p,q];rw[j,l];simp
 . rename_i n e h;obtain⟨k,o⟩:=Option.isSome_iff_exists.1 c;have j:(λi=>some (i*k,k))=placeOf P t:=(by funext i;simp[placeOf,h,o]);simp only[Instr.build,zeroValue,typeInfo,Sem.run_bind,run_underlying h];simp[program,Sem.run,hi,p,run_sizeOf o];rw[j,l];simp
 . cases c
theorem XZ {t e:TypeId} {v:Value} {len k:Nat} {b:Array (Nat×Value)} {i:TypeInfo} (h:P.underlying t=some (.slice e)) (g:GD P e=some k) (j:len*k≤16777216) (hi:P.info? e=some i) (l:i.zero=some v) (a:Array Value)
 (c:Instr.fill (λi=>some (i*k,k)) (aE (if len*k=0 then #[]else v.cells) (len*k)).toArray b.toList=some a):
 (Instr.buildSlice t len b).run P w= .ok (.slice (some ⟨w.heap.size,0,none⟩) len len) (w.alloc (.cells a e)):=by
 have f:¬(16777216<len*k):=by omega
 simp only[aE,Array.toArray_toList]at c;by_cases d:len*k=0
 . simp only[d,AAo]at c;simp[Instr.buildSlice,run_underlying h,run_sizeOf g,d];simp at c;rw[c];simp[newRow]
 . simp only[d,AAY]at c;simp[Instr.buildSlice,run_underlying h,run_sizeOf g,d,f,zeroValue,typeInfo,hi,l];rw[c];simp[newRow]
theorem Tr {c:Type} [BEq c] [LawfulBEq c] {a:ABh c} {b:c} (h:(a==some b)=true):a=some b:=by simpa using h
theorem op_sound (h:St G w S δ Fr) (X:∀b,S b->b<w.heap.size) {a:Act} (E:Rd δ a) {o:Oper} {io:Xu} {d:ABh Dw} (hd:Ip G a o d) (l:I7 P o.op io=true) {σ':Sg} (H:F6 G io d (λs=>(δ s).er)=some σ'):Pw P G w S Fr a o σ':=by
 have val:∀{v:AV},(∀{d},F6 G io (some d) (λs=>(δ s).er)=(match valOf io (λs=>(δ s).er)with|some v=>wr d v (λs=>(δ s).er)|none=>none))->(F6 G io none (λs=>(δ s).er)=none)->
  (∀v,valOf io (λs=>(δ s).er)=some v->Gives P w S δ a o v)->Pw P G w S Fr a o σ':=by
  intro _ m C F;cases d with
  |none=>rw[C]at H;cases H
  |some d=>
   rw[m]at H;split at H
   . rename_i v B;exact YT h E hd (F v B) H
   . cases H
 have Q:∀{io:Xu},(F6 G io none (λs=>(δ s).er)=none)->F6 G io d (λs=>(δ s).er)=some σ'->∃N,d=some N:=by
  intro io m C;cases d with
  |none=>rw[m]at C;cases C
  |some d=>exact⟨d,rfl⟩
 unfold I7 at l;split at l
 . rename_i x y p;exact val (v:=.dead) rfl rfl λv B=>Rw h E (.inl p) l B
 . rename_i x y p;obtain⟨N,rfl⟩:=Q rfl H;exact runs_mv h E hd p l H
 . rename_i x y p;exact val (v:=.dead) rfl rfl λv B=>Rw h E (.inr p) l B
 . rename_i c x y c' x' y' p;simp only[AAH]at l;exact val (v:=.dead) rfl rfl λv B=>kU h E p l.1.1 l.1.2 l.2 B
 . rename_i t n z p;simp only[AAH]at l;obtain⟨m,C⟩:=l;split at C
   . rename_i v D B hD;obtain⟨i,hi,O⟩:=Option.bind_eq_some_iff.1 B;obtain⟨N,rfl⟩:=Q rfl H;refine oR (t:=t) (y:=.c z) h X E hd ⟨D,hD⟩ ?_ H
     have:=tS (P:=P) t i v hi O w;simp only[execOp,p,Sem.run_bind,this,Result.andThen_ok,Sem.run_pure,C0,hD,fE C]
   . cases C
 . rename_i t x n y p;simp only[AAH]at l;obtain⟨hy,K1⟩:=Ah l.2 E;obtain⟨N,rfl⟩:=Q rfl H;refine oR (t:=t) h X E hd hy ?_ H;simp only[execOp,p,Sem.run_bind,oQ,Result.andThen_ok,Sem.run_pure,K1]
 . rename_i t W z ps p;split at l
   . rename_i v zd B O;simp only[AAH]at l;obtain⟨⟨⟨m,C⟩,F⟩,R⟩:=l;obtain⟨i,hi,V⟩:=Option.bind_eq_some_iff.1 B;obtain⟨N,rfl⟩:=Q rfl H;refine runs_bld h E hd p O C R (λK U=> ?_) H;refine run_build hi V F K ?_
     have:=PN m;have e:v.cells=(zd.map DV.A0).toArray:=(by apply ABS;simpa using this);rw[e];simpa using U
   . cases l
 . rename_i t len W k z ps p;split at l
   . rename_i e I;simp only[AAH,AAZ]at l;obtain⟨⟨m,C⟩,F⟩:=l;split at F
     . rename_i v zd B O;simp only[AAH,AAV]at F;obtain⟨⟨⟨M,J⟩,L⟩,T⟩:=F;obtain⟨i,hi,V⟩:=Option.bind_eq_some_iff.1 B;obtain⟨N,rfl⟩:=Q rfl H;refine runs_bsl (e:=e) h X E hd p O (λr hr=>by rw[AAN]at L;simpa using L r hr) J T (λK U=> ?_) H;refine XZ I (Tr m) C hi V K ?_;rw[PN M];simpa using U
     . cases F
   . cases l
 . rename_i t x g n y p;simp only[AAH,AAp,AAV]at l;exact val (v:=.dead) rfl rfl λv B=>Rx h E p l.1.1.1 l.1.1.2 l.1.2 l.2 B
 . rename_i t x u n y z p;simp only[AAH,AAV]at l;cases d with
   |some d=>simp[F6,valOf]at H
   |none=>exact oS h E hd p l.1.1 l.1.2 l.2 H
 . rename_i t x f off y p;simp only[AAH]at l;obtain⟨m,C⟩:=l;split at m
   . rename_i fs I;split at m
     . rename_i fd U;simp only[AAH,AAV]at m;obtain⟨M,J⟩:=m;split at J
       . rename_i n hn;simp only[bne_iff_ne]at J;exact val (v:=.dead) rfl rfl λv B=>Yu h E p I U M hn J C B
       . cases J
     . cases m
   . cases m
 . rename_i t x i k y j p;simp only[AAH]at l;obtain⟨⟨m,C⟩,F⟩:=l;split at m
   . rename_i e I;exact val (v:=.dead) rfl rfl λv B=>Yv h E p I (Tr m) C F B
   . cases m
 . rename_i t x i len k y j p;simp only[AAH]at l;obtain⟨⟨m,C⟩,F⟩:=l;split at m
   . rename_i n e I;simp only[AAH,AAV]at m;obtain⟨rfl,J⟩:=m;exact val (v:=.dead) rfl rfl λv B=>rE h E p I J C F B
   . cases m
 . rename_i t x y k bytes z x' y' p;simp only[AAH]at l;obtain⟨⟨m,C⟩,F⟩:=l;split at m
   . rename_i e I;split at m
     . rename_i i hi;simp only[AAH,AAV,AAZ]at m;obtain⟨⟨⟨⟨⟨M,J⟩,L⟩,T⟩,g5⟩,g6⟩:=m;split at g6
       . rename_i v zd B O;obtain⟨N,rfl⟩:=Q rfl H;exact runs_mk h X E hd p I hi B M J L T O (PN g6) g5 C F H
       . cases g6
     . cases m
   . cases m
 . rename_i t x f agg off n y p;simp only[AAH]at l;obtain⟨m,C⟩:=l;split at m
   . rename_i fs I;split at m
     . rename_i fd U;simp only[AAH,AAV,AAp]at m;obtain⟨⟨⟨M,J⟩,L⟩,T⟩:=m;exact val (v:=.dead) rfl rfl λv B=>rJ h E p I U M J L T C B
     . cases m
   . cases m
 . rename_i t x i agg len k y j p;simp only[AAH]at l;obtain⟨⟨m,C⟩,F⟩:=l;split at m
   . rename_i n e I;simp only[AAH,AAV,AAp]at m;obtain⟨⟨⟨rfl,J⟩,L⟩,T⟩:=m;exact val (v:=.dead) rfl rfl λv B=>rK h E p I J L T C F B
   . cases m
 . rename_i t x i y j p;simp only[AAH]at l;obtain⟨⟨m,C⟩,F⟩:=l;split at m
   . rename_i I;exact val (v:=.dead) rfl rfl λv B=>kW h E p I C F B
   . cases m
 . rename_i op t x y u op' x' y' p;simp only[AAH,AAZ]at l;obtain⟨⟨rfl,C⟩,F⟩:=l;exact val (v:=.dead) rfl rfl λv B=>rG h E p C F B
 . rename_i op t x y u neg x' y' p;simp only[AAH,AAZ]at l;obtain⟨⟨⟨m,C⟩,F⟩,R⟩:=l;split at C
   . rename_i I;exact val (v:=.dead) rfl rfl λv B=>rF h E p m I F R B
   . cases C
 . rename_i op t x y u neg kd x' y' p;simp only[AAH,AAZ]at l;obtain⟨⟨⟨m,C⟩,F⟩,R⟩:=l;exact val (v:=.dead) rfl rfl λv B=>kV h E p m C F R B
 . rename_i t x y p;simp only[AAH,AAV]at l;exact val (v:=.dead) rfl rfl λv B=>Rx h E p l.1.1 l.1.2 (.inr rfl) l.2 (lda_ld B)
 . rename_i t x u y z p;simp only[AAH,AAV]at l;cases d with
   |some d=>simp[F6,valOf]at H
   |none=>exact oS h E hd p l.1.1 l.1.2 l.2 (sts_st H)
 . rename_i x y p;exact val (v:=.dead) rfl rfl λv B=>kT h E p l B
 . rename_i f first Zi f' ys p
   simp only[AAH,AAV]at l;obtain⟨⟨rfl,m⟩,C⟩:=l;exact val (v:=.dead) rfl rfl λv B=>Yw h E p (by simpa using m) C B
 . rename_i op t x op' y p;simp only[AAH,AAZ]at l;obtain⟨rfl,C⟩:=l;exact val (v:=.dead) rfl rfl λv B=>zM h E p C B
 . rename_i s t x k y p;simp only[AAH]at l;obtain⟨m,C⟩:=l;split at m
   . rename_i k0 k' hs ht;simp only[AAZ]at m;subst m;exact val (v:=.dead) rfl rfl λv B=>rH h E p hs ht C B
   . cases m
 . rename_i c y p;split at l
   . rename_i x t M J L;simp only[AAH]at l;obtain⟨m,C⟩:=l;split at m
     . rename_i e I;exact val (v:=.dead) rfl rfl λv B=>rL h E p M J L ⟨e,I⟩ C B
     . cases m
   . cases l
 . rename_i c y p;split at l
   . rename_i x t M J L;simp only[AAH]at l;obtain⟨m,C⟩:=l;split at m
     . rename_i I;exact val (v:=.dead) rfl rfl λv B=>kX h E p M J L I C B
     . cases m
   . cases l
 . rename_i c mx x y p;split at l
   . rename_i b u v Kv FW;simp only[AAH]at l;obtain⟨⟨m,C⟩,F⟩:=l;have hb:b=(if mx=true then .max else .min):=by
      split at m
      . rfl
      . rfl
      . cases m
     exact val (v:=.dead) rfl rfl λv B=>zL h E p (by rw[Kv,hb]) FW C F B
   . cases l
 . rename_i c k bytes x y p;split at l
   . rename_i u v t t' M J L;simp only[AAH,AAV]at l;obtain⟨⟨⟨rfl,m⟩,C⟩,F⟩:=l;split at m
     . rename_i e I;split at m
       . rename_i i hi;simp only[AAH,AAV,AAZ]at m;obtain⟨⟨⟨k1,k2⟩,k3⟩,Z⟩:=m;split at Z
         . rename_i z O;simp only[AAV]at Z;obtain⟨N,rfl⟩:=Q rfl H;exact runs_app h X E hd p M (arr2 J) (arr2 L) I hi k1 k2 k3 O Z C F H
         . cases Z
       . cases m
     . cases m
   . cases l
 . rename_i t x lo hi mx k fr y lo' hi' eF p;simp only[AAH,AAp,AA7]at l;obtain⟨⟨⟨⟨⟨m,C⟩,F⟩,R⟩,h5⟩,h6⟩:=l;split at m
   . rename_i e I;obtain⟨N,rfl⟩:=Q rfl H;cases fr with
     |true=>exact fC h E hd p I (Tr m) F R h5 h6 (C.imp id (by intro q hq;simp[hq]at q)) H
     |false=>exact tT h E hd p I (Tr m) F R h5 h6 (C.imp id (by intro q hq;simp[hq]at q)) H
   . cases m
 . rename_i x i y j p;simp only[AAH,AAZ]at l;obtain⟨rfl,C⟩:=l;exact val (v:=.dead) rfl rfl λv B=>rI h E p C B
 . cases d<;>simp[F6,valOf]at H
 . cases l
end Go.Abs
namespace Go.Abs
variable {w w':World} {S S':Nat->Prop} {G:Gi} {δ:Nat->DV} {Fr:Nat->Nat->Prop} {P:Program}
def Rel (G:Gi) (n:Nat) (w0:World) (S0 U0:Nat->Prop) (a:Act) (w:World) (σ:Sg):Prop:=
 ∃(S:Nat->Prop) (δ:Nat->DV) (F:Nat->Nat->Prop),a.tmps.size=n/\a.defers=[]/\Rd δ a/\(λs=>(δ s).er)=σ/\St G w S δ F/\Nx w0 S0 U0 w S (BD F)/\(∀b,S b->b<w.heap.size)
def X0 (w0:World) (S0 U0:Nat->Prop):Prop:=GI w0 S0/\∀b,S0 b->¬U0 b/\b<w0.heap.size
theorem GI.mono (h:GI w S) (c:∀b,S b->S' b):GI w S':=λx a=>⟨c _ (h x a).1,(h x a).2⟩
theorem X0.now {f:World} {b c U:Nat->Prop} (e:X0 f b c) (a:Nx f b c w S U):GI w S:=by intro x k;obtain⟨d,arr,E,fz,g,h⟩:=e.1 x k;obtain⟨i,j⟩:=e.2 _ d;exact⟨a.sub _ d,arr,E,fz,by rw[a.block _ j i];exact g,h⟩
theorem JD (h:St G w S δ Fr) {d:DV} {F:Nat->Prop} (hd:Ok w S d F) (R:∀x,F x->BD Fr x) (Q:DQ δ d) {a:AV} (f:Sj (λs=>(δ s).er) d.er=some a):
 ∃D,D.er=a/\D.A0=d.A0/\Ok w (λx=>S x∨BD Fr x) D (λ_=>False):=by
 have C:∀(b:AV) (v:Value),Fz w (λx=>S x∨BD Fr x) b v->C3 b=true->(∀y,b≠ .fp y)->(b≠ .un)->∃D:DV,D.er=b/\D.A0=v/\Ok w (λx=>S x∨BD Fr x) D (λ_=>False):=by
  intro b v n g M O;refine⟨.lf b v,by simp,by simp,.lf _ _ _ ?_ (λ_ h=>h)⟩;cases b with
  |sc u=>cases n with|sc _ N=>exact⟨rfl,N⟩
  |sl=>exact n
  |dead=>trivial
  |cl=>trivial
  |vb=>cases n
  |kN=>cases n
  |al=>trivial
  |KJ=>trivial
  |fp y=>exact absurd rfl (M y)
  |un=>exact absurd rfl O
  |own=>simp[C3]at g
  |agg=>simp[C3]at g
  |BT=>simp[C3]at g
 have U:∀{D:DV} {B:Nat->Prop} {k:Nat} {i:List AV},Ok w S D B->(∀x,B x->BD Fr x)->D.er= .own true k [i]->∃z,z.er= .fp (i.map I1)/\z.A0=D.A0/\Ok w (λx=>S x∨BD Fr x) z (λ_=>False):=by
  intro D B k i m P l;refine⟨.lf (.fp (i.map I1)) D.A0,by simp,by simp,.lf _ _ _ ?_ (λ_ h=>h)⟩;cases m with
  |lf b v _ ha _=>simp only[El]at l;subst l;exact ha.elim
  |nil=>simp at l
  |agg=>simp at l
  |BT=>simp at l
  |own bx T rows b c arr E Fs _ hb hk Dv Ku hv Vl LZ Bb Jf gF=>
   simp only[EN,AV.own.injEq]at l;obtain⟨rfl,rfl,I⟩:=l;refine⟨b,0,by simp[I9],.inr (P b ((gF b).2 (.inl rfl))),λj a J=> ?_⟩
   match rows,I with
   |[IL],I=>
    simp only[AAb,AAy,ABc,and_true]at I;subst I;simp only[List.map_map,AAR]at J;cases hjd:IL[j]? with
    |none=>simp[hjd]at J
    |some d=>
     simp only[hjd,AAk,AAG,Function.comp]at J;subst J;refine⟨d.A0,?_,?_⟩
     . have:=hv 0 j IL d rfl hjd;simp only[World.cell?,hb];simpa using this
     . exact(Vl 0 j IL d rfl hjd).freeze.mono (λ_ _=>rfl) (λx o=>o.imp id (λn=>P x ((gF x).2 (.inr ⟨0,j,n⟩))))
 cases hd with
 |lf b v _ ha gF=>
  simp only[El]at f;cases b with
  |sc u=>simp only[Sj,AAG]at f;subst f;obtain⟨rfl,N⟩:=ha;exact C _ _ (.sc _ N) rfl (by simp) (by simp)
  |sl e k rows=>
   simp only[Sj,AAG]at f;subst f;have n:Fz w (λx=>S x∨BD Fr x) (.sl false k rows) v:=by
    have L:Fz w (λx=>S x∨BD Fr x) (.sl e k rows) v:=Fz.mono ha (λ_ _=>rfl) (λ_ h=>.inl h);cases L with
    |nil x k a c o=>exact .nil _ _ _ _ (by simp)
    |sl x k rows b off c vs o QY hS hk hc f=>exact .sl _ _ _ b off c vs (by simp) QY hS hk hc f
   exact C _ _ n rfl (by simp) (by simp)
  |al r p=>
   simp only[Sj]at f;split at f
   . rename_i k rows hn;simp only[AAG]at f;cases Q with
     |lf _ _ g=>obtain⟨bx,T,t,g⟩:=g;obtain⟨D,H,l⟩:=Dj (h.ok r).KU hn;rw[g]at H;obtain rfl:=AAJ H;obtain⟨B,m,K⟩:=(h.ok r).Ao g;have q:=m.freeze;rw[l,f]at q;subst f;simp only[NM]at q ⊢;exact C _ _ (q.mono (λ_ _=>rfl) (λx o=>o.imp id (λn=>⟨r,K x n⟩))) rfl (by simp) (by simp)
   . rename_i k i hn;simp only[AAG]at f;cases Q with
     |lf _ _ g=>obtain⟨bx,T,t,g⟩:=g;obtain⟨D,H,l⟩:=Dj (h.ok r).KU hn;rw[g]at H;obtain rfl:=AAJ H;obtain⟨B,m,K⟩:=(h.ok r).Ao g;subst f;obtain⟨z,V,W,X⟩:=U m (λx o=>⟨r,K x o⟩) l;exact⟨z,V,by simpa using W,X⟩
   . cases f
  |own=>exact ha.elim
  |fp y=>simp only[Sj,AAG]at f;subst f;exact⟨.lf (.fp y) v,by simp,by simp,.lf _ _ _ (HM.mono (a:=.fp y) ha (λ_ _=>rfl) (λ_ h=>.inl h)) (λ_ h=>h)⟩
  |_=>simp[Sj]at f
 |nil k _ gF=>simp only[EN,AAy,Sj,AAG]at f;subst f;simp only[NM,AAy];exact C _ _ (.nil false k none 0 (by simp)) rfl (by simp) (by simp)
 |own bx k rows b c arr E Fs _ hb hk Dv Ku hv Vl LZ Bb Jf gF=>
  have m:=Ok.own bx k rows b c arr E Fs F hb hk Dv Ku hv Vl LZ Bb Jf gF;have q:=m.freeze;cases bx with
  |true=>
   simp only[EN]at f
   match rows,f,m with
   |[i],f,m=>simp only[AAb,AAy,Sj,AAG]at f;subst f;exact U (k:=k) m R (by simp)
   |[],f,_=>simp[Sj]at f
   |_::_::_,f,_=>simp[Sj]at f
  |false=>simp only[EN,Sj,AAG]at f;rw[EN,f]at q;subst f;simp only[NM]at q ⊢;exact C _ _ (q.mono (λ_ _=>rfl) (λx o=>o.imp id (R x))) rfl (by simp) (by simp)
 |agg=>simp[Sj]at f
 |BT=>simp[Sj]at f
theorem tF (h:St G w S δ Fr) (ds:List DV):∀{l:List AV},(∀d∈ds,∃F,Ok w S d F/\∀x,F x->BD Fr x)->(∀d∈ds,DQ δ d)->vU (λs=>(δ s).er) (ds.map DV.er)=some l->
 ∃c:List DV,c.map DV.er=l/\c.map DV.A0=ds.map DV.A0/\∀D∈c,Ok w (λx=>S x∨BD Fr x) D (λ_=>False):=by
 induction ds with
 |nil=>intro l _ _ b;simp only[AAy,vU,AAG]at b;subst b;exact⟨[],rfl,rfl,by simp⟩
 |cons d ds ih=>
  intro l f g b;simp only[AAb,vU]at b;split at b
  . rename_i x l' k m;simp only[AAG]at b;subst b;obtain⟨F,i,j⟩:=f d (by simp);obtain⟨D,n,o,p⟩:=JD h i j (g d (by simp)) k;obtain⟨c,q,r,t⟩:=ih (λe a=>f e (by simp[a])) (λe a=>g e (by simp[a])) m;refine⟨D::c,by simp[n,q],by simp[o,r],?_⟩;intro e a;simp only[AAg]at a;rcases a with rfl|a
    . exact p
    . exact t e a
  . cases b
theorem ZI (h:St G w S δ Fr) {d:DV} {F:Nat->Prop} (hd:Ok w S d F) (j:∀x,F x->BD Fr x) (g:DQ δ d) {a:AV} (f:eN (λs=>(δ s).er) d.er=some a):
 ∃D,D.er=a/\D.A0=d.A0/\Ok w (λx=>S x∨BD Fr x) D (λ_=>False):=by
 cases QV:d.er with
 |agg cs=>
  obtain⟨ds,rfl⟩:∃ds,d= .agg ds:=by
   have:=hd.KU;cases d with
   |agg ds=>exact⟨ds,rfl⟩
   |lf c v=>cases this with|lf _ _ n=>simp at QV;subst QV;simp[C3]at n
   |own=>simp at QV
   |BT=>simp at QV
  simp only[G7,eN]at f;split at f
  . rename_i l n;simp only[AAG]at f;subst f;cases hd with
    |agg _ Fs _ h1 h2 h3 h4=>
     cases g with
     |agg _ g=>obtain⟨o,t,u,y⟩:=tF h ds (λe m=>by obtain⟨i,hi⟩:=AAj m;exact⟨Fs i,h1 i e hi,λx q=>j x ((h4 x).2 ⟨i,q⟩)⟩) (λe m=>by obtain⟨i,hi⟩:=AAj m;exact g i e hi) n;exact⟨.agg o,by simp[t],by simp[u],B0.2 (Ca y)⟩
  . cases f
 |al r p=>rw[QV]at f;simp only[eN]at f;rw[← QV]at f;exact JD h hd j g f
 |own b k rows=>rw[QV]at f;simp only[eN]at f;rw[← QV]at f;exact JD h hd j g f
 |sc v=>rw[QV]at f;simp only[eN]at f;rw[← QV]at f;exact JD h hd j g f
 |sl e k rows=>rw[QV]at f;simp only[eN]at f;rw[← QV]at f;exact JD h hd j g f
 |fp cs=>rw[QV]at f;simp only[eN]at f;rw[← QV]at f;exact JD h hd j g f
 |_=>simp[QV,eN]at f
theorem Si (h:St G w S δ Fr) {a:Act} (F:Rd δ a) (n:List Ar):∀{g:List Operand} {d:List AV},GN g n=true->JX (λs=>(δ s).er) n=some d->
 ∃j:List DV,j.map DV.er=d/\j.map DV.A0=g.map a.eval/\∀D∈j,Ok w (λx=>S x∨BD Fr x) D (λ_=>False):=by
 induction n with
 |nil=>
  intro g d i f;cases g with
  |cons=>simp[GN]at i
  |nil=>simp only[JX,AAG]at f;subst f;exact⟨[],rfl,rfl,by simp⟩
 |cons y n ih=>
  intro g d i f;cases g with
  |nil=>simp[GN]at i
  |cons x g=>
   simp only[GN,AAH]at i;obtain⟨I,v⟩:=Ah i.1 F;simp only[JX]at f;split at f
   . rename_i b l k E;simp only[AAG]at f;subst f;obtain⟨D,o,p,q⟩:∃D,D.er=b/\D.A0=C0 δ y/\Ok w (λx=>S x∨BD Fr x) D (λ_=>False):=by
      cases y with
      |t s=>exact ZI h (h.ok s) (λx H=>⟨s,H⟩) (h.al s) k
      |c c=>obtain⟨u,r⟩:=I;obtain⟨z,B,C,_⟩:=ID (w:=w) (S:=S) (δ:=δ) c u r;simp only[ar]at k;rw[← z]at k;obtain⟨D,o,p,q⟩:=ZI h B (λ_ h=>h.elim) C k;exact⟨D,o,by rw[p];simp[C0,r],q⟩
     obtain⟨j,J,K,L⟩:=ih i.2 E;refine⟨D::j,by simp[o,J],by simp[p,K,v],?_⟩;intro e m;simp only[AAg]at m;rcases m with rfl|m
     . exact q
     . exact L e m
   . cases f
theorem Qu {d:DV} {F:Nat->Prop} (h:Ok w S d F):∃D,D.er=I1 d.er/\D.A0=d.A0/\Ok w (λx=>S x∨F x) D (λ_=>False)/\DQ δ D:=by
 induction h with
 |lf a v F ha hF=>
  have g:=ha.C3;cases a with
  |sc u=>exact⟨.lf (.sc u) v,by simp,by simp,.lf _ _ _ ha (λ_ h=>h),.lf _ _ trivial⟩
  |sl e k rows=>exact⟨.lf (.sl e k rows) v,by simp,by simp,.lf _ _ _ (Fz.mono ha (λ_ _=>rfl) (λ_ h=>.inl h)) (λ_ h=>h),.lf _ _ trivial⟩
  |own=>exact ha.elim
  |agg=>exact ha.elim
  |BT=>exact ha.elim
  |_=>exact⟨.lf .dead v,by simp[I1],by simp,.lf _ _ _ trivial (λ_ h=>h),.lf _ _ trivial⟩
 |nil k F hF=>exact⟨.lf (.sl false k []) (.slice none 0 0),by simp,by simp,.lf _ _ _ (Fz.nil false k none 0 (by simp)) (λ_ h=>h),.lf _ _ trivial⟩
 |own bx k rows b c arr E Fs F hb hk Dv Ku hv hr hd Bb Jf hF ih=>
  have y:=(Ok.own bx k rows b c arr E Fs F hb hk Dv Ku hv hr hd Bb Jf hF).freeze;cases bx with
  |true=>exact⟨.lf .dead (I9 true b rows.length c),by simp,by simp,.lf _ _ _ trivial (λ_ h=>h),.lf _ _ trivial⟩
  |false=>simp only[EN,NM,KE]at y ⊢;exact⟨.lf (.sl false k (List.map (λ(x:List AV)=>List.map I1 x) (List.map (λ(x:List DV)=>List.map DV.er x) rows))) (I9 false b rows.length c),by rw[El],by simp,.lf _ _ _ y (λ_ h=>h),.lf _ _ trivial⟩
 |agg cs Fs F hr hd Bb hF ih=>
  obtain⟨o,g,j⟩:=Kg cs (λi d D=>D.er=I1 d.er/\D.A0=d.A0/\Ok w (λx=>S x∨F x) D (λ_=>False)/\DQ δ D) (by intro i d n;obtain⟨D,p,q,r,s⟩:=ih i d n;exact⟨D,p,q,r.mono (λ_ _=>rfl) (λ_ _=>rfl) (λx t=>t.imp id (λh=>(hF x).2 ⟨i,h⟩)) (λ_ h=>h.elim),s⟩);refine⟨.agg o,?_,?_,B0.2 (Ca λD l=> ?_),.agg _ λi D l=> ?_⟩
  . simp only[G7,nM,AV.agg.injEq,List.map_map];exact map_mk g j _ _ (by simp) λi c D f m=>by simp[m,f.1]
  . simp only[JP];congr 2;exact map_mk g j _ _ (by simp) λi c D f m=>by simp[m,f.2.1]
  . obtain⟨i,hi⟩:=AAj l;obtain⟨c,_,f⟩:=mem_mk g j i D hi;exact f.2.2.1
  . obtain⟨c,_,f⟩:=mem_mk g j i D l;exact f.2.2.2
 |BT cs Fs F hr hd Bb hF ih=>
  obtain⟨o,g,j⟩:=Kg cs (λi d D=>D.er=I1 d.er/\D.A0=d.A0/\Ok w (λx=>S x∨F x) D (λ_=>False)/\DQ δ D) (by intro i d n;obtain⟨D,p,q,r,s⟩:=ih i d n;exact⟨D,p,q,r.mono (λ_ _=>rfl) (λ_ _=>rfl) (λx t=>t.imp id (λh=>(hF x).2 ⟨i,h⟩)) (λ_ h=>h.elim),s⟩);refine⟨.BT o,?_,?_,BK.2 (Ca λD l=> ?_),.BT _ λi D l=> ?_⟩
  . simp only[I0,nO,AV.BT.injEq,List.map_map];exact map_mk g j _ _ (by simp) λi c D f m=>by simp[m,f.1]
  . simp only[Kr];congr 2;exact map_mk g j _ _ (by simp) λi c D f m=>by simp[m,f.2.1]
  . obtain⟨i,hi⟩:=AAj l;obtain⟨c,_,f⟩:=mem_mk g j i D hi;exact f.2.2.1
  . obtain⟨c,_,f⟩:=mem_mk g j i D l;exact f.2.2.2
theorem Qr (l:List AV):Ob l=l.all fresh:=by
 induction l with
 |nil=>rfl
 |cons a l ih=>simp[Ob,ih]
theorem kR (l:List (List AV)):Qs l=l.all (·.all fresh):=by
 induction l with
 |nil=>rfl
 |cons a l ih=>simp[Qs,Qr,ih]
@[simp]theorem fresh_sc (v:Value):fresh (.sc v)=true:=by simp[fresh]
@[simp]theorem rC (b:Bool) (k:Nat) (rows:List (List AV)):fresh (.own b k rows)=rows.all (·.all fresh):=by simp[fresh,kR]
@[simp]theorem Tj (a:List AV):fresh (.agg a)=a.all fresh:=by simp[fresh,Qr]
@[simp]theorem Tk (a:List AV):fresh (.BT a)=a.all fresh:=by simp[fresh,Qr]
theorem Rt {d:DV} {F:Nat->Prop} (h:Ok w S d F):fresh d.er=true->(∀x,F x->¬S' x)->Ok w S' d F:=by
 induction h with
 |lf a v F ha hF=>
  intro e hn;simp only[El]at e;cases a with
  |sc u=>exact .lf _ _ _ ha hF
  |own=>exact ha.elim
  |agg=>exact ha.elim
  |BT=>exact ha.elim
  |_=>simp[fresh]at e
 |nil k F hF=>intro _ _;exact .nil k F hF
 |own bx k rows b c arr E Fs F hb hk Dv Ku hv hr hd Bb Jf hF ih=>
  intro e hn;simp only[EN,rC,ABC,AAN]at e;refine .own bx k rows b c arr E Fs F hb hk Dv (hn b ((hF b).2 (.inl rfl))) hv (λi j l d f m=>ih i j l d f m ?_ ?_) hd Bb Jf hF
  . have:=e l (AAS f);simp only[Function.comp,ABC,AAN]at this;exact this d (AAS m)
  . exactλx g=>hn x ((hF x).2 (.inr ⟨i,j,g⟩))
 |agg cs Fs F hr hd Bb hF ih=>intro e hn;simp only[G7,Tj,ABC,AAN]at e;exact .agg cs Fs F (λi d f=>ih i d f (e d (AAS f)) (λx g=>hn x ((hF x).2 ⟨i,g⟩))) hd Bb hF
 |BT cs Fs F hr hd Bb hF ih=>intro e hn;simp only[I0,Tk,ABC,AAN]at e;exact .BT cs Fs F (λi d f=>ih i d f (e d (AAS f)) (λx g=>hn x ((hF x).2 ⟨i,g⟩))) hd Bb hF
theorem WM {a:AV} (h:Ys a=true):fresh a=true:=by
 cases a with
 |sc=>simp
 |agg cs=>
  simp only[Ys,AAN]at h;simp only[Tj,AAN];intro c b
  have:=h c b;cases c<;>simp_all
 |BT cs=>
  simp only[Ys,AAN]at h;simp only[Tk,AAN];intro c b
  have:=h c b;cases c<;>simp_all
 |_=>simp[Ys]at h
theorem Rr {d:DV} {F:Nat->Prop} (h:Ok w S d F):fresh d.er=true->DQ δ d:=by
 induction h with
 |lf a v F ha hF=>intro b;simp only[El]at b;refine .lf a v ?_;cases a<;>simp_all [fresh,MF]
 |nil=>intro _;exact .own _ _ _ _
 |own=>intro _;exact .own _ _ _ _
 |agg cs Fs F hr hd Bb hF ih=>intro b;simp only[G7,Tj,ABC,AAN]at b;exact .agg cs λi d c=>ih i d c (b d (AAS c))
 |BT cs Fs F hr hd Bb hF ih=>intro b;simp only[I0,Tk,ABC,AAN]at b;exact .BT cs λi d c=>ih i d c (b d (AAS c))
theorem WA {d:DV} {F:Nat->Prop} (h:Ok w S d F) (b:clean d.er=true):DQ δ d:=by
 have leaf:∀{e:DV},Ya e->Jq e.er=true->DQ δ e:=by
  intro e f b;cases f with
  |lf a v f=>refine .lf _ _ ?_;simp only[El]at b;cases a<;>simp_all [Jq,MF]
  |own=>exact .own _ _ _ _
  |agg=>simp[Jq]at b
  |BT=>simp[Jq]at b
 have c:∀{g:List DV},(∀(i:Nat) d,g[i]? =some d->Ya d)->(g.map DV.er).all Jq=true->DQ δ (.agg g):=by intro g j b;refine .agg _ λi e hi=>leaf (j i e hi) ?_;rw[AAN]at b;exact b _ (ABK (AAS hi))
 have f:=h.KU;cases f with
 |lf a v f=>refine leaf (.lf a v f) ?_;simp only[El]at b ⊢;cases a<;>simp_all [clean,Jq,C3]
 |own=>exact .own _ _ _ _
 |agg g j=>simp only[G7,clean]at b;exact c j b
 |BT g j=>
  simp only[I0,clean]at b;refine .BT _ λi e hi=> ?_;rw[AAN]at b;have k:=b _ (ABK (AAS hi));have l:=j i e hi;cases l with
  |lf a v f=>refine leaf (.lf a v f) ?_;simp only[El]at k ⊢;cases a<;>simp_all [Jq,C3]
  |own=>exact .own _ _ _ _
  |agg g j=>simp only[G7]at k;exact c j k
  |BT=>simp[Jq]at k
theorem TF {a:Act} {o:Oper} {c:Call} {f:Nat} {b:Func} (k:o.op= .call c) (i:c.callee= .value (.func f)) (j:P.funcs[f]? =some b) (m:b.body.isSome=true) (hn:(b.name != "runtime.NumGoroutine")=true):
 (execOp a.eval o).run P w= .ok (.enter f (c.args.toList.map a.eval).toArray) w:=by
 have d:b.body.isNone=false:=by cases h:b.body<;>simp_all
 have e:(b.name== "runtime.NumGoroutine")=false:=by simpa using hn
 have g:c.args.map a.eval=(c.args.toList.map a.eval).toArray:=by apply ABS;simp
 simp only[execOp,k,resolve,i,Act.eval,Deferred.ofValue,Sem.run_bind,Sem.run_pure,Result.andThen_ok,invoke,callFunc,g];have l:(program).run P w= .ok P w:=rfl;rw[l];simp only[Result.andThen_ok,j,e,d,AAQ,AAY,Sem.run_pure];simp
def JQ (P:Program):Op->Nat->List Ar->Nat->Bool
 | .call c,f,args,m=>(match c.callee with
  | .value (.func g)=>f==g&&(match P.funcs[f]? with|some fn=>fn.body.isSome&&fn.name != "runtime.NumGoroutine" |none=>false)&&decide (m<5)&&GN c.args.toList args
  |_=>false)
 |_,_,_,_=>false
theorem dF {d:DV} {F:Nat->Prop} (h:Ok w S d F):∃D,D.er=vI d.er/\D.A0=d.A0/\Ok w (λx=>S x∨F x) D (λ_=>False):=by
 have leaf:∀{e:DV} {q:Nat->Prop},Ok w S e q->(∀x,q x->F x)->∃D:DV,D.er=fzl e.er/\D.A0=e.A0/\Ok w (λx=>S x∨F x) D (λ_=>False):=by
  intro e q y s;obtain⟨D,f,j,p,_⟩:=Qu (δ:=λ_=>default) y;have l:Ok w (λx=>S x∨F x) D (λ_=>False):=p.mono (λ_ _=>rfl) (λ_ _=>rfl) (λx o=>o.imp id (s x)) (λ_ h=>h.elim);cases hee:e.er with
  |sl ee k rows=>
   rw[hee]at f;simp only[zJ]at f;refine⟨.lf (.sl false k rows) D.A0,by simp[fzl],by simpa using j,.lf _ _ _ ?_ (λ_ h=>h)⟩;cases l with
   |lf a v _ ha _=>
    simp only[El]at f;subst f;simp only[Ke];have z:Fz w (λx=>S x∨F x) (.sl ee k rows) v:=ha;cases z with
    |nil x k a c o=>exact Fz.nil _ _ _ _ (by simp)
    |sl x k rows b off c vs o QY hS hk m hr=>exact Fz.sl _ _ _ b off c vs (by simp) QY hS hk m hr
   |nil=>simp at f
   |own=>simp at f
   |agg=>simp at f
   |BT=>simp at f
  |_=>rw[hee]at f;exact⟨D,by rw[f];simp only[fzl],j,l⟩
 cases QV:d.er with
 |agg cs=>
  obtain⟨ds,rfl⟩:∃ds,d= .agg ds:=by
   have:=h.KU;cases d with
   |agg ds=>exact⟨ds,rfl⟩
   |lf c v=>cases this with|lf _ _ n=>simp at QV;subst QV;simp[C3]at n
   |own=>simp at QV
   |BT=>simp at QV
  simp only[G7,AV.agg.injEq]at QV;subst QV;cases h with
  |agg _ Fs _ f j p h4=>
   obtain⟨t,n,r⟩:=Kg ds (λi d D=>D.er=fzl d.er/\D.A0=d.A0/\Ok w (λx=>S x∨F x) D (λ_=>False)) (λi d hd=>leaf (f i d hd) (λx o=>(h4 x).2 ⟨i,o⟩));refine⟨.agg t,?_,?_,B0.2 (Ca λD u=> ?_)⟩
   . simp only[G7,vI,AV.agg.injEq,List.map_map];exact map_mk n r _ _ (by simp) λi c D g m=>by simp only[AAR,m,AAk,Function.comp,g.1]
   . simp only[JP];congr 2;exact map_mk n r _ _ (by simp) λi c D g m=>by simp[m,g.2.1]
   . obtain⟨i,hi⟩:=AAj u;obtain⟨c,_,g⟩:=mem_mk n r i D hi;exact g.2.2
 |_=>obtain⟨D,f,j,p⟩:=leaf h (λ_ h=>h);refine⟨D,?_,j,p⟩;rw[f];simp only[QV,vI]
theorem aU {a:Act} (n:List Ar):∀{g:List Operand} {δ:Nat->DV} {Fr:Nat->Nat->Prop} {d:List AV} {τ:Sg},St G w S δ Fr->Rd δ a->GN g n=true->MZ G n (λs=>(δ s).er)=some (d,τ)->
 ∃(i:Nat->DV) (o:Nat->Nat->Prop) (k:List DV) (Fd:Nat->Prop),St G w S i o/\(λs=>(i s).er)=τ/\(∀s,(i s).A0=(δ s).A0)/\k.map DV.er=d/\k.map DV.A0=g.map a.eval/\(∀D∈k,Ok w (λx=>S x∨Fd x) D (λ_=>False))/\
  (∀s x,o s x->¬Fd x)/\(∀x,BD o x∨Fd x->BD Fr x):=by
 induction n with
 |nil=>
  intro g δ Fr d τ h p j c;cases g with
  |cons=>simp[GN]at j
  |nil=>simp only[MZ,AAG,AAU]at c;obtain⟨rfl,rfl⟩:=c;exact⟨δ,Fr,[],λ_=>False,h,rfl,λ_=>rfl,rfl,rfl,by simp,λ_ _ _ h=>h,λx b=>b.elim id False.elim⟩
 |cons y n ih=>
  intro g δ Fr d τ h p j c;cases g with
  |nil=>simp[GN]at j
  |cons x g=>
   simp only[GN,AAH]at j;obtain⟨I,F⟩:=Ah j.1 p;simp only[MZ]at c;split at c
   . rename_i v W q;split at c
     . rename_i l X U;simp only[AAG,AAU]at c;obtain⟨rfl,rfl⟩:=c;obtain⟨V,Z,D,Ff,f,E,B,H⟩:=h.tk I q;subst E;subst B;obtain⟨z,J,K,L⟩:=dF f.ok;obtain⟨u,C,k,Fd,M,N,O,P,Q,R,T,r⟩:=ih f.st (λs=>(p s).trans (f.A0 s).symm) j.2 U;refine⟨u,C,z::k,λx=>Ff x∨Fd x,M,N,λs=>(O s).trans (f.A0 s),by simp[J,P],by simp[K,Q,H,F],?_,?_,?_⟩
       . intro e m;simp only[AAg]at m;rcases m with rfl|m
         . exact L.mono (λ_ _=>rfl) (λ_ _=>rfl) (λx b=>b.imp id .inl) (λ_ h=>h.elim)
         . exact(R e m).mono (λ_ _=>rfl) (λ_ _=>rfl) (λx b=>b.imp id .inr) (λ_ h=>h.elim)
       . rintro s x b (h1|h1)
         . obtain⟨t,c⟩:=r x (.inl ⟨s,b⟩);exact f.LX t x c h1
         . exact T s x b h1
       . rintro x (b|b|b)
         . exact f.own x (.inl (r x (.inl b)))
         . exact f.own x (.inr b)
         . exact f.own x (.inl (r x (.inr b)))
     . cases c
   . cases c
theorem Ks {op:Op} {f m:Nat} {args:List Ar} (h:JQ P op f args m=true):∃c a,op= .call c/\c.callee= .value (.func f)/\P.funcs[f]? =some a/\a.body.isSome=true/\(a.name != "runtime.NumGoroutine")=true/\m<5/\GN c.args.toList args=true:=by
 cases op with
 |call c=>
  simp only[JQ]at h;split at h
  . rename_i g i;simp only[AAH,AAV,AAZ]at h;obtain⟨⟨⟨rfl,b⟩,d⟩,e⟩:=h;split at b
    . rename_i a j;simp only[AAH]at b;exact⟨c,a,rfl,i,j,b.1,b.2,d,e⟩
    . cases b
  . cases h
 |_=>simp[JQ]at h
theorem K6 {n:Nat} {F:World} {t u S1 S2:Nat->Prop} {a:Act} {o:Oper} {dst:ABh Dw} {c:Nat->DV} {f:Nat->Nat->Prop} {D:DV} {FD:Nat->Prop} {v:AV} {K:Sg->Prop} (h:St G w S1 c f) (hn:a.tmps.size=n) (M:a.defers=[]) (R:Rd c a) (hd:Ip G a o dst) (X:D.er=v)
 (p:∀b,b<w.heap.size->w'.heap[b]? =w.heap[b]?) (L:∀b,S1 b->b<w.heap.size) (r:∀b,S1 b->S2 b) (l:∀b,S2 b->S1 b∨w.heap.size≤b) (H:∀b,S2 b->b<w'.heap.size) (hD:Ok w' S2 D FD) (j:∀x,FD x->w.heap.size≤x) (GG:DQ c D)
 (Z:Nx F t u w S1 (BD f)) (B:w'.os=w.os) (E:w'.tape=w.tape) (C:w'.output=w.output) (P3:w.heap.size≤w'.heap.size)
 (k:Cw dst v K (λs=>(c s).er)):∃σ',Rel G n F t u (a.put o.dst D.A0) w' σ'/\K σ':=by
 have S:∀s x,f s x->w'.heap[x]? =w.heap[x]? :=λs x e=>p x ((h.ok s).lt x e);have Q:∀s x,f s x->¬S2 x:=by
  intro s x e i;have V:=(h.ok s).lt x e;rcases l x i with m|m
  . exact(h.ok s).Ek x e m
  . omega
 have T:∀s x,f s x->¬FD x:=by
  intro s x e i;have V:=(h.ok s).lt x e
  have:=j x i;omega
 have O:∀q:Nat->Nat->Prop,(∀x,BD q x->BD f x∨FD x)->Nx F t u w' S2 (BD q):=by intro q WU;refine Z.trans ⟨B,E,C,P3,λb g _=>p b g,r,λb g=>(l b g).imp id .inr,λ_=>H,λx e=>(WU x e).imp id (j x)⟩
 cases dst with
 |none=>
  have y:o.dst=none:=hd;refine⟨_,⟨S2,c,f,?_,?_,?_,rfl,h.world (λb g=>p b (L b g)) S r Q,O f (λx e=>.inl e),H⟩,k⟩
  . rw[y];exact hn
  . rw[y];exact M
  . rw[y];exact R
 |some d=>
  simp only[Cw]at k;split at k
  . rename_i J P;obtain⟨z,i,m,h4⟩:=hd;rw[← X]at P;obtain⟨I,N,Jt,Iu,U,W⟩:=h.wr i m (λb g=>p b (L b g)) S r Q hD T GG P;refine⟨J,⟨S2,I,N,?_,?_,?_,Iu,Jt,O N W,H⟩,k⟩
    . rw[z];simpa[Act.put]using hn
    . rw[z];simpa[Act.put]using M
    . intro s;rw[z,IJ a d.d D.A0 h4 s,U s];split
      . rfl
      . exact R s
  . exact k.elim
theorem borrow {n:Nat} {E:World} {y z:Nat->Prop} {a:Act} {o:Oper} {dst:ABh Dw} {F:List Operand} {args:List Ar} {g:List AV} {c v:AV} {f:Nat} {K:Sg->Prop} {Q:Exit->Act->World->Prop} (T:GI w S) (l:St G w S δ Fr) (M:Nx E y z w S (BD Fr)) (k:∀b,S b->b<w.heap.size) (hn:a.tmps.size=n) (L:a.defers=[]) (D:Rd δ a) (hd:Ip G a o dst)
 (O:GN F args=true) (hr:JX (λs=>(δ s).er) args=some g) (R:Says P f g c) (C:fresh c=true) (hv:c=v)
 (N:Cw dst v K (λs=>(δ s).er)):
 Calls P f (F.map a.eval).toArray w λ
  | .returned v,w''=>(λa' w'=>∃σ',Rel G n E y z a' w' σ'/\K σ') (a.put o.dst v) w''
  | .panicked chain,w''=>Q (.panic chain) a w''
  | .outgrown,_=>LetsOut Q:=by
 obtain⟨I,J,W,Z⟩:=Si l D args O hr;have t:=R w (λx=>S x∨BD Fr x) I (λ_=>False) (T.mono λ_ h=>.inl h) J (BK.2 (Ca Z)) (by
  rintro b (i|⟨s,p⟩)
  . exact k b i
  . exact(l.ok s).lt b p)
 rw[W]at t;refine t.mono ?_;rintro e w' ⟨r,os,S',F',rfl,m,hoe,vL,H,d,LY,nR,KP,X⟩;obtain⟨u,Fb,B,_,_,V⟩:=BK.1 H;have j:∀x,u x->w.heap.size≤x:=λx q=>(X x ((V x).2 (.inl q))).resolve_left id;have U:Ok w' S r u:=Rt B (by rw[m];exact C) (λx q p=>by have:=k x p;have:=j x q;omega);simp only;exact K6 (S2:=S) l hn L D hd (m.trans hv) (λb i=>d.block b i id) k (λ_ h=>h) (λ_ h=>.inl h) (λb i=>ABI (k b i) d.size) U j (Rr B (by rw[m];exact C)) M d.os d.tape d.output d.size N
theorem fN {a:Act} (o:List Ar):∀{f:List Operand} {δ:Nat->DV} {Fr:Nat->Nat->Prop} {e:List AV} {τ:Sg},St G w S δ Fr->Rd δ a->GN f o=true->Qi G o (λs=>(δ s).er)=some (e,τ)->
 ∃(g:Nat->DV) (p:Nat->Nat->Prop) (j:List DV) (Fd:Nat->Prop),St G w S g p/\(λs=>(g s).er)=τ/\(∀s,(g s).A0=(δ s).A0)/\j.map DV.er=e/\j.map DV.A0=f.map a.eval/\JH w S j Fd/\
  (∀s x,p s x->¬Fd x)/\(∀x,BD p x∨Fd x->BD Fr x):=by
 induction o with
 |nil=>
  intro f δ Fr e τ h q i b;cases f with
  |cons=>simp[GN]at i
  |nil=>simp only[Qi,AAG,AAU]at b;obtain⟨rfl,rfl⟩:=b;exact⟨δ,Fr,[],λ_=>False,h,rfl,λ_=>rfl,rfl,rfl,λ_ h=>h,λ_ _ _ h=>h,λx c=>c.elim id False.elim⟩
 |cons y o ih=>
  intro f δ Fr e τ h q i b;cases f with
  |nil=>simp[GN]at i
  |cons x f=>
   simp only[GN,AAH]at i;obtain⟨I,E⟩:=Ah i.1 q;simp only[Qi]at b;split at b
   . rename_i v T r;split at b
     . rename_i l U Q;simp only[AAG,AAU]at b;obtain⟨rfl,rfl⟩:=b;obtain⟨R,V,D,Ff,d,C,z,F⟩:=h.tk I r;subst C;subst z;obtain⟨u,B,j,Fd,J,K,L,M,N,O,P,n⟩:=ih d.st (λs=>(q s).trans (d.A0 s).symm) i.2 Q;have m:∀x,Ff x->¬Fd x:=λx k H=>(by obtain⟨t,b⟩:=n x (.inr H);exact d.LX t x b k);refine⟨u,B,D::j,λx=>Ff x∨Fd x,J,K,λs=>(L s).trans (d.A0 s),by simp[M],by simp[N,F,E],⟨Ff,Fd,d.ok,O,m,λx=>ABb⟩,?_,?_⟩
       . rintro s x c (k|k)
         . obtain⟨t,b⟩:=n x (.inl ⟨s,c⟩);exact d.LX t x b k
         . exact P s x c k
       . rintro x (c|c|c)
         . exact d.own x (.inl (n x (.inl c)))
         . exact d.own x (.inr c)
         . exact d.own x (.inl (n x (.inr c)))
     . cases b
   . cases b
theorem jK (h:St G w S δ Fr) (rs:List (Nat×List Step)):∀{vs:List Value} {e:List (List AV)},vs.length=rs.length->(∀(i:Nat) r p u,rs[i]? =some (r,p)->vs[i]? =some u->∃bx k rows,Ao (δ r) p=some (.own u bx k rows))->V7 (λs=>(δ s).er) rs=some e->
 vs.length=e.length/\∀(i:Nat) j u,e[i]? =some j->vs[i]? =some u->wI w (λx=>S x∨BD Fr x) j u:=by
 induction rs with
 |nil=>
  intro vs e g _ b;cases vs with
  |nil=>simp only[V7,AAG]at b;subst b;exact⟨rfl,by simp⟩
  |cons=>simp at g
 |cons x rs ih=>
  obtain⟨r,p⟩:=x;intro vs e g n b;cases vs with
  |nil=>simp at g
  |cons v vs=>
   simp only[V7]at b;split at b
   . rename_i j m o q;simp only[AAG]at b;subst b;obtain⟨bx,k,rows,t⟩:=n 0 r p v rfl rfl;obtain⟨D,c,l,y⟩:=JD h (d:=.lf (.al r p) v) (F:=λ_=>False) (.lf _ _ _ trivial (λ_ h=>h)) (λ_ h=>h.elim) (.lf _ _ ⟨bx,k,rows,t⟩) (by simpa using o);obtain⟨z,B⟩:=ih (by simpa using g) (λi r p u hi f=>n (i+1) r p u (by simpa using hi) (by simpa using f)) q;refine⟨by simp[z],λi C u hi f=> ?_⟩;cases i with
     |zero=>
      simp only[AAt,AAG]at hi f;subst hi;subst f;simp only[Ke]at l;cases y with
      |lf a v' _ ha _=>simp only[El]at c;subst c;simp only[Ke]at l;subst l;exact ha
      |nil=>simp at c
      |own=>simp at c
      |agg=>simp at c
      |BT=>simp at c
     |succ i=>exact B i C u (by simpa using hi) (by simpa using f)
   . cases b
theorem Xm {a:Act} (m:List Ar):∀{i:List Operand} {δ:Nat->DV} {Fr:Nat->Nat->Prop} {g:List AV} {τ:Sg},St G w S δ Fr->Rd δ a->GN i m=true->VM G m (λs=>(δ s).er)=some (g,τ)->
 ∃(j:Nat->DV) (u:Nat->Nat->Prop) (n:List DV) (Fd:Nat->Prop),St G w S j u/\(λs=>(j s).er)=τ/\(∀s,(j s).A0=(δ s).A0)/\n.map DV.er=g/\n.map DV.A0=i.map a.eval/\JH w (λx=>S x∨BD u x) n Fd/\
  (∀s x,u s x->¬Fd x)/\(∀x,BD u x∨Fd x->BD Fr x):=by
 induction m with
 |nil=>intro i δ Fr g τ h C k b;simp[VM]at b
 |cons y m ih=>
  intro i δ Fr g τ h C k b;cases i with
  |nil=>simp[GN]at k
  |cons x i=>
   simp only[GN,AAH]at k;obtain⟨M,K⟩:=Ah k.1 C;cases m with
   |nil=>
    cases i with
    |cons=>simp[GN]at k
    |nil=>
     simp only[VM]at b;split at b
     . rename_i f rs z;split at b
       . rename_i R p;simp only[AAG,AAU]at b;obtain⟨rfl,rfl⟩:=b;obtain⟨vs,N,F,H⟩:MF δ (.cl f rs) (C0 δ y):=by
          cases y with
          |t s=>exact(h.leaf z rfl).2.2
          |c c0=>obtain⟨D0,Z⟩:=M;simp only[ar]at z;subst z;simp[IZ]at Z
         obtain⟨W,X⟩:=jK h rs F H p;refine⟨δ,Fr,[.lf (.kN f R) (C0 δ y)],λ_=>False,h,rfl,λ_=>rfl,by simp,by simp[K],Ca (λD L=> ?_),λ_ _ _ h=>h,λx d=>d.elim id False.elim⟩;simp only[AAh]at L;subst L;exact .lf _ _ _ ⟨vs,N,W,X⟩ (λ_ h=>h)
       . cases b
     . cases b
   |cons y2 m=>
    simp only[VM]at b;split at b
    . rename_i v τ1 E;split at b
      . rename_i l τ2 oC;simp only[AAG,AAU]at b;obtain⟨rfl,rfl⟩:=b;obtain⟨δ1,F1,D,Ff,e,P,O,Q⟩:=h.tk M E;subst P;subst O;obtain⟨I,J,n,Fd,m1,m2,m3,m4,m5,m6,m7,r⟩:=ih e.st (λs=>(C s).trans (e.A0 s).symm) k.2 oC;have q:∀x,Ff x->¬Fd x:=λx o T=>(by obtain⟨t,b⟩:=r x (.inr T);exact e.LX t x b o);have B:Ok w (λx=>S x∨BD J x) D Ff:=e.ok.mono (λ_ _=>rfl) (λ_ _=>rfl) (λ_ h=>.inl h) (λx d V=>V.elim (e.ok.Ek x d) (λU=>by obtain⟨t,b⟩:=r x (.inl U);exact e.LX t x b d));refine⟨I,J,D::n,λx=>Ff x∨Fd x,m1,m2,λs=>(m3 s).trans (e.A0 s),by simp[m4],by simp[m5,Q,K],⟨Ff,Fd,B,m6,q,λx=>ABb⟩,?_,?_⟩
        . rintro s x d (o|o)
          . obtain⟨t,b⟩:=r x (.inl ⟨s,d⟩);exact e.LX t x b o
          . exact m7 s x d o
        . rintro x (d|d|d)
          . exact e.own x (.inl (r x (.inl d)))
          . exact e.own x (.inr d)
          . exact e.own x (.inl (r x (.inr d)))
      . cases b
    . cases b
theorem jJ {n:Nat} {w0:World} {S0 U0:Nat->Prop} (hG:X0 w0 S0 U0) {a:Act} {σ:Sg} (h:Rel G n w0 S0 U0 a w σ) {o:Oper} {io:BP} {f m:Nat} {args:List Ar} (hio:io.op= .call f args m) (Of:JQ P o.op f args m=true) (hd:Ip G a o io.dst) {K:Sg->Prop} (Cb:D8 P G io K σ)
 (Q:Exit->Act->World->Prop):o.wp P a w (λa' w'=>∃σ',Rel G n w0 S0 U0 a' w' σ'/\K σ') Q:=by
 obtain⟨S,δ,Fr,hn,U,R,rfl,L,Ec,I⟩:=h;have Mi:=hG.now Ec;obtain⟨c,fn,ho,Kv,H,hfb,lA,hm3,Gu⟩:=Ks Of;unfold D8 at Cb;rw[hio]at Cb;simp only at Cb;split at Cb
 . rename_i aZ9 τ q;obtain⟨res,JA,y⟩:=Cb;split at y
   . rename_i v k;unfold Oper.wp;rw[TF ho Kv H hfb lA,Oper.upon_enter]
     match m,hm3,q,k with
     |1,_,q,k=>
      simp only[Fw]at q;obtain⟨z,u,Ds,Fd,E,WZ,JS,E4,Qv,Zu,J,B⟩:=aU _ L R Gu q;subst WZ;have zQ:∀x,Fd x->x<w.heap.size:=λx g=>(by obtain⟨t,ht⟩:=B x (.inr g);exact(L.ok t).lt x ht);have M:=JA w (λx=>S x∨Fd x) Ds (λ_=>False) (Mi.mono λ_ h=>.inl h) E4 (BK.2 (Ca Zu)) (λb j=>j.elim (I b) (zQ b));rw[Qv]at M;refine M.mono ?_;rintro e w' ⟨r,os,S',F',rfl,N,hoe,vL,Co,p,LY,nR,KP,WT⟩;obtain⟨F,Fb,O,_,_,P0⟩:=BK.1 Co;obtain⟨D,k1,k2,k3,k4⟩:=Qu (δ:=z) O;simp only[RK,AAG]at k;have hfa:∀x,F x->w.heap.size≤x:=λx g=>(WT x ((P0 x).2 (.inl g))).resolve_left id;have X:St G w (λx=>S x∨Fd x) z u:=E.world (λ_ _=>rfl) (λ_ _ _=>rfl) (λ_ h=>.inl h) (λs x g T=>T.elim ((E.ok s).Ek x g) (J s x g));have rW:Nx w0 S0 U0 w (λx=>S x∨Fd x) (BD u):=Ec.trans (Nx.I1 (λx g=>B x g) zQ);simp only;rw[← k2];refine K6 (S2:=λx=>S' x∨F x) X hn U (λs=>(R s).trans (JS s).symm) hd (by rw[k1,N];exact k) (λb j=>p.block b j id) (λb j=>j.elim (I b) (zQ b)) (λb j=>.inl (LY b j)) ?_ ?_ k3 (λ_ h=>h.elim) k4 rW p.os p.tape p.output p.size y
      . rintro b (j|j)
        . rcases nR b j with i|i|i
          . exact .inl i
          . exact i.elim
          . exact .inr i
        . exact .inr (hfa b j)
      . rintro b (j|j)
        . exact KP b j
        . exact O.lt b j
     |0,_,q,k=>
      simp only[Fw]at q;split at q
      . rename_i l hr;simp only[AAG,AAU]at q;obtain⟨rfl,rfl⟩:=q;simp only[RK]at k;split at k
        . rename_i E5;exact borrow Mi L Ec I hn U R hd Gu hr JA (WM E5) (AAJ k) y
        . cases k
      . cases q
     |3,_,q,k=>
      simp only[Fw]at q;obtain⟨z,u,Ds,Fd,E,WZ,JS,E4,Qv,Zu,J,B⟩:=fN _ L R Gu q;subst WZ;simp only[RK]at k;split at k
      . rename_i bG;obtain rfl:=AAJ k;have M:=JA w S Ds Fd Mi E4 (BK.2 Zu) I;rw[Qv]at M;refine M.mono ?_;rintro e w' ⟨r,os,S',F',rfl,N,hoe,vL,Co,p,LY,nR,KP,WT⟩;obtain⟨F,Fb,O,_,_,P0⟩:=BK.1 Co;have rP:∀x,F x->Fd x∨w.heap.size≤x:=λx g=>WT x ((P0 x).2 (.inl g));have V:∀s x,u s x->x<w.heap.size:=λs x g=>(E.ok s).lt x g;have oF:∀b,S b->w'.heap[b]? =w.heap[b]? :=λb j=>p.block b (I b j) λH=>(by obtain⟨t,ht⟩:=B b (.inr H);exact(L.ok t).Ek b ht j);have lF:∀s x,u s x->w'.heap[x]? =w.heap[x]? :=λs x g=>p.block x (V s x g) (J s x g);have OE:∀s x,u s x->¬S' x:=by
         intro s x g h';rcases nR x h' with i|i|i
         . exact(E.ok s).Ek x g i
         . exact J s x g i
         . have:=V s x g;omega
        have nV:∀s x,u s x->¬F x:=by
         intro s x g h';rcases rP x h' with i|i
         . exact J s x g i
         . have:=V s x g;omega
        have Ge:∀C:Nat->Nat->Prop,(∀x,BD C x->BD u x∨F x)->Nx w0 S0 U0 w' S' (BD C):=by
         intro C WU;refine Ec.trans ⟨p.os,p.tape,p.output,p.size,λb j Jl=>p.block b j λH=>Jl (B b (.inr H)),LY,λb j=>(nR b j).imp id (Or.imp (λh=>B b (.inr h)) id),λ_=>KP,λx g=> ?_⟩;rcases WU x g with i|i
         . exact .inl (B x (.inl i))
         . exact(rP x i).imp (λh=>B x (.inr h)) id
        have QT:Rd z a:=λs=>(R s).trans (JS s).symm;simp only;cases KQ:io.dst with
        |none=>
         rw[KQ]at hd y;have W:o.dst=none:=hd;refine⟨_,⟨S',z,u,?_,?_,?_,rfl,E.world oF lF LY OE,Ge u (λx g=>.inl g),KP⟩,y⟩
         . rw[W];exact hn
         . rw[W];exact U
         . rw[W];exact QT
        |some d=>
         rw[KQ]at hd y;simp only[Cw]at y;split at y
         . rename_i τ' Lp;obtain⟨i,h2,h3,h4⟩:=hd;rw[← N]at Lp;obtain⟨Z,C,Jt,Iu,DU,Wf⟩:=E.wr h2 h3 oF lF LY OE O nV (WA O (by rw[N];exact bG)) Lp;refine⟨τ',⟨S',Z,C,?_,?_,?_,Iu,Jt,Ge C Wf,KP⟩,y⟩
           . rw[i];simpa[Act.put]using hn
           . rw[i];simpa[Act.put]using U
           . intro s;rw[i,IJ a d.d r.A0 h4 s,DU s];split
             . rfl
             . exact QT s
         . exact y.elim
      . cases k
     |4,_,q,k=>
      simp only[Fw]at q;obtain⟨z,u,Ds,Fd,E,WZ,JS,E4,Qv,Zu,J,B⟩:=Xm _ L R Gu q;subst WZ;simp only[RK]at k;split at k
      . rename_i bG;obtain rfl:=AAJ k;have V:∀s x,u s x->x<w.heap.size:=λs x g=>(E.ok s).lt x g;have M:=JA w (λx=>S x∨BD u x) Ds Fd (Mi.mono λ_ h=>.inl h) E4 (BK.2 Zu) (λb j=>j.elim (I b) (λ⟨s,T⟩=>V s b T));rw[Qv]at M;refine M.mono ?_;rintro e w' ⟨r,os,S',F',rfl,N,hoe,vL,Co,p,LY,nR,KP,WT⟩;obtain⟨F,Fb,hra0,_,_,P0⟩:=BK.1 Co;have rP:∀x,F x->Fd x∨w.heap.size≤x:=λx g=>WT x ((P0 x).2 (.inl g));have zP:∀x,Fd x->¬S x:=λx H T=>(by obtain⟨t,ht⟩:=B x (.inr H);exact(L.ok t).Ek x ht T);have O:Ok w' S r F:=Rt hra0 (by rw[N];exact bG) (λx g T=>(rP x g).elim (λi=>zP x i T) (λi=>by have:=I x T;omega));have oF:∀b,S b->w'.heap[b]? =w.heap[b]? :=λb j=>p.block b (I b j) λH=>zP b H j;have lF:∀s x,u s x->w'.heap[x]? =w.heap[x]? :=λs x g=>p.block x (V s x g) (J s x g);have OE:∀s x,u s x->¬S x:=λs x g=>(E.ok s).Ek x g;have UK:∀b,S b->b<w'.heap.size:=λb j=>ABI (I b j) p.size;have nV:∀s x,u s x->¬F x:=by
         intro s x g h';rcases rP x h' with i|i
         . exact J s x g i
         . have:=V s x g;omega
        have Ge:∀C:Nat->Nat->Prop,(∀x,BD C x->BD u x∨F x)->Nx w0 S0 U0 w' S (BD C):=by
         intro C WU;refine Ec.trans ⟨p.os,p.tape,p.output,p.size,λb j Jl=>p.block b j λH=>Jl (B b (.inr H)),λ_ h=>h,λ_ h=>.inl h,λ_=>UK,λx g=> ?_⟩;rcases WU x g with i|i
         . exact .inl (B x (.inl i))
         . exact(rP x i).imp (λh=>B x (.inr h)) id
        have QT:Rd z a:=λs=>(R s).trans (JS s).symm;simp only;cases KQ:io.dst with
        |none=>
         rw[KQ]at hd y;have W:o.dst=none:=hd;refine⟨_,⟨S,z,u,?_,?_,?_,rfl,E.world oF lF (λ_ h=>h) OE,Ge u (λx g=>.inl g),UK⟩,y⟩
         . rw[W];exact hn
         . rw[W];exact U
         . rw[W];exact QT
        |some d=>
         rw[KQ]at hd y;simp only[Cw]at y;split at y
         . rename_i τ' Lp;obtain⟨i,h2,h3,h4⟩:=hd;rw[← N]at Lp;obtain⟨Z,C,Jt,Iu,DU,Wf⟩:=E.wr h2 h3 oF lF (λ_ h=>h) OE O nV (Rr O (by rw[N];exact bG)) Lp;refine⟨τ',⟨S,Z,C,?_,?_,?_,Iu,Jt,Ge C Wf,UK⟩,y⟩
           . rw[i];simpa[Act.put]using hn
           . rw[i];simpa[Act.put]using U
           . intro s;rw[i,IJ a d.d r.A0 h4 s,DU s];split
             . rfl
             . exact QT s
         . exact y.elim
      . cases k
     |2,_,q,k=>
      simp only[Fw]at q;split at q
      . rename_i l hr;simp only[AAG,AAU]at q;obtain⟨rfl,rfl⟩:=q;simp only[RK]at k;split at k
        . rename_i E5;exact borrow Mi L Ec I hn U R hd Gu hr JA E5 (AAJ k) y
        . cases k
      . cases q
   . exact y.elim
 . exact Cb.elim
theorem cP {n:Nat} {V:World} {R T:Nat->Prop} (hG:X0 V R T) {a:Act} {σ:Sg} (h:Rel G n V R T a w σ) {o:Oper} {io:BP} {f:Nat} {args:List Ar} (hio:io.op= .call f args 4) (Of:JQ P o.op f args 4=true) (hd:Ip G a o io.dst) {K:Sg->Prop} (z:D8 P G io K σ) {rr kb:Nat} (I:∀H τ,Fw G 4 args σ=some (H,τ)->∃rows,τ rr= .own true kb rows)
 (Q:Exit->Act->World->Prop):o.wp P a w (λa' w'=>(∃σ',Rel G n V R T a' w' σ'/\K σ')/\(∀b,a.tmps.getD rr undef= .pointer (some ⟨b,0,none⟩)->w'.heap[b]? =w.heap[b]?)/\∃u,a'=a.put o.dst u) Q:=by
 obtain⟨S,δ,Fr,hn,EC,ha,rfl,CF,Ec,M⟩:=h;have Mi:=hG.now Ec;obtain⟨c,fn,ho,Kv,y,hfb,lA,hm3,Gu⟩:=Ks Of;unfold D8 at z;rw[hio]at z;simp only at z;split at z
 . rename_i H τ W;obtain⟨res,JA,p⟩:=z;split at p
   . rename_i v U;unfold Oper.wp;rw[TF ho Kv y hfb lA,Oper.upon_enter];have J:=W;simp only[Fw]at W;obtain⟨k,m,Ds,Fd,F,WZ,JS,E4,Qv,Zu,C4,N⟩:=Xm _ CF ha Gu W;subst WZ;simp only[RK]at U;split at U
     . rename_i bG;obtain rfl:=AAJ U;have Wd:∀s x,m s x->x<w.heap.size:=λs x i=>(F.ok s).lt x i;have F9:=JA w (λx=>S x∨BD m x) Ds Fd (Mi.mono λ_ h=>.inl h) E4 (BK.2 Zu) (λb l=>l.elim (M b) (λ⟨s,D⟩=>Wd s b D));rw[Qv]at F9;refine F9.mono ?_;rintro e w' ⟨r,os,S',F',rfl,X,hoe,vL,Co,q,LY,nR,KP,WT⟩;obtain⟨O,Fb,L,_,_,P0⟩:=BK.1 Co;have rP:∀x,O x->Fd x∨w.heap.size≤x:=λx i=>WT x ((P0 x).2 (.inl i));have zP:∀x,Fd x->¬S x:=λx y D=>(by obtain⟨t,ht⟩:=N x (.inr y);exact(CF.ok t).Ek x ht D);have Zz:Ok w' S r O:=Rt L (by rw[X];exact bG) (λx i D=>(rP x i).elim (λg=>zP x g D) (λg=>by have:=M x D;omega));have oF:∀b,S b->w'.heap[b]? =w.heap[b]? :=λb l=>q.block b (M b l) λy=>zP b y l;have lF:∀s x,m s x->w'.heap[x]? =w.heap[x]? :=λs x i=>q.block x (Wd s x i) (C4 s x i);have OE:∀s x,m s x->¬S x:=λs x i=>(F.ok s).Ek x i;have UK:∀b,S b->b<w'.heap.size:=λb l=>ABI (M b l) q.size;have nV:∀s x,m s x->¬O x:=by
        intro s x i h';rcases rP x h' with g|g
        . exact C4 s x i g
        . have:=Wd s x i;omega
       have Ge:∀B:Nat->Nat->Prop,(∀x,BD B x->BD m x∨O x)->Nx V R T w' S (BD B):=by
        intro B WU;refine Ec.trans ⟨q.os,q.tape,q.output,q.size,λb l Jl=>q.block b l λy=>Jl (N b (.inr y)),λ_ h=>h,λ_ h=>.inl h,λ_=>UK,λx i=> ?_⟩;rcases WU x i with g|g
        . exact .inl (N x (.inl g))
        . exact(rP x g).imp (λh=>N x (.inr h)) id
       have Z:Rd k a:=λs=>(ha s).trans (JS s).symm;have IU:∀b,a.tmps.getD rr undef= .pointer (some ⟨b,0,none⟩)->w'.heap[b]? =w.heap[b]? :=by
        intro b l;obtain⟨rows,hrr⟩:=I _ _ J;have C:=F.ok rr;have g:(k rr).A0= .pointer (some ⟨b,0,none⟩):=(by rw[← Z rr];exact l);have j:(k rr).er= .own true kb rows:=hrr;cases hδ:k rr with
        |lf x v=>rw[hδ]at j C;simp at j;subst j;cases C with|lf _ _ _ hl _=>simp[HM]at hl
        |agg=>rw[hδ]at j;simp at j
        |BT=>rw[hδ]at j;simp at j
        |own hh bx k0 Ak=>
         rw[hδ]at g j C;simp only[EN,AV.own.injEq]at j;obtain⟨rfl,rfl,_⟩:=j;simp only[KE]at g;generalize hF1:m rr=Fx at C;generalize hvv:hh=dS at C;cases C with
         |own _ _ _ b' c arr E Fs _ fX hk Dv Ku gR hr VZ Bb Jf hF=>
          rw[hvv]at g;simp only[I9,AAo,Value.pointer.injEq,AAG,Addr.mk.injEq,and_true]at g;have e:b'=b:=by first|exact g|exact g.1
          subst e;exact lF rr b' (by rw[hF1];first|exact(hF b').2 (.inl rfl)|exact Jf|simp[hF])
       simp only;cases KQ:io.dst with
       |none=>
        rw[KQ]at hd p;have h0:o.dst=none:=hd;refine⟨⟨_,⟨S,k,m,?_,?_,?_,rfl,F.world oF lF (λ_ h=>h) OE,Ge m (λx i=>.inl i),UK⟩,p⟩,IU,_,rfl⟩
        . rw[h0];exact hn
        . rw[h0];exact EC
        . rw[h0];exact Z
       |some d=>
        rw[KQ]at hd p;simp only[Cw]at p;split at p
        . rename_i τ' Lp;obtain⟨g,j,h3,h4⟩:=hd;rw[← X]at Lp;obtain⟨δ',B,Jt,Iu,DU,Wf⟩:=F.wr j h3 oF lF (λ_ h=>h) OE Zz nV (Rr Zz (by rw[X];exact bG)) Lp;refine⟨⟨τ',⟨S,δ',B,?_,?_,?_,Iu,Jt,Ge B Wf,UK⟩,p⟩,IU,_,rfl⟩
          . rw[g];simpa[Act.put]using hn
          . rw[g];simpa[Act.put]using EC
          . intro s;rw[g,IJ a d.d r.A0 h4 s,DU s];split
            . rfl
            . exact Z s
        . exact p.elim
     . cases U
   . exact p.elim
 . exact z.elim
end Go.Abs
namespace Go.Abs
variable {w w':World} {S S':Nat->Prop} {G:Gi} {δ:Nat->DV} {Fr:Nat->Nat->Prop} {P:Program}
def Dt (G:Gi) (n:Nat) (o:ABh Tmp) (d:ABh Dw):Bool:=
 match o,d with
 |none,none=>true
 |some t,some d=>t==d.d&&d.kl==G.Nk d.d&&d.rs==G.Gc d.d&&decide (d.d<n)
 |_,_=>false
theorem ES {n:Nat} {a:Act} {o:Oper} {d:ABh Dw} (h:Dt G n o.dst d=true) (hn:a.tmps.size=n):Ip G a o d:=by
 unfold Dt at h;split at h
 . rename_i b;exact b
 . rename_i t d b;simp only[AAH,AAV,AAZ]at h;obtain⟨⟨⟨rfl,c⟩,e⟩,f⟩:=h;exact⟨b,c,e,by rw[hn];exact f⟩
 . cases h
theorem Tt (h:St G w S δ Fr) {x:Ar} {r:Nat} {p:List Step} {b:Bool} {k:Nat} {rows:List (List AV)} (d:plc (λs=>(δ s).er) x=some (r,p)) (n:sub (δ r).er p=some (.own b k rows)):
 ∃f,Ao (δ r) p=some (.own (C0 δ x) b k f)/\(DV.own (C0 δ x) b k f).er= .own b k rows:=by
 obtain⟨D,g,e⟩:=Dj (h.ok r).KU n;have j:∃v f,D= .own v b k f:=by
  have:=(h.ok r).KU.Ao g;cases D with
  |own v bx o c=>simp only[EN,AV.own.injEq]at e;obtain⟨rfl,rfl,_⟩:=e;exact⟨v,c,rfl⟩
  |lf a v=>cases this with|lf _ _ i=>simp at e;subst e;simp[C3]at i
  |agg cs=>simp at e
  |BT cs=>simp at e
 obtain⟨v,f,rfl⟩:=j;unfold plc at d;split at d
 . rename_i s;split at d
   . rename_i t p' l;simp only[AAG,AAU]at d;obtain⟨rfl,rfl⟩:=d;obtain⟨q,_,m⟩:=h.leaf l rfl;obtain⟨bx,o,c,i⟩:=m;rw[g]at i;simp only[AAG,DV.own.injEq]at i;obtain⟨rfl,rfl,rfl,rfl⟩:=i;exact⟨_,g,e⟩
   . simp only[AAG,AAU]at d;obtain⟨rfl,rfl⟩:=d;simp only[Ao,AAG]at g;refine⟨f,?_,?_⟩
     . simp[Ao,C0,g]
     . rw[← e];simp
   . cases d
 . cases d
theorem Te {d:DV} (h:Hl d.er=true):DQ δ d:=by
 cases d with
 |own=>exact .own _ _ _ _
 |lf a v=>refine .lf _ _ ?_;simp only[El]at h;cases a<;>simp_all [Hl,MF]
 |agg=>simp[Hl]at h
 |BT=>simp[Hl]at h
theorem NG {L:List Nat} {a:AV} (h:Hl a=true):FM L a=true:=by cases a<;>simp_all [Hl]
theorem W6 {d:DV} {F:Nat->Prop} (h:Ok w S d F):∃D,D.er=Q8 d.er/\D.A0=d.A0/\Ok w S D (λ_=>False):=by
 have dead:Q8 d.er= .dead->∃D,D.er=Q8 d.er/\D.A0=d.A0/\Ok w S D (λ_=>False):=λe=>⟨.lf .dead d.A0,by simp[e],by simp,.lf _ _ _ trivial (λ_ h=>h)⟩;cases h with
 |lf a v _ ha _=>
  cases a with
  |sc u=>exact⟨.lf (.sc u) v,by simp[Q8],by simp,.lf _ _ _ ha (λ_ h=>h)⟩
  |sl e k rows=>
   refine⟨.lf (.sl false k rows) v,by simp[Q8],by simp,.lf _ _ _ ?_ (λ_ h=>h)⟩;have f:Fz w S (.sl e k rows) v:=ha;show Fz w S (.sl false k rows) v;cases f with
   |nil x k a c hx=>exact .nil _ _ _ _ (by simp)
   |sl x k rows b off c vs hx QY hS hk hc hr=>exact .sl _ _ _ b off c vs (by simp) QY hS hk hc hr
  |_=>exact dead (by simp[Q8])
 |nil=>exact dead (by simp[Q8])
 |own=>exact dead (by simp[Q8])
 |agg=>exact dead (by simp[Q8])
 |BT=>exact dead (by simp[Q8])
theorem UW {ds:List DV} (h:∀(i:Nat) d,ds[i]? =some d->∃F,Ok w S d F):∃a:List DV,a.map DV.er=(ds.map DV.er).map Q8/\a.map DV.A0=ds.map DV.A0/\∀D∈a,Ok w S D (λ_=>False):=by
 induction ds with
 |nil=>exact⟨[],rfl,rfl,by simp⟩
 |cons d ds ih=>
  obtain⟨F,m⟩:=h 0 d rfl;obtain⟨D,j,k,l⟩:=W6 m;obtain⟨a,c,f,g⟩:=ih (λi e hi=>h (i+1) e hi);refine⟨D::a,by simp[j,c],by simp[k,f],λe b=> ?_⟩;rcases AAg.1 b with rfl|b
  . exact l
  . exact g e b
theorem PY {d:DV} {F:Nat->Prop} {b:List AV} (h:Ok w S d F) (a:d.er= .agg b):∃ds,d= .agg ds/\ds.map DV.er=b:=by
 have:=h.KU;cases d with
 |agg ds=>exact⟨ds,rfl,by simpa using a⟩
 |lf c v=>cases this with|lf _ _ hl=>simp at a;subst a;simp[C3]at hl
 |own=>simp at a
 |BT=>simp at a
theorem tA (h:St G w S δ Fr) {x:Ar} (u:Vm x) {b:AV} (e:rdF (λs=>(δ s).er) x=some b):∃D,D.er=b/\D.A0=C0 δ x/\Ok w S D (λ_=>False):=by
 cases x with
 |t s=>
  simp only[rdF]at e;cases hs:(δ s).er with
  |agg cs=>
   rw[hs]at e;simp only[AAG]at e;subst e;obtain⟨ds,hd,r⟩:=PY (h.ok s) hs;have l:=h.ok s;rw[hd]at l;cases l with
   |agg _ Fs _ h1 h2 h3 h4=>obtain⟨n,o,p,q⟩:=UW (λi d hi=>⟨_,h1 i d hi⟩);exact⟨.agg n,by simp[o,← r],by simp[C0,hd,p],B0.2 (Ca q)⟩
  |_=>rw[hs]at e;simp only[AAG]at e;subst e;rw[← hs];exact W6 (h.ok s)
 |c c=>
  obtain⟨g,j⟩:=u;obtain⟨f,m,y,_⟩:=ID (w:=w) (S:=S) (δ:=δ) c g j;simp only[rdF]at e;split at e
  . rename_i v;simp only[AAG]at e;subst e;exact⟨g,f,by simp[C0,j],m⟩
  . rename_i k _;simp only[AAG]at e;subst e;refine⟨.lf (.sl false k []) g.A0,by simp,by simp[C0,j],.lf _ _ _ ?_ (λ_ h=>h)⟩
    have:=m;cases g with
    |own v bx k' rows=>
     simp only[EN,AV.own.injEq,List.map_eq_nil_iff]at f;obtain⟨rfl,rfl,rfl⟩:=f;cases this with
     |nil=>rw[KE];exact Fz.nil false k' none 0 (by simp)
     |own _ _ _ b c arr E Fs _ hb hk Dv Ku hv Vl LZ Bb Jf gF=>exact absurd ((gF b).2 (.inl rfl)) id
    |lf a v=>simp only[El]at f;subst f;cases this with|lf _ _ _ ha _=>exact ha.elim
    |agg=>simp at f
    |BT=>simp at f
  . cases e
theorem Q9 (h:St G w S δ Fr) {a:Act} (p:Rd δ a) (j:List Ar):∀{f:List Operand} {c:List AV},GN f j=true->OI (λs=>(δ s).er) j=some c->
 ∃i:List DV,i.map DV.er=c/\i.map DV.A0=f.map a.eval/\∀D∈i,Ok w S D (λ_=>False):=by
 induction j with
 |nil=>
  intro f c g d;cases f with
  |cons=>simp[GN]at g
  |nil=>simp only[OI,AAG]at d;subst d;exact⟨[],rfl,rfl,by simp⟩
 |cons y j ih=>
  intro f c g d;cases f with
  |nil=>simp[GN]at g
  |cons x f=>
   simp only[GN,AAH]at g;obtain⟨q,m⟩:=Ah g.1 p;simp only[OI]at d;split at d
   . rename_i b l n o;simp only[AAG]at d;subst d;obtain⟨D,r,t,u⟩:=tA h q n;obtain⟨i,v,z,B⟩:=ih g.2 o;refine⟨D::i,by simp[r,v],by simp[t,z,m],?_⟩;intro e k;rcases AAg.1 k with rfl|k
     . exact u
     . exact B e k
   . cases d
theorem mW {l r:List DV} {D:DV} {F:Nat->Prop} (c:∀d∈l,Ok w S d (λ_=>False)) (b:Ok w S D F) (e:∀d∈r,Ok w S d (λ_=>False)):JH w S (l++D::r) F:=by have a:JH w S (D::r) F:=⟨F,λ_=>False,b,Ca e,λ_ _ h=>h,λx=>by simp⟩;exact(K3 (Ca c) a (λ_ h=>h.elim)).congr λx=>by simp
theorem wQ {l r:List DV} {D:DV} {F:Nat->Prop} (h:JH w S (l++D::r) F):∃a,Ok w S D a/\∀x,a x->F x:=by obtain⟨b,c,f,g,d⟩:=JM.1 h;exact⟨b l.length,c _ D (by simp),λx e=>(d x).2 ⟨_,e⟩⟩
theorem lS (h:St G w S δ Fr) {x:Ar} (hx:Vm x) {c:ABh Nat} {r:Nat} {p:List Step} {b:Bool} {k:Nat} {rows:List (List AV)} (f:O5 (λs=>(δ s).er) x c=some (r,p)) (X:sub (δ r).er p=some (.own b k rows)):
 ∃v e,Ao (δ r) p=some (.own v b k e)/\(DV.own v b k e).er= .own b k rows/\∀(J:Nat->Prop),Ok w S (.own v b k e) J->
  ∃D,D.er=SL (λs=>(δ s).er) x c (.own b k rows)/\D.A0=C0 δ x/\Ok w S D J/\∀(w':World) (S' C:Nat->Prop) (B:DV) (o:AV),B.A0=D.A0->Rf c B.er=some o->Ok w' S' B C->∃(o':DV) (F'':Nat->Prop),o'.er=o/\o'.A0=v/\Ok w' S' o' F''/\∀y,F'' y->C y:=by
 cases c with
 |none=>obtain⟨e,E,P⟩:=Tt h (x:=x) f X;refine⟨_,e,E,P,λJ N=>⟨_,P,by simp,N,?_⟩⟩;intro w' S' C B o M g L;simp only[Rf,AAG]at g;exact⟨B,C,g,by simpa using M,L,λ_ h=>h⟩
 |some j=>
  cases x with
  |c=>simp[O5]at f
  |t s=>
   simp only[O5]at f;cases hse:(δ s).er with
   |agg cs=>
    rw[hse]at f;simp only at f;obtain⟨ds,hd,T⟩:=PY (h.ok s) hse;have n:=h.ok s;rw[hd]at n;cases n with
    |agg _ Fs _ g1 g2 g3 g4=>
     cases hdj:ds[j]? with
     |none=>rw[← T]at f;simp[hdj]at f
     |some dj=>
      have R:cs[j]? =some dj.er:=(by rw[← T];simp[hdj]);rw[R]at f
      try simp only at f
      obtain⟨v,e,e1,V,e3⟩:∃v e,Ao (δ r) p=some (.own v b k e)/\(DV.own v b k e).er= .own b k rows/\dj.A0=v:=by
       obtain⟨D,F,q⟩:=Dj (h.ok r).KU X;have Dy:∃v e,D= .own v b k e:=by
        have:=(h.ok r).KU.Ao F;cases D with
        |own v bx k' l=>simp only[EN,AV.own.injEq]at q;obtain⟨rfl,rfl,_⟩:=q;exact⟨v,l,rfl⟩
        |lf a v=>cases this with|lf _ _ H=>simp at q;subst q;simp[C3]at H
        |agg cs=>simp at q
        |BT cs=>simp at q
       obtain⟨v,e,rfl⟩:=Dy;refine⟨v,e,F,q,?_⟩;split at f
       . rename_i r' p' m;simp only[AAG,AAG,AAU]at f m;obtain⟨rfl,rfl⟩:=f;have K:=h.al s;rw[hd]at K;cases K with
         |agg _ K=>
          have E:=K j dj hdj;have P:=g1 j dj hdj;cases dj with
          |lf a u=>
           simp only[El]at m;subst m;cases E with
           |lf _ _ E=>obtain⟨bx,k',l,H⟩:=E;rw[F]at H;simp only[AAG,DV.own.injEq]at H;simp[H.1]
          |own=>simp at m
          |agg=>simp at m
          |BT=>simp at m
       . rename_i m;simp only[AAG,AAU]at f;obtain⟨rfl,rfl⟩:=f;simp only[hd,Ao,hdj,AAG]at F;subst F;simp
       . cases f
      refine⟨v,e,e1,V,λJ N=> ?_⟩;obtain⟨z,k1,Z,k3⟩:=UW (λi d hi=>⟨_,g1 i d hi⟩);have hjl:j<ds.length:=(AAI.1 hdj).1;have W:z.length=ds.length:=(by have:=congrArg List.length Z;simpa using this);have lE:z.set j (.own v b k e)=z.take j++ .own v b k e::z.drop (j+1):=List.set_eq_take_append_cons_drop.trans (by rw[AAP (by omega)]);refine⟨.agg (z.set j (.own v b k e)),?_,?_,?_,?_⟩
      . simp only[G7,SL,ar,hse,List.map_set,k1,V,T]
      . simp only[JP,C0,hd,List.map_set,Z,KE];congr 2;rw[← e3];apply ABU;intro i;simp only[List.getElem?_set,AAR,AAn];split
        . rename_i Ib;subst Ib;rw[hdj];rfl
        . rfl
      . rw[lE];exact B0.2 (mW (λd O=>k3 d (ABa O)) N (λd O=>k3 d (List.mem_of_mem_drop O)))
      . intro w' S' C B o M g L;simp only[Rf]at g;split at g
        . rename_i os m;obtain⟨I,rfl,U⟩:=PY L m;rw[← U]at g;simp only[AAR]at g;cases hoj:I[j]? with
          |none=>simp[hoj]at g
          |some oj=>
           simp only[hoj,AAk,AAG]at g;cases L with
           |agg _ Fs' _ m1 m2 m3 m4=>
            refine⟨oj,Fs' j,g,?_,m1 j oj hoj,λy hy=>(m4 y).2 ⟨j,hy⟩⟩;simp only[JP,Value.agg.injEq]at M;have Q:I.map DV.A0=(z.set j (.own v b k e)).map DV.A0:=by have:=congrArg Array.toList M;simpa using this
            have:=congrArg (·[j]?) Q;simp only[AAR,hoj,AAk,List.getElem?_set]at this;rw[AAP trivial,AAP (by omega)]at this;simpa using this
        . cases g
   |_=>rw[hse]at f;cases f
theorem sQ {n:Nat} {w0:World} {S0 U0:Nat->Prop} (hG:X0 w0 S0 U0) {a:Act} {σ:Sg} (h:Rel G n w0 S0 U0 a w σ) {o:Oper} {d:ABh Dw} {f:Nat} {x:Ar} {c:ABh Nat} {B u:List Ar} {K:Sg->Prop} {r:Nat} {p:List Step} {O bs:List AV} {b:Bool} {k:Nat} {rows:List (List AV)} {res out ou t:AV}
 (Of:JQ P o.op f (B++x::u) 0=true) (bF:Dt G n o.dst d=true) (hp:O5 σ x c=some (r,p)) (YB:OI σ B=some O) (Mk:OI σ u=some bs) (hs:sub (σ r) p=some (.own b k rows))
 (JA:BM P f (O++SL σ x c (.own b k rows)::bs) res ((O.map λ_=>.dead)++out::bs.map λ_=>.dead)) (hba:Rf c out=some ou) (Oe:Hl ou=true) (Gu:clean res=true) (Gz:put (σ r) p ou=some t) (hK:Cw d res K (DP (Fk G (SM ou b k p) r σ) r t)) (Q:Exit->Act->World->Prop):
 o.wp P a w (λa' w'=>∃σ',Rel G n w0 S0 U0 a' w' σ'/\K σ') Q:=by
 obtain⟨S,δ,Fr,hn,EC,ha,rfl,m,Ec,Cy⟩:=h;obtain⟨cc,fn,ho,Kv,hf,hfb,lA,hm3,M⟩:=Ks Of;have hd:=ES bF hn;obtain⟨xs,x0,ys,FW,hxs,hx0,hys⟩:∃xs x0 ys,cc.args.toList=xs++x0::ys/\GN xs B=true/\CH x0 x=true/\GN ys u=true:=by
  generalize cc.args.toList=l at M;clear YB Mk hp JA Of;induction B generalizing l with
  |nil=>
   cases l with
   |nil=>simp[GN]at M
   |cons x0 xs=>simp only[ABB,GN,AAH]at M;exact⟨[],x0,xs,rfl,rfl,M.1,M.2⟩
  |cons y B ih=>
   cases l with
   |nil=>simp[GN]at M
   |cons y0 l=>simp only[AAz,GN,AAH]at M;obtain⟨xs,x0,ys,i,z,h3,h4⟩:=ih l M.2;exact⟨y0::xs,x0,ys,by simp[i],by simp[GN,M.1,z],h3,h4⟩
 obtain⟨hxo,ex0⟩:=Ah hx0 ha;obtain⟨v,Ak,hD,E4,hlent⟩:=lS m hxo hp hs;obtain⟨R,YA,Bv,MJ⟩:=(m.ok r).replace p hD;obtain⟨Dx,hDx,hDxa,hDxo,hbk⟩:=hlent R YA;obtain⟨F,p1,p2,p3⟩:=Q9 m ha B hxs YB;obtain⟨Ds2,q1,q2,q3⟩:=Q9 m ha u hys Mk;have F9:=JA w S (F++Dx::Ds2) R (hG.now Ec) (by simp[p1,q1,hDx]) (BK.2 (mW p3 hDxo q3)) Cy;have WW:(List.map DV.A0 (F++Dx::Ds2))=cc.args.toList.map a.eval:=by rw[FW];simp[p2,q2,hDxa,ex0]
 unfold Oper.wp;rw[TF ho Kv hf hfb lA,Oper.upon_enter,← WW];refine F9.mono ?_;rintro e w' ⟨rD,os,S',F',rfl,P2,hoe,vL,Co,W,LY,nR,KP,WT⟩;obtain⟨Fa,Fb,V,hosk,hdab,P0⟩:=BK.1 Co;obtain⟨os1,oX,os2,rfl,hl1,hXe,hXa⟩:∃os1 oX os2,os=os1++oX::os2/\os1.length=F.length/\oX.er=out/\oX.A0=Dx.A0:=by
  have D:O.length=F.length:=by rw[← p1];simp
  have hlen:os.length=F.length+(Ds2.length+1):=by have:=congrArg List.length vL;simpa using this
  have I:F.length<os.length:=by omega
  refine⟨os.take F.length,os[F.length],os.drop (F.length+1),?_,by simp;omega,?_,?_⟩
  . rw[← ABD I,ABY]
  . have:=congrArg (·[F.length]?) hoe;simp only[AAR,AAL I,AAk]at this;rw[AAl (by simp[D])]at this;simpa[D]using this
  . have:=congrArg (·[F.length]?) vL;simp only[AAR,AAL I,AAk]at this;simpa using this
 obtain⟨FX,hoX,hFX⟩:=wQ hosk;obtain⟨oD,Fc,T,E,hoD,hFcX⟩:=hbk w' S' FX oX ou hXa (by rw[hXe];exact hba) hoX;have I:∀s x,Fr s x->x<w.heap.size:=λs x g=>(m.ok s).lt x g;have U:∀x,Fc x->Fb x:=λx g=>hFX x (hFcX x g);have Z:∀x,Fc x->R x∨w.heap.size≤x:=λx g=>WT x ((P0 x).2 (.inr (U x g)));have rP:∀x,Fa x->R x∨w.heap.size≤x:=λx g=>WT x ((P0 x).2 (.inl g));have oF:∀b,S b->w'.heap[b]? =w.heap[b]? :=λb j=>W.block b (Cy b j) (λhf=>YA.Ek b hf j);have lF:∀s b,Fr s b->¬R b->w'.heap[b]? =w.heap[b]? :=λs b j J=>W.block b (I s b j) J;have zT:∀s b,Fr s b->¬R b->¬S' b:=by
  intro s b j J h';rcases nR b h' with i|i|i
  . exact(m.ok s).Ek b j i
  . exact J i
  . have:=I s b j;omega
 have SA:∀s,s≠r->∀x,Fr s x->¬R x:=λs C x g hf=>C (m.LX s r x g (Bv x hf));obtain⟨tD,X,oE,hokt,HY,DU⟩:=MJ w' S' oD Fc (by rw[E];simp) hoD (λx g hr=>(Z x g).elim id λbB=>absurd (I r x hr) (by omega)) oF (λb j J=>lF r b j J) LY (λb j J=>zT r b j J);have r7:tD.er=t:=by obtain⟨t',i,z⟩:=Gr (d:=δ r) (p:=p) (a:=t) oD (m.ok r).KU (by rw[T];exact Gz);rw[oE]at i;obtain rfl:=AAJ i;exact z
 have AAD:∀s,s≠r->∀x,X x->¬Fr s x:=by
  intro s C x g hy;rcases(HY x).1 g with⟨i,_⟩|i
  . exact C (m.LX s r x hy i)
  . rcases Z x i with z|z
    . exact SA s C x hy z
    . have:=I s x hy;omega
 have fX:Hl oD.er=true:=by rw[T];exact Oe
 have GG:DQ δ oD:=Te fX;have hrin:∀L,FM L oD.er=true:=λL=>NG fX;generalize hN:SM ou b k p=N at hK;have hab:∀q v' bx k' H,q.length<N->Ao (δ r) q=some (.own v' bx k' H)->∃IV,Ao tD q=some (.own v' bx k' IV):=by
  intro q v' bx k' H hq hsq;subst hN;unfold SM at hq;split at hq
  . rename_i b1 k1 JF;split at hq
    . rename_i e;obtain⟨rfl,rfl⟩:=e;refine Mq q p (by omega) oE (λ_ v2 bx2 k2 IV z=> ?_) hsq;rw[hD]at z;cases z;cases oD with
      |own hh b2 k2 IV=>simp only[EN,AV.own.injEq]at T;obtain⟨rfl,rfl,_⟩:=T;simp only[KE]at E;exact⟨IV,by rw[E]⟩
      |lf a v=>simp only[El]at T;subst T;cases hoD with|lf _ _ _ h=>exact h.elim
      |agg=>simp at T
      |BT=>simp at T
    . omega
  . omega
 have En:St G w' S' (DP (EP G N r δ) r tD) (DP Fr r X):=
  m.setn N r tD X oF (λs C x g=>lF s x g (SA s C x g)) LY (λs C x g=>zT s x g (SA s C x g)) hokt AAD (LO p oE (m.rt r) (hrin _)) (Lv p oE (m.al r) GG) hab
 have WZ:(λs=>(DP (EP G N r δ) r tD s).er)=DP (Fk G N r λs=>(δ s).er) r t:=by
  funext s;unfold DP;split
  . exact r7
  . exact m.Pg N r s
 have JS:∀s,(DP (EP G N r δ) r tD s).A0=(δ s).A0:=by
  intro s;unfold DP;split
  . rename_i e;rw[e,DU]
  . exact m.LH N r s
 have hF1:∀s x,DP Fr r X s x->(Fr s x/\¬R x)∨(s=r/\Fc x):=by
  intro s x g;by_cases C:s=r
  . subst C;rw[BG]at g;exact((HY x).1 g).imp id λh=>⟨rfl,h⟩
  . rw[Ba _ _ C]at g;exact .inl ⟨g,SA s C x g⟩
 have AAC:∀s x,DP Fr r X s x->¬Fa x:=by
  intro s x g hy;rcases hF1 s x g with⟨i,z⟩|⟨_,i⟩
  . rcases rP x hy with h3|h3
    . exact z h3
    . have:=I s x i;omega
  . exact hdab x hy (U x i)
 have hOwn1:∀x,BD (DP Fr r X) x->BD Fr x∨w.heap.size≤x:=by
  rintro x ⟨s,g⟩;rcases hF1 s x g with⟨i,_⟩|⟨_,i⟩
  . exact .inl ⟨s,i⟩
  . exact(Z x i).imp (λh=>⟨r,Bv x h⟩) id
 have Ge:∀F3:Nat->Nat->Prop,(∀x,BD F3 x->BD (DP Fr r X) x∨Fa x)->Nx w0 S0 U0 w' S' (BD F3):=by
  intro F3 hF3;refine Ec.trans ⟨W.os,W.tape,W.output,W.size,λb j J=>W.block b j λhf=>J ⟨r,Bv b hf⟩,LY,λb j=>(nR b j).imp id (Or.imp (λh=>⟨r,Bv b h⟩) id),λ_=>KP,λx g=> ?_⟩;rcases hF3 x g with i|i
  . exact hOwn1 x i
  . exact(rP x i).imp (λh=>⟨r,Bv x h⟩) id
 rw[← WZ]at hK;have QT:Rd (DP (EP G N r δ) r tD) a:=λs=>(ha s).trans (JS s).symm;simp only;cases d with
 |none=>
  have h0:o.dst=none:=hd;refine⟨_,⟨S',_,_,?_,?_,?_,rfl,En,Ge _ (λx g=>.inl g),KP⟩,hK⟩
  . rw[h0];exact hn
  . rw[h0];exact EC
  . rw[h0];exact QT
 |some d=>
  simp only[Cw]at hK;split at hK
  . rename_i τ' Lp;obtain⟨i,z,h3,h4⟩:=hd;rw[← P2]at Lp;obtain⟨δ',F3,Jt,Iu,QU,Dy⟩:=En.wr z h3 (λ_ _=>rfl) (λ_ _ _=>rfl) (λ_ h=>h) (λs x g=>(En.ok s).Ek x g) V AAC (WA V (by rw[P2];exact Gu)) Lp;refine⟨τ',⟨S',δ',F3,?_,?_,?_,Iu,Jt,Ge F3 Dy,KP⟩,hK⟩
    . rw[i];simpa[Act.put]using hn
    . rw[i];simpa[Act.put]using EC
    . intro s;rw[i,IJ a d.d rD.A0 h4 s,QU s];split
      . rfl
      . exact QT s
  . exact hK.elim
end Go.Abs
namespace Go.Abs
variable {w w':World} {S S':Nat->Prop} {G:Gi} {δ:Nat->DV} {Fr:Nat->Nat->Prop} {P:Program}
def KM (n:Nat) (ops:Array Oper) (g:ABh (Nat×Bool)) (h:ABh (Nat×Bool)):Bool:=
 match g,h with
 |none,none=>true
 |some (j,b),some (s,b')=>(ops[j]?).bind (·.dst)==some s&&b==b'&&decide (s<n)
 |_,_=>false
def Gm (P:Program) (G:Gi) (n:Nat) (ops:Array Oper) (o:Oper) (io:BP):Bool:=
 Dt G n o.dst io.dst&&KM n ops o.guard io.guard&&(match io.op with
  | .call f args m=>JQ P o.op f args m
  | .Ww f pre x _ post=>JQ P o.op f (pre++x::post) 0
  |op=>I7 P o.op op)
theorem V3 {n:Nat} {u:World} {j k:Nat->Prop} (I:X0 u j k) {a:Act} {σ:Sg} (h:Rel G n u j k a w σ) {ops:Array Oper} {o:Oper} {io:BP} (J:Gm P G n ops o io=true) {K:Sg->Prop} (d:D8 P G io K σ) (Q:Exit->Act->World->Prop):
 o.wp P a w (λy w'=>∃σ',Rel G n u j k y w' σ'/\K σ') Q:=by
 simp only[Gm,AAH]at J;obtain⟨⟨H,_⟩,g⟩:=J;have F:=h;obtain⟨S,δ,Fr,hn,M,ha,rfl,L,N,E⟩:=h;have hd:=ES H hn;have i:∀{op:Xu},io.op=op->(match F6 G op io.dst (λs=>(δ s).er)with|some τ=>K τ|none=>False)->I7 P o.op op=true->o.wp P a w (λy w'=>∃σ',Rel G n u j k y w' σ'/\K σ') Q:=by
  intro op _ B hk;split at B
  . rename_i τ l;obtain⟨nx,v,w',S',D,O,q,C,RZ,U,W,e⟩:=op_sound L E ha hd hk l;have key:∃σ',Rel G n u j k (a.put o.dst v) w' σ'/\K σ':=by
     refine⟨τ,⟨S',D,O,?_,?_,RZ,U,W,N.trans e,e.lt E⟩,B⟩
     . cases ho:o.dst<;>simp[Act.put,hn]
     . cases ho:o.dst<;>simp[Act.put,M]
    unfold Oper.wp;rw[q];rcases C with rfl|⟨rfl,rfl⟩
    . rw[Oper.upon_value];exact key
    . rw[Oper.upon_skip];exact key
  . exact B.elim
 cases HU:io.op with
 |call f args m=>rw[HU]at g;exact jJ I F HU g hd d Q
 |Ww f pre x c post=>
  rw[HU]at g;unfold D8 at d;rw[HU]at d;simp only at d g;split at d
  . rename_i r p aZ9 bs hp YB X;split at d
    . rename_i b kk rows hs;obtain⟨res,out,ou,V,z,Z,R,q⟩:=d;split at q
      . rename_i t T;exact sQ I F g H hp YB X hs V z Z R T q Q
      . exact q.elim
    . exact d.elim
  . exact d.elim
 |_=>rw[HU]at g;unfold D8 at d;rw[HU]at d;exact i HU d g
theorem Od {n:Nat} {W:World} {N O:Nat->Prop} {a:Act} {σ:Sg} (h:Rel G n W N O a w σ) {ops:Array Oper} {o:Oper} {y:ABh Dw} {I:ABh (Nat×Bool)} (h1:Dt G n o.dst y=true) (c:KM n ops o.guard I=true) {A K:Sg->Prop} {next:Act->World->Prop} (Q:Exit->Act->World->Prop)
 (T:A σ->o.wp P a w next Q) (U:∀R σ',Rel G n W N O R w σ'->K σ'->next R w) (k:gdP I A (Xi y K) σ) {i:Nat} (hi:ops[i]? =some o):wpOp P ops Q i next a w:=by
 unfold wpOp;rw[hi];simp only;have skip:Xi y K σ->next (a.put o.dst undef) w:=by
  intro t;unfold Xi at t;obtain⟨S,δ,Fr,hn,z,r,rfl,q,M,L⟩:=h;have hd:=ES h1 hn;cases LZ:y with
  |none=>rw[LZ]at t hd;have h0:o.dst=none:=hd;rw[h0];exact U _ _ ⟨S,δ,Fr,hn,z,r,rfl,q,M,L⟩ t
  |some d=>
   rw[LZ]at t hd;obtain⟨B,g2,g3,g4⟩:=hd;have Lp:wr d (DV.lf .un undef).er (λs=>(δ s).er)=some (DP (JC d.kl d.d λs=>(δ s).er) d.d .un):=(by simp[wr]);obtain⟨J,F',Jt,Iu,X,Z⟩:=q.wr (D:=.lf .un undef) (Ff:=λ_=>False) g2 g3 (λ_ _=>rfl) (λ_ _ _=>rfl) (λ_ h=>h) (λs x H=>(q.ok s).Ek x H) (.lf _ _ _ rfl (λ_ h=>h)) (λ_ _ _ h=>h) (.lf _ _ trivial) Lp;refine U _ _ ⟨S,J,F',?_,?_,?_,Iu,Jt,M.trans (Nx.less λx H=>(Z x H).elim (λh=>h) False.elim),L⟩ t
   . rw[B];simpa[Act.put]using hn
   . rw[B];simpa[Act.put]using z
   . intro s;rw[B,IJ a d.d undef g4 s,X s];split
     . rfl
     . exact r s
 cases I with
 |none=>
  have e:o.guard=none:=by
   cases ho:o.guard with
   |none=>rfl
   |some g=>rw[ho]at c;simp[KM]at c
  have hw:Region.wanted o (yielded ops a.tmps)=true:=by simp[Region.wanted,e]
  rw[AAP hw];exact .inl (T k)
 |some g=>
  obtain⟨s,l⟩:=g;simp only[gdP]at k;obtain⟨j,e,E,F⟩:∃j,o.guard=some (j,l)/\(ops[j]?).bind (·.dst)=some s/\s<n:=by
   cases ho:o.guard with
   |none=>rw[ho]at c;simp[KM]at c
   |some g=>obtain⟨j,b⟩:=g;rw[ho]at c;simp only[KM,AAH,AAV,AAZ]at c;exact⟨j,by rw[c.1.2],c.1.1,c.2⟩
  have V:yielded ops a.tmps j=match a.tmps.getD s undef with| .bool b=>some b|_=>none:=by obtain⟨S,δ,Fr,hn,_⟩:=h;have u:s<a.tmps.size:=(by rw[hn];exact F);unfold yielded;rw[E];simp only[AAF,Array.getElem?_eq_getElem u,AAc,Option.getD_some];cases a.tmps[s]<;>rfl
  have p:a.tmps.getD s undef=match σ s with| .sc v=>v| .un=>undef|_=>a.tmps.getD s undef:=by
   obtain⟨S,δ,Fr,hn,z,r,rfl,q,_⟩:=h;simp only;cases u:(δ s).er with
   |sc v=>rw[r s];exact(q.leaf u rfl).2.1.1
   |un=>rw[r s];exact(q.leaf u rfl).2.1
   |_=>rfl
  split at k
  . rename_i b C;rw[C]at p;simp only at p;have f:Region.wanted o (yielded ops a.tmps)=(some b==some l):=(by simp only[Region.wanted,e,V,p]);split at k
    . rename_i m;subst m;rw[AAP (by rw[f];simp)];exact .inl (T k)
    . rename_i m;rw[AAO (by rw[f];simp[m])];exact skip k
  . rename_i C;rw[C]at p;simp only at p;have f:Region.wanted o (yielded ops a.tmps)=false:=(by simp only[Region.wanted,e,V,p];rfl);rw[AAO (by rw[f];simp)];exact skip k
  . exact k.elim
theorem IA {n:Nat} {e:World} {b d:Nat->Prop} (l:X0 e b d) {a:Act} {σ:Sg} (h:Rel G n e b d a w σ) {ops:Array Oper} {o:Oper} {io:BP} (f:Gm P G n ops o io=true) {K:Sg->Prop} (g:KK P G io K σ) (Q:Exit->Act->World->Prop) {i:Nat} (hi:ops[i]? =some o):
 wpOp P ops Q i (λj w'=>∃σ',Rel G n e b d j w' σ'/\K σ') a w:=by
 have c:=f;simp only[Gm,AAH]at c;exact Od h c.1.1 c.1.2 (A:=D8 P G io K) Q (λm=>V3 l h f m Q) (λ_ _ r k=>⟨_,r,k⟩) g hi
def LA (P:Program) (G:Gi) (n:Nat) (ops:Array Oper):List Oper->List BP->Bool
 |[],[]=>true
 |o::os,io::DZ=>Gm P G n ops o io&&LA P G n ops os DZ
 |_,_=>false
theorem iV {n:Nat} {j:World} {d e:Nat->Prop} (q:X0 j d e) {ops:Array Oper} {K:Sg->Prop} (Q:Exit->Act->World->Prop) (r:∀a w σ,Rel G n j d e a w σ->K σ->Q .normal a w) (c:List BP):
 ∀(k:Nat) {a:Act} {w:World} {σ:Sg},Rel G n j d e a w σ->LA P G n ops (ops.toList.drop k) c=true->ND P G c K σ->wpOps P ops Q (List.range' k (ops.size-k)) a w:=by
 induction c with
 |nil=>
  intro k a w σ h b i;have l:ops.toList.drop k=[]:=by cases hd:ops.toList.drop k with|nil=>rfl|cons o os=>rw[hd]at b;simp[LA]at b
  have m:ops.size≤k:=by simpa using l
  rw[show ops.size-k=0 from by omega];exact r a w σ h i
 |cons io c ih=>
  intro k a w σ h b i;cases hd:ops.toList.drop k with
  |nil=>rw[hd]at b;simp[LA]at b
  |cons o os=>rw[hd]at b;simp only[LA,AAH]at b;have l:k<ops.size:=(by have:(ops.toList.drop k).length=os.length+1:=(by rw[hd];rfl);simp at this;omega);have s:ops[k]? =some o:=(by have:(ops.toList.drop k)[0]? =some o:=(by rw[hd];rfl);simpa using this);have g:ops.toList.drop (k+1)=os:=(by have:(ops.toList.drop k).drop 1=os:=(by rw[hd];rfl);rw[List.drop_drop]at this;exact this);rw[show ops.size-k=(ops.size-(k+1))+1 from by omega,List.range'_succ,wpOps_cons];refine wpOp_mono ?_ (IA q h b.1 i Q s);rintro t w' ⟨σ',p,f⟩;exact ih (k+1) p (by rw[g];exact b.2) f
end Go.Abs
namespace Go.Abs
variable {w w':World} {S S':Nat->Prop} {G:Gi} {δ:Nat->DV} {Fr:Nat->Nat->Prop} {P:Program}
theorem N6 (d:Nat) (t e:TypeId) (a:ABh Addr) (n c:Nat) (h:P.underlying t=some (.slice e)):(Op.equalIn (d+1) t (.slice a n c) (.slice none 0 0)).run P w= .ok a.isNone w:=by have b:(underlying t).run P w= .ok (.slice e) w:=run_underlying h w;cases a<;>simp[Op.equalIn,b]
theorem eZ (t e:TypeId) (a:ABh Addr) (n c:Nat) (h:P.underlying t=some (.slice e)):(binOp .eql t (.slice a n c) (.slice none 0 0)).run P w= .ok (.bool a.isNone) w:=by simp only[binOp];have:(Op.equal t (.slice a n c) (.slice none 0 0)).run P w= .ok a.isNone w:=N6 9999 t e a n c h;simp[this]
theorem fA (t e:TypeId) (a:ABh Addr) (n c:Nat) (h:P.underlying t=some (.slice e)):(binOp .neq t (.slice a n c) (.slice none 0 0)).run P w= .ok (.bool (!a.isNone)) w:=by simp only[binOp];have:(Op.equal t (.slice a n c) (.slice none 0 0)).run P w= .ok a.isNone w:=N6 9999 t e a n c h;simp[this]
def jY (P:Program) (o:Op) (neg:Bool) (y:Ar):Bool:=match o with
 | .binOp op t x (.const (.slice none 0 0)) _=>(match op with| .eql=> !neg| .neq=>neg|_=>false)&&(match P.underlying t with|some (.slice _)=>true|_=>false)&&CH x y
 |_=>false
theorem lM {n:Nat} {w0:World} {L M:Nat->Prop} {a:Act} {σ:Sg} (h:Rel G n w0 L M a w σ) {o:Oper} {d:Dw} {g:Bool} {x:Ar} {K:Sg->Prop} {rows:List (List AV)} {z:AV} {pl:ABh (Nat×List Step)} (j:jY P o.op g x=true) (bF:Dt G n o.dst (some d)=true)
 (W:hd σ x=some (z,pl)) (i:rowsOf z=some rows) (hK:∀b:Bool,(b=true->rows=[])->Cw (some d) (.sc (.bool (if g=true then !b else b))) K σ) (Q:Exit->Act->World->Prop):
 o.wp P a w (λa' w'=>∃σ',Rel G n w0 L M a' w' σ'/\K σ') Q:=by
 obtain⟨S,δ,Fr,hn,EC,R,rfl,q,Ec,C⟩:=h;unfold jY at j;split at j
 . rename_i op t x' u Z;simp only[AAH]at j;obtain⟨⟨r,O⟩,h3⟩:=j;obtain⟨hx,N⟩:=Ah h3 R;obtain⟨e,U⟩:∃e,P.underlying t=some (.slice e):=by
    split at O
    . exact⟨_,‹_›⟩
    . cases O
   -- the slice's own value
   obtain⟨f,l,c,p,m⟩:∃f l c,C0 δ x= .slice f l c/\(f.isNone=true->rows=[]):=by
    obtain⟨g1,g2⟩:=q.nV hx W;cases z with
    |own b k rows'=>
     cases b with
     |true=>simp[rowsOf]at i
     |false=>
      simp only[rowsOf,AAG]at i;subst i;obtain⟨Ak,F,e1,B,_⟩:=g1 _ _ _ rfl;generalize C0 δ x=v at B;cases B with
      |nil=>exact⟨none,0,0,rfl,λ_=>by rw[← e1];rfl⟩
      |own _ _ _ b c arr E Fs _ T X Dv Ku hvv hr I p Jf hF=>exact⟨_,_,_,by simp[I9];exact⟨rfl,rfl,rfl⟩,by simp⟩
    |sl e' k rows'=>
     simp only[rowsOf,AAG]at i;subst i;obtain⟨s,y,oB⟩:=q.hdSl hx W;have J:=g2 _ _ _ rfl ⟨s,y,oB⟩;generalize C0 δ x=v at J;cases J with
     |nil=>exact⟨_,_,_,rfl,λ_=>rfl⟩
     |sl=>exact⟨_,_,_,rfl,by simp⟩
    |_=>simp[rowsOf]at i
   have T:(execOp a.eval o).run P w= .ok (.value (.bool (if g=true then !f.isNone else f.isNone))) w:=by
    have V:∀op,(eqGuard op t x' (.const (.slice none 0 0)) (.slice f l c) (.slice none 0 0)).run P w= .ok () w:=(by intro op;cases op<;>simp[eqGuard]);have H:a.eval (.const (.slice none 0 0))= .slice none 0 0:=rfl;cases op<;>simp only[AAQ]at r
    . have:g=false:=(by simpa using r);subst this;simp only[execOp,Z,N,p,H,Sem.run_bind,V,Result.andThen_ok,eZ t e f l c U,Sem.run_pure,AAQ,AAY]
    . subst r;simp only[execOp,Z,N,p,H,Sem.run_bind,V,Result.andThen_ok,fA t e f l c U,Sem.run_pure,AAo]
   have X:=hK f.isNone m;have I:=ES bF hn;unfold Oper.wp;rw[T,Oper.upon_value];exact K6 (S2:=S) (D:=.lf (.sc (.bool (if g=true then !f.isNone else f.isNone))) (.bool (if g=true then !f.isNone else f.isNone))) (FD:=λ_=>False) q hn EC R I (by simp) (λ_ _=>rfl) C (λ_ h=>h) (λ_ h=>.inl h) C (.lf _ _ _ ⟨rfl,rfl⟩ (λ_ h=>h)) (λ_ h=>h.elim) (.lf _ _ trivial) Ec rfl rfl rfl (AAr _) X
 . cases j
theorem jO (h:St G w S δ Fr) (rs:List (Nat×List Step)):∀{vs:List Value} {f:List AV},vs.length=rs.length->(∀(i:Nat) r p u,rs[i]? =some (r,p)->vs[i]? =some u->∃bx k rows,Ao (δ r) p=some (.own u bx k rows))->qP (λs=>(δ s).er) rs=some f->
 ∃c:List DV,c.map DV.er=f/\c.map DV.A0=vs/\∀D∈c,Ok w (λx=>S x∨BD Fr x) D (λ_=>False):=by
 induction rs with
 |nil=>
  intro vs f g _ b;cases vs with
  |nil=>simp only[qP,AAG]at b;subst b;exact⟨[],rfl,rfl,by simp⟩
  |cons=>simp at g
 |cons x rs ih=>
  obtain⟨r,p⟩:=x;intro vs f g l b;cases vs with
  |nil=>simp at g
  |cons v vs=>
   simp only[qP]at b;split at b
   . rename_i a m n o;simp only[AAG]at b;subst b;obtain⟨bx,k,rows,q⟩:=l 0 r p v rfl rfl;obtain⟨D,y,z,B⟩:=JD h (d:=.lf (.al r p) v) (F:=λ_=>False) (.lf _ _ _ trivial (λ_ h=>h)) (λ_ h=>h.elim) (.lf _ _ ⟨bx,k,rows,q⟩) (by simpa using n);obtain⟨c,C,E,H⟩:=ih (by simpa using g) (λi r p u hi t=>l (i+1) r p u (by simpa using hi) (by simpa using t)) o;refine⟨D::c,by simp[y,C],by simpa[E]using z,?_⟩;intro e j;rcases AAg.1 j with rfl|j
     . exact B
     . exact H e j
   . cases b
def jS (P:Program) (o:Op) (f:Nat) (y:Ar) (ys:List Ar):Bool:=match o with
 | .call c=>(match c.callee with
  | .value x=>CH x y&&GN c.args.toList ys&&(match P.funcs[f]? with|some fn=>fn.body.isSome&&fn.name != "runtime.NumGoroutine" |none=>false)
  |_=>false)
 |_=>false
theorem run_clo {a:Act} {o:Oper} {c:Call} {x:Operand} {f:Nat} {b:Func} {vs:List Value} (k:o.op= .call c) (i:c.callee= .value x) (m:a.eval x= .func (.func f) #[] vs.toArray) (j:P.funcs[f]? =some b) (n:b.body.isSome=true) (hn:(b.name != "runtime.NumGoroutine")=true):
 (execOp a.eval o).run P w= .ok (.enter f (c.args.toList.map a.eval++vs).toArray) w:=by
 have d:b.body.isNone=false:=by cases h:b.body<;>simp_all
 have e:(b.name== "runtime.NumGoroutine")=false:=by simpa using hn
 have g:c.args.map a.eval=(c.args.toList.map a.eval).toArray:=by apply ABS;simp
 simp only[execOp,k,resolve,i,m,Deferred.ofValue,Sem.run_bind,Sem.run_pure,Result.andThen_ok,invoke,callFunc,g];have l:(program).run P w= .ok P w:=rfl;rw[l];simp only[Result.andThen_ok,j,e,d,AAQ,AAY,Sem.run_pure];simp
theorem qW {n:Nat} {R:World} {F H:Nat->Prop} (hG:X0 R F H) {a:Act} {σ:Sg} (h:Rel G n R F H a w σ) {o:Oper} {d:ABh Dw} {f:Nat} {x:Ar} {args:List Ar} {K:Sg->Prop} {m:List AV} {z v:AV}
 (i:jS P o.op f x args=true) (bF:Dt G n o.dst d=true) (g:yM σ f x args=some m) (JA:Says P f m z) (l:RK 0 z=some v) (hK:Cw d v K σ) (Q:Exit->Act->World->Prop):
 o.wp P a w (λa' w'=>∃σ',Rel G n R F H a' w' σ'/\K σ') Q:=by
 obtain⟨S,δ,Fr,hn,EC,I,rfl,k,T,B⟩:=h;have hd:=ES bF hn;have Mi:=hG.now T;unfold jS at i;split at i
 . rename_i c ho;split at i
   . rename_i x0 Kv;simp only[AAH]at i;obtain⟨⟨h1,h2⟩,p⟩:=i;split at p
     . rename_i fn hf;simp only[AAH]at p;obtain⟨y,ex⟩:=Ah h1 I;unfold yM at g;split at g
       . rename_i f' rs C;split at g
         . rename_i e;subst e;split at g
           . rename_i as1 bs J L;simp only[AAG]at g;subst g;obtain⟨vs,Z,N,O⟩:MF δ (.cl f' rs) (C0 δ x):=by
              cases x with
              |t s=>exact(k.leaf C rfl).2.2
              |c c0=>obtain⟨D0,kY⟩:=y;simp only[ar]at C;subst C;simp[IZ]at kY
             obtain⟨X,p1,p2,p3⟩:=Si k I args h2 J;obtain⟨Ds2,q1,q2,q3⟩:=jO k rs N O L;have F9:=JA w (λx=>S x∨BD Fr x) (X++Ds2) (λ_=>False) (Mi.mono λ_ h=>.inl h) (by simp[p1,q1]) (BK.2 (Ca λD hD=>(AAa.1 hD).elim (p3 D) (q3 D))) (by
              rintro b (q|⟨s,M⟩)
              . exact B b q
              . exact(k.ok s).lt b M)
             have WW:(List.map DV.A0 (X++Ds2))=c.args.toList.map a.eval++vs:=(by simp[p2,q2]);simp only[RK]at l;split at l
             . rename_i E5;simp only[AAG]at l;have W:=WM E5;unfold Oper.wp;rw[run_clo ho Kv (by rw[ex,Z]) hf p.1 p.2,Oper.upon_enter,← WW];refine F9.mono ?_;rintro e w' ⟨r,os,S',F',rfl,E,hoe,vL,Co,j,LY,nR,KP,WT⟩;obtain⟨U,Fb,V,_,_,P0⟩:=BK.1 Co;have u:∀x,U x->w.heap.size≤x:=λx y=>(WT x ((P0 x).2 (.inl y))).resolve_left id;have Oi:Ok w' S r U:=Rt V (by rw[E];exact W) (λx y M=>by have:=B x M;have:=u x y;omega);simp only;exact K6 (S2:=S) k hn EC I hd (E.trans l) (λb q=>j.block b q id) B (λ_ h=>h) (λ_ h=>.inl h) (λb q=>ABI (B b q) j.size) Oi u (Rr V (by rw[E];exact W)) T j.os j.tape j.output j.size hK
             . cases l
           . cases g
         . cases g
       . cases g
     . cases p
   . cases i
 . cases i
def jR (P:Program) (o:Op) (n s:Nat):Bool:=match o with
 | .box t (.tmp s')=>s==s'&&GD P t==some n
 |_=>false
theorem qO {n:Nat} {C:World} {q r:Nat->Prop} {a:Act} {σ:Sg} (h:Rel G n C q r a w σ) {o:Oper} {d:Dw} {m s:Nat} {K:Sg->Prop} {y:List AV} (f:jR P o.op m s=true) (M:Dt G n o.dst (some d)=true)
 (W:σ s= .agg y) (R:y.length=m) (N:∀B:List Value,B.length=m->Cw (some d) (.vb s 0 B) K σ) (Q:Exit->Act->World->Prop):
 o.wp P a w (λL w'=>∃σ',Rel G n C q r L w' σ'/\K σ') Q:=by
 obtain⟨S,δ,Fr,hn,E,z,rfl,k,F,l⟩:=h;have hd:=ES M hn;unfold jR at f;split at f
 . rename_i t X U;simp only[AAH,AAV]at f;obtain⟨rfl,_⟩:=f;obtain⟨ds,J,T⟩:=PY (k.ok s) W;have p:(δ s).A0= .agg (ds.map DV.A0).toArray:=(by rw[J];simp);have H:a.eval (.tmp s)= .agg (ds.map DV.A0).toArray:=(by simp only[Act.eval];rw[z s,p]);have g:(ds.map DV.A0).length=m:=(by rw[← R,← T];simp);have V:(execOp a.eval o).run P w= .ok (.value (.pointer (some ⟨w.heap.size,0,none⟩))) (w.alloc (.cells (ds.map DV.A0).toArray t)):=(by simp only[execOp,U,H,Sem.run_bind,oQ,Result.andThen_ok,Sem.run_pure,Value.cells]);unfold Oper.wp;rw[V,Oper.upon_value];have I:(w.alloc (.cells (ds.map DV.A0).toArray t)).heap.size=w.heap.size+1:=(by show(w.heap.push _).size=_;exact Array.size_push _);have i:∀b,(S b∨b=w.heap.size)->b<(w.alloc (.cells (ds.map DV.A0).toArray t)).heap.size:=by
    intro b c;rw[I];rcases c with c|c
    . have:=l b c;omega
    . omega
   have:=K6 (w':=w.alloc (.cells (ds.map DV.A0).toArray t)) (S2:=λx=>S x∨x=w.heap.size) (D:=.lf (.vb s 0 (ds.map DV.A0)) (.pointer (some ⟨w.heap.size,0,none⟩))) (FD:=λ_=>False) (v:=.vb s 0 (ds.map DV.A0)) (K:=K) k hn E z hd (by simp)
    (λb c=>alloc_old w _ b c) l (λ_ h=>.inl h) (λb c=>c.imp id (λe=>by omega)) i
    (.lf _ _ _ ⟨w.heap.size,rfl,.inr rfl,λj u O=>by simp only[World.cell?,Ye];simpa using O⟩ (λ_ h=>h)) (λ_ h=>h.elim) (.lf _ _ p) F rfl rfl rfl (by omega) (N _ g)
   simpa using this
 . cases f
def jW (P:Program) (o:Op) (g n:Nat):Bool:=match o with
 | .load t (.global g')=>g==g'&&GD P t==some n&&I2 P t==some true
 |_=>false
theorem rN {n:Nat} {r:World} {l p:Nat->Prop} (T:X0 r l p) {a:Act} {σ:Sg} (h:Rel G n r l p a w σ) {o:Oper} {d:Dw} {g m:Nat} {C:List Value} {K:Sg->Prop} (f:jW P o.op g m=true) (N:Dt G n o.dst (some d)=true)
 (c:dG g m=some C) (U:Cw (some d) (.agg (C.map .sc)) K σ) (Q:Exit->Act->World->Prop):
 o.wp P a w (λM w'=>∃σ',Rel G n r l p M w' σ'/\K σ') Q:=by
 obtain⟨S,δ,Fr,hn,J,V,rfl,I,y,u⟩:=h;have L:=T.now y;have hd:=ES N hn;unfold dG at c;split at c
 . rename_i x F;split at c
   . rename_i B;obtain rfl:=AAJ c;have k:=ABZ F;have q:x.1=g:=(by have:=List.find?_some F;simpa using this);obtain⟨_,arr,E,fz,W,H⟩:=L x k;unfold jW at f;split at f
     . rename_i t g' Z;simp only[AAH,AAV]at f;obtain⟨⟨rfl,O⟩,R⟩:=f;have s:=KY (P:=P) (w:=w) (b:=g) (off:=0) (vs:=x.2) O R (.inl rfl) B.1 (by
        intro j v X
        have:=H j v X;simp only[World.cell?];rw[← q,W];simpa using this)
       simp only[AAo]at s;have hr:(execOp a.eval o).run P w= .ok (.value (.agg x.2.toArray)) w:=(by simp only[execOp,Z,Act.eval,Instr.loadAt,Instr.sureAddr,Sem.run_bind,Sem.run_pure,Result.andThen_ok,s]);unfold Oper.wp;rw[hr,Oper.upon_value];have z:∀D∈x.2.map (λv=>DV.lf (.sc v) v),Ok w S D (λ_=>False)/\DQ δ D:=by intro D e;obtain⟨v,hv,rfl⟩:=ABR.1 e;exact⟨.lf _ _ _ ⟨rfl,AAN.1 B.2 v hv⟩ (λ_ h=>h),.lf _ _ trivial⟩
       have:=K6 (S2:=S) (D:=.agg (x.2.map λv=>DV.lf (.sc v) v)) (FD:=λ_=>False) (v:=.agg (x.2.map .sc)) (K:=K) I hn J V hd (by simp[Function.comp_def]) (λ_ _=>rfl) u (λ_ h=>h) (λ_ h=>.inl h) u (B0.2 (Ca λD e=>(z D e).1)) (λ_ h=>h.elim) (.agg _ λi D e=>(z D (AAS e)).2) y rfl rfl rfl (AAr _) U;simpa[Function.comp_def]using this
     . cases f
   . cases c
 . cases c
end Go.Abs
namespace Go.Abs
variable {G:Gi} {A:Nat->Prop} {σ σ' τ τ':Sg}
structure Ag (G:Gi) (A:Nat->Prop) (σ σ':Sg):Prop where
 eq:∀s,A s->σ' s=σ s
 ri:∀s,A s->FM (G.Gc s) (σ s)=true
structure Mv (G:Gi) (A:Nat->Prop) (σ σ' τ τ':Sg):Prop where
 ag:Ag G A τ τ'
 off:∀s,¬A s->τ' s=σ' s/\τ s=σ s
structure Cl (G:Gi) (A:Nat->Prop) (s:Nat):Prop where
 own:A s
 Nk:∀x∈G.Nk s,A x
 rt:∀r∈G.Gc s,A r/\∀x∈G.Nk r,A x
def mP (G:Gi) (A:Nat->Prop):Ar->Prop
 | .t s=>Cl G A s
 | .c a=>FM [] a=true
theorem Mv.refl (h:Ag G A σ σ'):Mv G A σ σ' σ σ':=⟨h,λ_ _=>⟨rfl,rfl⟩⟩
theorem Mv.trans {d a:Sg} (h:Mv G A σ σ' τ τ') (c:Mv G A τ τ' d a):Mv G A σ σ' d a:=
 ⟨c.ag,λs b=>⟨(c.off s b).1.trans (h.off s b).1,(c.off s b).2.trans (h.off s b).2⟩⟩
theorem NV (L:List Nat) (d:Nat):∀(a:AV),FM L a=true->FM L (DT d a)=true
 | .al r p,h=>by
  rw[Wp];split
  . simp
  . exact h
 | .KJ r p i j k,h=>by
  rw[To];split
  . simp
  . exact h
 | .agg cs,h=>by rw[Jc,AAN]at h;rw[Y7,Jc,ABC,AAN];intro c b;exact NV L d c (h c b)
 | .BT cs,h=>by rw[NW,AAN]at h;rw[Y8,NW,ABC,AAN];intro c b;exact NV L d c (h c b)
 | .sc _,_=>by simp
 | .sl ..,_=>by simp
 | .own ..,_=>by simp
 | .fp _,_=>by simp
 | .dead,_=>by simp
 | .un,_=>by simp
 | .kN ..,_=>by simp[DT,FM]
 | .vb s o us,h=>by
  rw[Wq];split
  . simp
  . exact h
 | .cl f rs,h=>by
  rw[SH];split
  . exact h
  . simp
theorem Vf {L:List Nat} (p:List Step):∀{t x f:AV},put t p x=some f->FM L t=true->FM L x=true->FM L f=true:=by
 induction p with
 |nil=>
  intro t x f h _ g;have:f=x:=by cases t<;>simp[put]at h<;>exact h.symm
  subst this;exact g
 |cons s p ih=>
  obtain⟨i,j,k⟩:=s;intro t x f h d g;cases t with
  |own b k rows=>
   simp only[put]at h;split at h
   . split at h
     . split at h
       . cases h;simp
       . cases h
     . cases h
   . cases h
  |agg cs=>
   simp only[put]at h;split at h
   . rename_i c m;split at h
     . rename_i c' l;cases h;rw[Jc,AAN]at d ⊢;intro e a;rcases AAm a with a|rfl
       . exact d e a
       . exact ih l (d c (AAS m)) g
     . cases h
   . cases h
  |BT cs=>
   simp only[put]at h;split at h
   . rename_i c m;split at h
     . rename_i c' l;cases h;rw[NW,AAN]at d ⊢;intro e a;rcases AAm a with a|rfl
       . exact d e a
       . exact ih l (d c (AAS m)) g
     . cases h
   . cases h
  |_=>simp[put]at h
theorem Ag.kup (h:Ag G A σ σ') {r:Nat} {t:AV} (f:A r) (d:∀x∈G.Nk r,A x) (g:FM (G.Gc r) t=true):Mv G A σ σ' (DP (JB G r σ) r t) (DP (JB G r σ') r t):=by
 refine⟨⟨λs a=> ?_,λs a=> ?_⟩,λs a=> ?_⟩
 . simp only[DP,JB,h.eq s a]
 . simp only[DP,JB];split
   . rename_i e;subst e;exact g
   . split
     . exact NV _ _ _ (h.ri s a)
     . exact h.ri s a
 . have b:s≠r:=λe=>a (e▸f);have c:s∉G.Nk r:=λe=>a (d s e);simp[DP,JB,b,c]
theorem Ag.up (h:Ag G A σ σ') {r:Nat} {t:AV} (c:A r) (d:FM (G.Gc r) t=true):Mv G A σ σ' (DP σ r t) (DP σ' r t):=by
 refine⟨⟨λs a=> ?_,λs a=> ?_⟩,λs a=> ?_⟩
 . simp only[DP,h.eq s a]
 . simp only[DP];split
   . rename_i e;subst e;exact d
   . exact h.ri s a
 . have b:s≠r:=λe=>a (e▸c);simp[DP,b]
theorem Ag.kupn (h:Ag G A σ σ') (n:Nat) {r:Nat} {t:AV} (f:A r) (d:∀x∈G.Nk r,A x) (g:FM (G.Gc r) t=true):Mv G A σ σ' (DP (Fk G n r σ) r t) (DP (Fk G n r σ') r t):=by
 refine⟨⟨λs a=> ?_,λs a=> ?_⟩,λs a=> ?_⟩
 . simp only[DP,Fk,h.eq s a]
 . simp only[DP,Fk];split
   . rename_i e;subst e;exact g
   . split
     . exact Pf _ _ _ _ (h.ri s a)
     . exact h.ri s a
 . have b:s≠r:=λe=>a (e▸f);have c:s∉G.Nk r:=λe=>a (d s e);simp[DP,Fk,b,c]
theorem Vh (h:Ag G A σ σ') {r:Nat} {p:List Step} {v:AV} (c:A r) (d:∀x∈G.Nk r,A x) (a:aT G r p σ=some (v,τ)):∃τ',aT G r p σ'=some (v,τ')/\Mv G A σ σ' τ τ':=by
 unfold aT at a ⊢;rw[h.eq r c];split at a
 . rename_i b k rows f;split at a
   . rename_i t e;cases a;exact⟨_,rfl,h.kupn _ c d (Vf p e (h.ri r c) (by simp))⟩
   . cases a
 . cases a
theorem Ru (h:Ag G A σ σ') {r:Nat} {p:List Step} {v:AV} (c:A r) (d:∀x∈G.Nk r,A x) (a:Pz G r p σ=some (v,τ)):∃τ',Pz G r p σ'=some (v,τ')/\Mv G A σ σ' τ τ':=by
 unfold Pz at a ⊢;rw[h.eq r c];split at a
 . rename_i b k rows f;split at a
   . rename_i t e;cases a;refine⟨_,rfl,h.kup c d (Vf p e (h.ri r c) ?_)⟩;cases b<;>simp
   . cases a
 . cases a
theorem tkL_loc (c:List AV):∀{σ σ' τ:Sg} {l:List AV},Ag G A σ σ'->(∀r p,AV.al r p∈c->A r/\∀x∈G.Nk r,A x)->gN G c σ=some (l,τ)->∃τ',gN G c σ'=some (l,τ')/\Mv G A σ σ' τ τ':=by
 induction c with
 |nil=>intro σ σ' τ l h _ b;simp only[gN,AAG,AAU]at b ⊢;obtain⟨rfl,rfl⟩:=b;exact⟨σ',⟨rfl,rfl⟩,.refl h⟩
 |cons a c ih=>
  intro σ σ' τ l h o b;have m:∀r p,AV.al r p∈c->A r/\∀x∈G.Nk r,A x:=λr p w=>o r p (by simp[w]);have d:(∀r p,a≠ .al r p)->∃τ',gN G (a::c) σ'=some (l,τ')/\Mv G A σ σ' τ τ':=by
   intro j;have e:∀σ,gN G (a::c) σ=if FB a=true then(match gN G c σ with|some (l,τ)=>some (a::l,τ)|none=>none)else none:=by intro σ;cases a<;>first|rfl|exact absurd rfl (j _ _)
   rw[e]at b ⊢;split at b
   . rename_i q;rw[AAP q];split at b
     . rename_i l' k i;cases b;obtain⟨τ',g,f⟩:=ih h m i;exact⟨τ',by rw[g],f⟩
     . cases b
   . cases b
  cases a with
  |al r p=>
   obtain⟨y,v⟩:=o r p (by simp);simp only[gN]at b ⊢;split at b
   . rename_i n k i;obtain⟨C,g,f⟩:=Vh h y v i;rw[g];simp only;split at b
     . rename_i l' B u;cases b;obtain⟨z,s,t⟩:=ih f.ag m u;exact⟨z,by rw[s],f.trans t⟩
     . cases b
   . cases b
  |_=>exact d (by simp)
theorem PO (h:Ag G A σ σ') {x:Ar} {v:AV} (w:mP G A x) (d:tk G x σ=some (v,τ)):∃τ',tk G x σ'=some (v,τ')/\Mv G A σ σ' τ τ':=by
 cases x with
 |c a=>simp only[tk,AAG,AAU]at d ⊢;obtain⟨rfl,rfl⟩:=d;exact⟨σ',⟨rfl,rfl⟩,.refl h⟩
 |t s=>
  have e:Cl G A s:=w;have u:=h.eq s e.own;have f:=h.ri s e.own;simp only[tk]at d ⊢;rw[u];cases hv:σ s with
  |al r p=>rw[hv]at d f;simp only[Jd,AAq]at f;obtain⟨g,q⟩:=e.rt r f;exact Vh h g q d
  |own b k rows=>rw[hv]at d;cases d;exact⟨_,rfl,h.kup e.own e.Nk (by simp)⟩
  |agg cs=>
   rw[hv]at d f;simp only at d ⊢;split at d
   . rename_i i;cases d;rw[AAP i];exact⟨σ',rfl,.refl h⟩
   . rename_i i;rw[AAO i];split at d
     . rename_i l y g;cases d;have m:=h.kup (t:=.dead) e.own e.Nk (by simp);obtain⟨τ',n,o⟩:=tkL_loc cs m.ag (by
        intro r p j;rw[Jc,AAN]at f
        have:=f _ j;simp only[Jd,AAq]at this;exact e.rt r this) g
       exact⟨τ',by rw[n],m.trans o⟩
     . cases d
  |sc=>rw[hv]at d;cases d;exact⟨σ',rfl,.refl h⟩
  |sl=>rw[hv]at d;cases d;exact⟨σ',rfl,.refl h⟩
  |KJ=>rw[hv]at d;cases d;exact⟨σ',rfl,.refl h⟩
  |fp=>rw[hv]at d;cases d;exact⟨σ',rfl,.refl h⟩
  |_=>rw[hv]at d;cases d
theorem mG (c:List Ar):∀{σ σ' τ:Sg} {l:List AV},Ag G A σ σ'->(∀x∈c,mP G A x)->MZ G c σ=some (l,τ)->∃τ',MZ G c σ'=some (l,τ')/\Mv G A σ σ' τ τ':=by
 induction c with
 |nil=>intro σ σ' τ l h _ b;simp only[MZ,AAG,AAU]at b ⊢;obtain⟨rfl,rfl⟩:=b;exact⟨σ',⟨rfl,rfl⟩,.refl h⟩
 |cons x c ih=>
  intro σ σ' τ l h e b;simp only[MZ]at b ⊢;split at b
  . rename_i a o j;obtain⟨q,f,d⟩:=PO h (e x (by simp)) j;rw[f];simp only;split at b
    . rename_i l' p k;cases b;obtain⟨n,g,i⟩:=ih d.ag (λy m=>e y (by simp[m])) k;exact⟨n,by rw[g],d.trans i⟩
    . cases b
  . cases b
theorem uD (c:List Ar):∀{σ σ' τ:Sg} {l:List AV},Ag G A σ σ'->(∀x∈c,mP G A x)->Qi G c σ=some (l,τ)->∃τ',Qi G c σ'=some (l,τ')/\Mv G A σ σ' τ τ':=by
 induction c with
 |nil=>intro σ σ' τ l h _ b;simp only[Qi,AAG,AAU]at b ⊢;obtain⟨rfl,rfl⟩:=b;exact⟨σ',⟨rfl,rfl⟩,.refl h⟩
 |cons x c ih=>
  intro σ σ' τ l h e b;simp only[Qi]at b ⊢;split at b
  . rename_i a o j;obtain⟨q,f,d⟩:=PO h (e x (by simp)) j;rw[f];simp only;split at b
    . rename_i l' p k;cases b;obtain⟨n,g,i⟩:=ih d.ag (λy m=>e y (by simp[m])) k;exact⟨n,by rw[g],d.trans i⟩
    . cases b
  . cases b
theorem yG (c:List (Nat×Nat×Ar)):∀{σ σ' τ:Sg} {d l:List AV},Ag G A σ σ'->(∀p∈c,mP G A p.2.2)->Ul G c d σ=some (l,τ)->∃τ',Ul G c d σ'=some (l,τ')/\Mv G A σ σ' τ τ':=by
 induction c with
 |nil=>intro σ σ' τ d l h _ b;simp only[Ul,AAG,AAU]at b ⊢;obtain⟨rfl,rfl⟩:=b;exact⟨σ',⟨rfl,rfl⟩,.refl h⟩
 |cons p c ih=>
  obtain⟨off,n,x⟩:=p;intro σ σ' τ d l h f b;simp only[Ul]at b ⊢;split at b
  . rename_i a r k;obtain⟨s,g,e⟩:=PO h (f _ (AA9 ..)) k;rw[g];simp only;split at b
    . rename_i m;rw[AAP m];obtain⟨q,i,j⟩:=ih e.ag (λy o=>f y (by simp[o])) b;exact⟨q,i,e.trans j⟩
    . cases b
  . cases b
theorem yI (k:Nat) (c:List (Nat×Ar)):∀{σ σ' τ:Sg} {d l:List (List AV)},Ag G A σ σ'->(∀p∈c,mP G A p.2)->Um G k c d σ=some (l,τ)->∃τ',Um G k c d σ'=some (l,τ')/\Mv G A σ σ' τ τ':=by
 induction c with
 |nil=>intro σ σ' τ d l h _ b;simp only[Um,AAG,AAU]at b ⊢;obtain⟨rfl,rfl⟩:=b;exact⟨σ',⟨rfl,rfl⟩,.refl h⟩
 |cons p c ih=>
  obtain⟨i,x⟩:=p;intro σ σ' τ d l h f b;simp only[Um]at b ⊢;split at b
  . rename_i a s n;obtain⟨t,g,e⟩:=PO h (f _ (AA9 ..)) n;rw[g];simp only;split at b
    . rename_i o;rw[AAP o];obtain⟨r,j,m⟩:=ih e.ag (λy q=>f y (by simp[q])) b;exact⟨r,j,e.trans m⟩
    . cases b
  . cases b
theorem xG {k:Nat} {y:Ar} {rows:List (List AV)} (h:Ag G A σ σ') (u:mP G A y) (d:V0 G k y σ=some (rows,τ)):∃τ',V0 G k y σ'=some (rows,τ')/\Mv G A σ σ' τ τ':=by
 cases y with
 |c a=>
  simp only[V0]at d ⊢;split at d
  . cases d;exact⟨σ',rfl,.refl h⟩
  . cases d
 |t s=>
  have f:Cl G A s:=u;have q:=h.eq s f.own;have i:=h.ri s f.own;simp only[V0]at d ⊢;rw[q];cases hv:σ s with
  |own b k' rows'=>
   rw[hv]at d;cases b with
   |true=>cases d
   |false=>
    simp only at d ⊢;split at d
    . rename_i g;cases d;rw[AAP g];exact⟨_,rfl,h.kup f.own f.Nk (by simp)⟩
    . cases d
  |sl e k' rows'=>
   rw[hv]at d;simp only at d ⊢;split at d
   . rename_i g;cases d;rw[AAP g];exact⟨_,rfl,.refl h⟩
   . cases d
  |al r p=>
   rw[hv]at d i;simp only[Jd,AAq]at i;obtain⟨m,n⟩:=f.rt r i;simp only at d ⊢;split at d
   . rename_i o;obtain⟨v,j,l⟩:=Ru h m n o;rw[j];simp only;split at d
     . rename_i g;cases d;rw[AAP g];exact⟨_,rfl,l⟩
     . cases d
   . cases d
  |_=>rw[hv]at d;cases d
theorem cF {k:Nat} {x:Ar} {v:AV} (h:Ag G A σ σ') (u:mP G A x) (d:Uj G k x σ=some (v,τ)):∃τ',Uj G k x σ'=some (v,τ')/\Mv G A σ σ' τ τ':=by
 cases x with
 |c a=>
  simp only[Uj]at d ⊢;split at d
  . cases d;exact⟨σ',rfl,.refl h⟩
  . cases d
 |t s=>
  have f:Cl G A s:=u;have q:=h.eq s f.own;have i:=h.ri s f.own;simp only[Uj]at d ⊢;rw[q];cases hv:σ s with
  |own b k' rows'=>
   rw[hv]at d;cases b with
   |true=>cases d
   |false=>
    simp only at d ⊢;split at d
    . rename_i g;cases d;rw[AAP g];exact⟨_,rfl,h.kup f.own f.Nk (by simp)⟩
    . cases d
  |sl e k' rows'=>
   rw[hv]at d;cases e with
   |false=>cases d
   |true=>
    simp only at d ⊢;split at d
    . rename_i g;cases d;rw[AAP g];exact⟨_,rfl,.refl h⟩
    . cases d
  |al r p=>
   rw[hv]at d i;simp only[Jd,AAq]at i;obtain⟨m,n⟩:=f.rt r i;simp only at d ⊢;split at d
   . rename_i o;obtain⟨w,j,l⟩:=Vh h m n o;rw[j];simp only;split at d
     . rename_i g;cases d;rw[AAP g];exact⟨_,rfl,l⟩
     . cases d
   . cases d
  |_=>rw[hv]at d;cases d
end Go.Abs
namespace Go.Abs
variable {G:Gi} {A:Nat->Prop} {σ σ' τ τ':Sg} {P:Program}
def Uh (G:Gi) (A:Nat->Prop):Ar->Prop
 | .t s=>A s/\∀r∈G.Gc s,A r
 | .c a=>FM [] a=true
theorem Cl.look {s:Nat} (h:Cl G A s):Uh G A (.t s):=⟨h.own,λr a=>(h.rt r a).1⟩
theorem mP.look {x:Ar} (h:mP G A x):Uh G A x:=by
 cases x with
 |t s=>exact Cl.look h
 |c=>exact h
theorem Ag.ar (h:Ag G A σ σ') {x:Ar} (a:Uh G A x):ar σ' x=ar σ x:=by
 cases x with
 |t s=>exact h.eq s a.1
 |c=>rfl
theorem Ag.root (h:Ag G A σ σ') {s r:Nat} {p:List Step} (a:Uh G A (.t s)) (b:σ s= .al r p):A r:=by have:=h.ri s a.1;rw[b]at this;simp only[Jd,AAq]at this;exact a.2 r this
theorem Ag.rootAdr (h:Ag G A σ σ') {s r:Nat} {p:List Step} {i j k:Nat} (a:Uh G A (.t s)) (b:σ s= .KJ r p i j k):A r:=by have:=h.ri s a.1;rw[b]at this;simp only[Ve,AAq]at this;exact a.2 r this
theorem Ag.hd (h:Ag G A σ σ') {x:Ar} (a:Uh G A x):hd σ' x=hd σ x:=by
 cases x with
 |c=>rfl
 |t s=>
  unfold Abs.hd;simp only;rw[h.eq s a.1];cases hs:σ s with
  |al r p=>simp only;rw[h.eq r (h.root a hs)]
  |_=>rfl
theorem Ag.D9 (h:Ag G A σ σ') {x:Ar} (a:Uh G A x):D9 σ' x=D9 σ x:=by
 cases x with
 |c=>rfl
 |t s=>
  unfold Abs.D9;simp only;rw[h.eq s a.1];cases hs:σ s with
  |al r p=>simp only;rw[h.eq r (h.root a hs)]
  |own b k rows=>cases b<;>rfl
  |_=>rfl
theorem Ag.NC (h:Ag G A σ σ') {x:Ar} (d:Uh G A x) {r:Nat} {p:List Step} {i j k:Nat} (a:Abs.D9 σ x=some (r,p,i,j,k)):A r:=by
 cases x with
 |c=>cases a
 |t s=>
  unfold Abs.D9 at a;simp only at a;cases hs:σ s with
  |al r' p'=>
   rw[hs]at a;simp only at a;split at a
   . cases a;exact h.root d hs
   . cases a
  |KJ r' p' i' j' k'=>rw[hs]at a;cases a;exact h.rootAdr d hs
  |own b k' rows=>rw[hs]at a;cases b<;>cases a;exact d.1
  |_=>rw[hs]at a;cases a
theorem Ag.Mp (h:Ag G A σ σ') {x:ABh Ar} (a:∀y,x=some y->Uh G A y) (d:Nat):Mp σ' x d=Mp σ x d:=by
 cases x with
 |none=>rfl
 |some y=>simp only[Abs.Mp];rw[h.ar (a y rfl)]
theorem Ag.vT (h:Ag G A σ σ') {x:ABh Ar} (a:∀y,x=some y->Uh G A y) (d:Nat):vT σ' x d=vT σ x d:=by
 cases x with
 |none=>rfl
 |some y=>simp only[Abs.vT];rw[h.Mp a]
def reads:Xu->List Ar
 | .cp x=>[x]
 | .pick c a b=>[c,a,b]
 | .ld _ _ a=>[a]
 | .UG _ x=>[x]
 | .fld _ _ _ x=>[x]
 | .Va _ x i=>[x,i]
 | .aad _ _ x i=>[x,i]
 | .idx _ _ _ x i=>[x,i]
 | .bin _ x y=>[x,y]
 | .beq _ x y=>[x,y]
 | .un _ x=>[x]
 | .cvt _ x=>[x]
 | .mm _ x y=>[x,y]
 | .len x=>[x]
 | .YU x=>[x]
 | .fL x i=>[x,i]
 | .fK _ _ x y=>[x,y]
 | .ext x _=>[x]
 | .flk x _=>[x]
 | .mk _ _ _ l c=>[l,c]
 | .JW x=>[x]
 | .std x=>[x]
 | .mkf _ xs=>xs
 | .Wv a=>[a]
 | .dT r _ _ _ i=>[.t r,i]
 | .vV _ _ _ lo hi mx=>lo.toList++hi.toList++mx.toList
 | .call _ args m=>if m=1∨m=3∨m=4 then[]else args
 | .Ww _ pre _ _ post=>pre++post
 |_=>[]
def takes:Xu->List Ar
 | .mv x=>[x]
 | .fz x=>[x]
 | .bx _ x=>[x]
 | .TY _ ps=>ps.map (·.2.2)
 | .NH _ _ ps=>ps.map (·.2)
 | .st _ a v=>[a,v]
 | .Vg a v=>[a,v]
 | .app _ _ x y=>[x,y]
 | .vV _ _ x _ _ _=>[x]
 | .call _ args m=>if m=1∨m=3∨m=4 then args else[]
 | .Ww _ _ x _ _=>[x]
 |_=>[]
theorem Ag.valOf (h:Ag G A σ σ') (o:Xu) (d:∀x∈reads o,Uh G A x):valOf o σ'=valOf o σ:=by
 cases o with
 |cp x=>
  cases x with
  |c=>rfl
  |t s=>simp only[Abs.valOf];rw[h.eq s (d (.t s) (by simp[reads])).1]
 |pick c a b=>
  have g:=h.ar (d c (by simp[reads]));have m:=h.ar (d a (by simp[reads]));have w:=h.ar (d b (by simp[reads]));simp only[Abs.valOf];rw[g];cases Abs.ar σ c with
  |sc v=>
   cases v with
   |bool x=>cases x<;>simp[m,w]
   |_=>rfl
  |_=>rfl
 |ld agg n a=>
  cases a with
  |c=>rfl
  |t s=>
   have e:=d (.t s) (by simp[reads]);simp only[Abs.valOf];rw[h.eq s e.1];cases hs:σ s with
   |fp=>rfl
   |vb q o us=>have z:A q:=(by have:=h.ri s e.1;rw[hs]at this;simp only[rin_vb,AAq]at this;exact e.2 q this);simp only;rw[h.eq q z]
   |_=>
    simp only;rw[h.D9 e];cases ha:Abs.D9 σ (.t s)with
    |none=>rfl
    |some q=>obtain⟨r,p,i,j,k⟩:=q;simp only;rw[h.eq r (h.NC e ha)]
 |UG off x=>
  cases x with
  |c=>rfl
  |t s=>have e:=d (.t s) (by simp[reads]);simp only[Abs.valOf];rw[h.eq s e.1,h.D9 e]
 |fld agg off n x=>
  cases x with
  |c=>rfl
  |t s=>have e:=d (.t s) (by simp[reads]);simp only[Abs.valOf];rw[h.eq s e.1]
 |Va k x i=>simp only[Abs.valOf];rw[h.hd (d x (by simp[reads])),h.ar (d i (by simp[reads]))]
 |aad len k x i=>
  cases x with
  |c=>rfl
  |t s=>
   have e:=d (.t s) (by simp[reads]);simp only[Abs.valOf];rw[h.ar (d i (by simp[reads]))];cases iY (Abs.ar σ i)with
   |none=>rfl
   |some n=>simp only;rw[h.eq s e.1,h.D9 e]
 |idx agg len k x i=>
  cases x with
  |c=>rfl
  |t s=>
   have e:=d (.t s) (by simp[reads]);simp only[Abs.valOf];rw[h.ar (d i (by simp[reads]))];cases iY (Abs.ar σ i)with
   |none=>rfl
   |some n=>simp only;rw[h.eq s e.1]
 |bin op x y=>simp only[Abs.valOf];rw[h.ar (d x (by simp[reads])),h.ar (d y (by simp[reads]))]
 |beq op x y=>simp only[Abs.valOf];rw[h.ar (d x (by simp[reads])),h.ar (d y (by simp[reads]))]
 |un op x=>simp only[Abs.valOf];rw[h.ar (d x (by simp[reads]))]
 |cvt op x=>simp only[Abs.valOf];rw[h.ar (d x (by simp[reads]))]
 |mm mx x y=>simp only[Abs.valOf];rw[h.ar (d x (by simp[reads])),h.ar (d y (by simp[reads]))]
 |len x=>simp only[Abs.valOf];rw[h.hd (d x (by simp[reads]))]
 |YU x=>simp only[Abs.valOf];rw[h.ar (d x (by simp[reads]))]
 |fK neg kd x y=>simp only[Abs.valOf];rw[h.ar (d x (by simp[reads])),h.ar (d y (by simp[reads]))]
 |fL x y=>simp only[Abs.valOf];rw[h.ar (d x (by simp[reads])),h.ar (d y (by simp[reads]))]
 |ext x i=>
  cases x with
  |c=>rfl
  |t s=>simp only[Abs.valOf];rw[h.eq s (d (.t s) (by simp[reads])).1]
 |mkf f xs=>
  have key:∀l:List Ar,(∀x∈l,Uh G A x)->Rg σ' l=Rg σ l:=by
   intro l;induction l with
   |nil=>intro _;rfl
   |cons x l ih=>
    intro e;have g:=e x (by simp);have m:=ih λy B=>e y (by simp[B]);cases x with
    |c=>rfl
    |t s=>
     simp only[Rg];rw[h.eq s g.1,m];cases hs:σ s with
     |al r p=>cases Rg σ l<;>first|rfl| (simp only;rw[h.eq r (h.root g hs)])
     |own b k rows=>cases b<;>cases Rg σ l<;>rfl
     |_=>cases Rg σ l<;>rfl
  simp only[Abs.valOf];rw[key xs (λx u=>d x (by simpa[reads]using u))]
 |fl=>rfl
 |flk x i=>
  cases x with
  |c=>rfl
  |t s=>simp only[Abs.valOf];rw[h.eq s (d (.t s) (by simp[reads])).1]
 |dT r off kb k i=>simp only[Abs.valOf];rw[h.eq r (d (.t r) (by simp[reads])).1,h.ar (d i (by simp[reads]))]
 |Wv a=>
  have e:=d a (by simp[reads]);simp only[Abs.valOf];rw[h.D9 e];cases ha:Abs.D9 σ a with
  |none=>rfl
  |some q=>obtain⟨r,p,i,j,k⟩:=q;simp only;rw[h.eq r (h.NC e ha)]
 |JW x=>
  have e:=d x (by simp[reads]);simp only[Abs.valOf];rw[h.ar e];cases x with
  |c a=>
   cases a with
   |al r p=>simp[Uh]at e
   |own b k rows=>cases b<;>rfl
   |_=>rfl
  |t s=>
   simp only[Abs.ar];cases hs:σ s with
   |al r p=>simp only;rw[h.eq r (h.root e hs)]
   |own b k rows=>cases b<;>rfl
   |_=>rfl
 |_=>rfl
variable {W:Nat->Prop}
theorem SJ (kl:List Nat) (d:Nat) (σ:Sg) (s:Nat):JC kl d σ s=if s∈kl then DT d (σ s)else σ s:=by cases kl<;>simp[JC]
theorem Ag.mono {R:Nat->Prop} (h:Ag G R σ σ') (b:∀s,A s->R s):Ag G A σ σ':=⟨λs a=>h.eq s (b s a),λs a=>h.ri s (b s a)⟩
theorem Mv.wr {d:Dw} {v:AV} {g:Sg} (h:Mv G W σ σ' τ τ') (hd:W d.d/\d.rs=G.Gc d.d) (k:∀x∈d.kl,W x) (c:wr d v τ=some g):∃b,wr d v τ'=some b/\Mv G W σ σ' g b:=by
 unfold Abs.wr at c ⊢;split at c
 . rename_i f;cases c;rw[AAP f];refine⟨_,rfl,⟨λs a=> ?_,λs a=> ?_⟩,λs a=> ?_⟩
   . simp only[DP,SJ,h.ag.eq s a]
   . simp only[DP,SJ];split
     . rename_i e;subst e;rw[← hd.2];exact f
     . split
       . exact NV _ _ _ (h.ag.ri s a)
       . exact h.ag.ri s a
   . have i:s≠d.d:=λe=>a (e▸hd.1);have j:s∉d.kl:=λe=>a (k s e);simp only[DP,i,AAY,SJ,j];exact h.off s a
 . cases c
theorem o4 {L:List Nat} (p:List Step) (i k:Nat) (a:List AV):∀{j:Nat} {t b:AV},stC p i k j a t=some b->FM L t=true->a.all FB=true->FM L b=true:=by
 induction a with
 |nil=>intro j t b h e _;simp only[stC,AAG]at h;subst h;exact e
 |cons c a ih=>
  intro j t b h e d;simp only[AA6,AAH]at d;simp only[stC]at h;split at h
  . rename_i g f;exact ih h (Vf _ f e (cQ d.1)) d.2
  . cases h
def HasD (G:Gi) (W:Nat->Prop) (d:ABh Dw):Prop:=∀x,d=some x->(W x.d/\x.rs=G.Gc x.d)/\∀y∈x.kl,W y
theorem eff_loc {R:Nat->Prop} (h:Ag G R σ σ') (zW:∀s,W s->R s) {o:Xu} {d:ABh Dw} (M:∀x∈takes o,mP G W x) (S:∀x∈reads o,Uh G R x) (hd:HasD G W d) (f:F6 G o d σ=some τ):
 ∃τ',F6 G o d σ'=some τ'/\Mv G W σ σ' τ τ':=by
 have w:Ag G W σ σ':=h.mono zW;have val:∀T,d=some T->(match Abs.valOf o σ with|some v=>Abs.wr T v σ|none=>none)=some τ->∃τ',(match Abs.valOf o σ' with|some v=>Abs.wr T v σ'|none=>none)=some τ'/\Mv G W σ σ' τ τ':=by
  intro T RY f;rw[h.valOf o S];cases hv:Abs.valOf o σ with
  |none=>rw[hv]at f;cases f
  |some v=>rw[hv]at f;exact(Mv.refl w).wr (hd T RY).1 (hd T RY).2 f
 cases d with
 |none=>
  cases o with
  |st n a v=>
   simp only[F6]at f ⊢;split at f
   . rename_i x B C;obtain⟨N,D,g⟩:=PO w (M v (by simp[takes])) C;rw[D];simp only;have P:=(M a (by simp[takes])).look;rw[g.ag.D9 P];split at f
     . rename_i r p i j k E;have Q:W r:=g.ag.NC P E;have zY:∀x∈G.Nk r,W x:=by
        have JK:=M a (by simp[takes]);cases a with
        |c=>cases E
        |t s=>
         have F:Cl G W s:=JK;simp only[Abs.D9]at E;have I:=g.ag.ri s F.own;cases hs:B s with
         |al r' p'=>
          rw[hs]at E I;simp only at E;simp only[Jd,AAq]at I;split at E
          . cases E;exact(F.rt _ I).2
          . cases E
         |KJ r' p' i' j' Z=>rw[hs]at E I;cases E;simp only[Ve,AAq]at I;exact(F.rt _ I).2
         |own b Z rows=>rw[hs]at E;cases b<;>cases E;exact F.Nk
         |_=>rw[hs]at E;cases E
       rw[g.ag.eq r Q];split at f
       . rename_i b0 k0 rows Bv;split at f
         . rename_i row Du;split at f
           . rename_i L;rw[AAP L];split at f
             . rename_i t CF;have YC:FM (G.Gc r) t=true:=o4 p i k _ CF (g.ag.ri r Q) L.2.1;split at f
               . rename_i V;cases f;rw[AAP V];exact⟨_,rfl,(g.trans (g.ag.up Q YC))⟩
               . rename_i V;cases f;rw[AAO V];exact⟨_,rfl,(g.trans (g.ag.kup Q zY YC))⟩
             . cases f
           . cases f
         . cases f
       . cases f
     . cases f
   . cases f
  |Vg a v=>
   have P:=(M a (by simp[takes])).look;simp only[F6]at f ⊢;rw[w.ar (M v (by simp[takes])).look,w.D9 P];split at f
   . rename_i u hu;split at f
     . rename_i r p i j k E;have Q:W r:=w.NC P E;rw[w.eq r Q];split at f
       . rename_i b0 k0 rows Bv;split at f
         . rename_i row Du;split at f
           . rename_i u0 hc0;split at f
             . rename_i t CF;have YC:FM (G.Gc r) t=true:=o4 p i k [.sc u] (j:=j) (by simp only[stC];rw[CF]) (w.ri r Q) (by simp[FB]);cases f;exact⟨_,rfl,w.up Q YC⟩
             . cases f
           . cases f
         . cases f
       . cases f
     . cases f
   . cases f
  |std a=>
   simp only[F6]at f ⊢;have P:=S a (by simp[reads]);rw[h.D9 P];split at f
   . rename_i r p i j k E;rw[h.eq r (h.NC P E)];split at f
     . cases f;exact⟨σ',rfl,Mv.refl w⟩
     . cases f
   . cases f
  |_=>simp[F6]at f
 |some d=>
  obtain⟨K,J⟩:=hd d rfl;cases o with
  |mv x=>
   simp only[F6]at f ⊢;split at f
   . rename_i v B C;obtain⟨N,D,g⟩:=PO w (M x (by simp[takes])) C;rw[D];exact g.wr K J f
   . cases f
  |fz x=>
   cases x with
   |c=>simp[F6]at f
   |t s=>
    have F:Cl G W s:=M (.t s) (by simp[takes]);have I:=w.ri s F.own;simp only[F6]at f ⊢;rw[w.eq s F.own];cases hs:σ s with
    |al r p=>
     rw[hs]at f I;simp only[Jd,AAq]at I;simp only at f ⊢;split at f
     . rename_i v B C;obtain⟨N,D,g⟩:=Ru w (F.rt r I).1 (F.rt r I).2 C;rw[D];exact g.wr K J f
     . cases f
    |own b k rows=>
     rw[hs]at f;simp only at f ⊢;split at f
     . rename_i v B C;obtain⟨N,D,g⟩:=Ru w F.own F.Nk C;rw[D];exact g.wr K J f
     . cases f
    |sc v=>rw[hs]at f;exact(Mv.refl w).wr K J f
    |sl e k rows=>rw[hs]at f;exact(Mv.refl w).wr K J f
    |_=>rw[hs]at f;cases f
  |bx n x=>
   simp only[F6]at f ⊢;split at f
   . rename_i v B C;obtain⟨N,D,g⟩:=PO w (M x (by simp[takes])) C;rw[D];simp only;split at f
     . rename_i L;rw[AAP L];exact g.wr K J f
     . cases f
   . cases f
  |TY z ps=>
   simp only[F6]at f ⊢;split at f
   . rename_i v B C;obtain⟨N,D,g⟩:=yG ps w (λp hp=>M _ (by simp only[takes,ABR];exact⟨p,hp,rfl⟩)) C;rw[D];exact g.wr K J f
   . cases f
  |NH k z ps=>
   simp only[F6]at f ⊢;split at f
   . rename_i v B C;obtain⟨N,D,g⟩:=yI k ps w (λp hp=>M _ (by simp only[takes,ABR];exact⟨p,hp,rfl⟩)) C;rw[D];exact g.wr K J f
   . cases f
  |mk k bytes z l c=>
   simp only[F6]at f ⊢;rw[h.ar (S l (by simp[reads])),h.ar (S c (by simp[reads]))];split at f
   . rename_i l' c' C O;split at f
     . rename_i L;rw[AAP L];exact(Mv.refl w).wr K J f
     . cases f
   . cases f
  |vV k fr x lo hi mx=>
   have U:=M x (by simp[takes]);have hlo:∀y,lo=some y->Uh G R y:=λy X=>S y (by simp[reads,X]);have hhi:∀y,hi=some y->Uh G R y:=λy X=>S y (by simp[reads,X]);have hmx:∀y,mx=some y->Uh G R y:=λy X=>S y (by simp[reads,X]);simp only[F6]at f ⊢;rw[w.hd U.look];have eo:∀d,Abs.Mp σ' lo d=Abs.Mp σ lo d:=h.Mp hlo;have eh:∀d,Abs.Mp σ' hi d=Abs.Mp σ hi d:=h.Mp hhi;have em:∀d,Abs.vT σ' mx d=Abs.vT σ mx d:=h.vT hmx;simp only[eo,eh,em];split at f
   . rename_i e Z rows q H
     try rw[H]
     try simp only
     split at f
     . rename_i l hh C O
       try rw[C,O]
       try simp only
       split at f
       . rename_i rs m h3 h4
         try rw[h3,h4]
         try simp only
         split at f
         . rename_i L;rw[AAP L];exact(Mv.refl w).wr K J f
         . cases f
       . cases f
     . cases f
   . rename_i Z rows r p H;have UN:W r/\∀x∈G.Nk r,W x:=by
      cases x with
      |c a=>cases a<;>cases H
      |t s=>
       have F:Cl G W s:=U;have I:=w.ri s F.own;simp only[Abs.hd]at H;cases hs:σ s with
       |al r' p'=>
        rw[hs]at H I;simp only[Jd,AAq]at I;simp only at H;split at H
        . cases H;exact F.rt _ I
        . cases H
       |own b k rows=>rw[hs]at H;cases H;exact⟨F.own,F.Nk⟩
       |sl=>rw[hs]at H;cases H
       |_=>rw[hs]at H;cases H
     try rw[H]
     try simp only
     split at f
     . rename_i l hh C O
       try rw[C,O]
       try simp only
       split at f
       . rename_i rs m h3 h4
         try rw[h3,h4]
         try simp only
         split at f
         . rename_i L;rw[AAP L];split at f
           . rename_i hf;rw[AAP hf];split at f
             . rename_i v B h5;obtain⟨N,D,g⟩:=Ru w UN.1 UN.2 h5;rw[D];exact g.wr K J f
             . cases f
           . rename_i hf;rw[AAO hf];split at f
             . rename_i V;rw[AAP V];split at f
               . rename_i v B h5;obtain⟨N,D,g⟩:=Vh w UN.1 UN.2 h5;rw[D];exact g.wr K J f
               . cases f
             . cases f
         . cases f
       . cases f
     . cases f
   . cases f
  |app k bytes x y=>
   simp only[F6]at f ⊢;split at f
   . rename_i ys B C;obtain⟨N,D,g⟩:=xG w (M y (by simp[takes])) C;rw[D];simp only;split at f
     . rename_i b Z rows τ2 O;obtain⟨uM,g3,g4⟩:=cF g.ag (M x (by simp[takes])) O;rw[g3];simp only;split at f
       . rename_i L;rw[AAP L];exact(g.trans g4).wr K J f
       . cases f
     . rename_i e Z rows τ2 O;obtain⟨uM,g3,g4⟩:=cF g.ag (M x (by simp[takes])) O;rw[g3];simp only;split at f
       . rename_i hq;rw[AAP hq];exact(g.trans g4).wr K J f
       . rename_i hq;rw[AAO hq];split at f
         . rename_i L;rw[AAP L];exact(g.trans g4).wr K J f
         . cases f
     . cases f
   . cases f
  |st=>simp[F6,Abs.valOf]at f
  |call=>simp[F6,Abs.valOf]at f
  |bad=>simp[F6,Abs.valOf]at f
  |_=>exact val d rfl f
end Go.Abs
namespace Go.Abs
variable {G:Gi} {A:Nat->Prop} {σ σ' τ τ':Sg} {P:Program}
theorem Nb {d:ABh Dw} {v:AV} {K:Sg->Prop} {τ:Sg}:Cw d v K τ↔∃a,Cw d v (· =a) τ/\K a:=by
 cases d with
 |none=>simp[Cw]
 |some d=>simp only[Cw];split<;>simp
theorem Yi {o:BP} {K:Sg->Prop}:D8 P G o K σ↔∃τ,D8 P G o (· =τ) σ/\K τ:=by
 unfold D8;split
 . split
   . constructor
     . rintro⟨a,c,b⟩;split at b
       . obtain⟨e,g,h⟩:=Nb.1 b;rename_i v j;exact⟨e,⟨a,c,by rw[j];exact g⟩,h⟩
       . exact b.elim
     . rintro⟨e,⟨a,c,b⟩,f⟩;refine⟨a,c,?_⟩;split at b
       . rename_i v j;exact Nb.2 ⟨e,b,f⟩
       . exact b.elim
   . simp
 . split
   . split
     . constructor
       . rintro⟨a,out,u,c,b,f,i,d⟩;split at d
         . obtain⟨e,g,h⟩:=Nb.1 d;rename_i t l;exact⟨e,⟨a,out,u,c,b,f,i,by rw[l];exact g⟩,h⟩
         . exact d.elim
       . rintro⟨e,⟨a,out,u,c,b,f,i,d⟩,k⟩;refine⟨a,out,u,c,b,f,i,?_⟩;split at d
         . exact Nb.2 ⟨e,d,k⟩
         . exact d.elim
     . simp
   . simp
 . split<;>simp
theorem OV {o:BP} {K:Sg->Prop}:KK P G o K σ↔∃τ,KK P G o (· =τ) σ/\K τ:=by
 unfold KK;split
 . exact Yi
 . split
   . split
     . exact Yi
     . split<;>simp
   . split<;>simp
   . simp
theorem Ql (a:List BP):∀{σ:Sg} {K:Sg->Prop},ND P G a K σ->∃q:Nat->Sg,q 0=σ/\(∀i io,a[i]? =some io->KK P G io (· =q (i+1)) (q i))/\K (q a.length):=by
 induction a with
 |nil=>intro σ K h;exact⟨λ_=>σ,rfl,by simp,h⟩
 |cons o os ih=>
  intro σ K h;obtain⟨τ,e,f⟩:=OV.1 h;obtain⟨q,b,c,d⟩:=ih f;refine⟨λi=>match i with|0=>σ|i+1=>q i,rfl,?_,d⟩
  intro i io hi;cases i with
  |zero=>simp only[AAt,AAG]at hi;subst hi;simp only[b];exact e
  |succ i=>simp only[AA2]at hi;exact c i io hi
theorem Ag.Sj (h:Ag G A σ σ') {a:AV} (c:∀r p,a= .al r p->A r):Sj σ' a=Sj σ a:=by
 cases a with
 |al r p=>simp only[Abs.Sj];rw[h.eq r (c r p rfl)]
 |own b k rows=>cases b<;>first|rfl| (match rows with|[]=>rfl|[_]=>rfl|_::_::_=>rfl)
 |_=>rfl
theorem Ag.vU (h:Ag G A σ σ') (b:List AV):(∀r p,AV.al r p∈b->A r)->vU σ' b=vU σ b:=by
 induction b with
 |nil=>intro _;rfl
 |cons a b ih=>intro c;simp only[Abs.vU];rw[h.Sj (a:=a) (λr p e=>c r p (by simp[e])),ih (λr p d=>c r p (by simp[d]))]
theorem Ag.eN (h:Ag G A σ σ') {x:Ar} (d:Uh G A x):eN σ' (Abs.ar σ' x)=eN σ (Abs.ar σ x):=by
 rw[h.ar d];cases x with
 |c a=>
  simp only[Abs.ar];cases a with
  |agg cs=>
   simp only[Abs.eN];rw[h.vU cs (λr p g=>by
    have f:FM [] (.agg cs)=true:=d;rw[Jc,AAN]at f
    have:=f _ g;simp at this)]
  |al r p=>have f:FM [] (.al r p)=true:=d;simp at f
  |own b k rows=>cases b<;>first|rfl| (match rows with|[]=>rfl|[_]=>rfl|_::_::_=>rfl)
  |_=>rfl
 |t s=>
  simp only[Abs.ar];cases hs:σ s with
  |agg cs=>
   simp only[Abs.eN];rw[h.vU cs (λr p g=>by
    have:=h.ri s d.1;rw[hs,Jc,AAN]at this
    have:=this _ g;simp only[Jd,AAq]at this;exact d.2 r this)]
  |al r p=>simp only[Abs.eN];exact h.Sj (λi p' e=>by cases e;exact h.root d hs)
  |own b k rows=>cases b<;>first|rfl| (match rows with|[]=>rfl|[_]=>rfl|_::_::_=>rfl)
  |_=>rfl
theorem Ag.JX (h:Ag G A σ σ') (a:List Ar):(∀x∈a,Uh G A x)->JX σ' a=JX σ a:=by
 induction a with
 |nil=>intro _;rfl
 |cons x a ih=>intro b;simp only[Abs.JX];rw[h.eN (b x (by simp)),ih (λy c=>b y (by simp[c]))]
theorem Ag.V7 (h:Ag G A σ σ') (rs:List (Nat×List Step)):(∀x∈rs,A x.1)->V7 σ' rs=V7 σ rs:=by
 induction rs with
 |nil=>intro _;rfl
 |cons x rs ih=>obtain⟨r,p⟩:=x;intro b;simp only[Abs.V7];rw[h.Sj (a:=.al r p) (λd p' e=>by cases e;exact b (r,p) (by simp)),ih (λy c=>b y (by simp[c]))]
theorem tkLk_loc (g:List Ar):∀{σ σ' τ:Sg} {b:List AV},Ag G A σ σ'->(∀x∈g,mP G A x)->VM G g σ=some (b,τ)->∃τ',VM G g σ'=some (b,τ')/\Mv G A σ σ' τ τ':=by
 induction g with
 |nil=>intro σ σ' τ b _ _ a;simp[VM]at a
 |cons y g ih=>
  intro σ σ' τ b h o a;have m:=o y (by simp);cases g with
  |nil=>
   simp only[VM]at a ⊢;rw[h.ar m.look];split at a
   . rename_i f rs k;have d:∀x∈rs,A x.1:=by
      intro x i;cases y with
      |c c0=>simp only[Abs.ar]at k;subst k;have j:FM [] (.cl f rs)=true:=m;simp only[lZ,AAN]at j;have:=j x i;simp at this
      |t s=>
       simp only[Abs.ar]at k;have e:Cl G A s:=m
       have:=h.ri s e.own;rw[k,lZ,AAN]at this;exact(e.rt x.1 (by simpa using this x i)).1
     rw[h.V7 rs d];split at a
     . rename_i F H;simp only[AAG,AAU]at a;obtain⟨rfl,rfl⟩:=a;exact⟨σ',rfl,Mv.refl h⟩
     . cases a
   . cases a
  |cons y2 g=>
   simp only[VM]at a ⊢;split at a
   . rename_i v C w;obtain⟨E,q,n⟩:=PO h m w;rw[q];simp only;split at a
     . rename_i l D z;simp only[AAG,AAU]at a;obtain⟨rfl,rfl⟩:=a;obtain⟨B,r,u⟩:=ih n.ag (λx p=>o x (by simp[p])) z;rw[r];exact⟨B,rfl,n.trans u⟩
     . cases a
   . cases a
theorem ZO {W:Nat->Prop} {d:ABh Dw} {v:AV} {c:Sg} (h:Mv G W σ σ' τ τ') (hd:HasD G W d) (b:Cw d v (· =c) τ):∃a,Cw d v (· =a) τ'/\Mv G W σ σ' c a:=by
 cases d with
 |none=>cases b;exact⟨τ',rfl,h⟩
 |some d=>
  simp only[Cw]at b ⊢;split at b
  . rename_i x g;subst b;obtain⟨a,e,f⟩:=h.wr (hd d rfl).1 (hd d rfl).2 g;exact⟨a,by rw[e],f⟩
  . exact b.elim
theorem Ag.rdF (h:Ag G A σ σ') {x:Ar} (b:Uh G A x):rdF σ' x=rdF σ x:=by
 cases x with
 |c a=>rfl
 |t s=>simp only[Abs.rdF];rw[h.eq s b.1]
theorem Ag.OI (h:Ag G A σ σ') (a:List Ar):(∀x∈a,Uh G A x)->OI σ' a=OI σ a:=by
 induction a with
 |nil=>intro _;rfl
 |cons x a ih=>intro b;simp only[Abs.OI];rw[h.rdF (b x (by simp)),ih (λy c=>b y (by simp[c]))]
theorem Ag.O5 (h:Ag G A σ σ') {x:Ar} (l:mP G A x) {c:ABh Nat} {r:Nat} {p:List Step} (b:O5 σ x c=some (r,p)):O5 σ' x c=some (r,p)/\(∀n,SL σ' x c n=SL σ x c n)/\A r/\∀y∈G.Nk r,A y:=by
 cases x with
 |c a=>cases c<;>simp[Abs.O5,plc]at b
 |t s=>
  have d:Cl G A s:=l;have f:=h.ri s d.own;have e:σ' s=σ s:=h.eq s d.own;have i:Abs.O5 σ' (.t s) c=Abs.O5 σ (.t s) c:=by cases c<;>simp only[Abs.O5,plc,e]
  refine⟨by rw[i];exact b,λn=>by cases c<;>simp only[SL,Abs.ar,e],?_⟩;cases c with
  |none=>
   simp only[Abs.O5,plc]at b;split at b
   . rename_i m p' g;cases b;rw[g]at f;simp only[Jd,AAq]at f;exact⟨(d.rt _ f).1,(d.rt _ f).2⟩
   . cases b;exact⟨d.own,d.Nk⟩
   . cases b
  |some j=>
   simp only[Abs.O5]at b;split at b
   . rename_i o g;rw[g]at f;split at b
     . rename_i m p' k;cases b
       have:=(by rw[Jc,AAN]at f;exact f _ (AAS k):FM (G.Gc s) (.al r p)=true);simp only[Jd,AAq]at this;exact⟨(d.rt _ this).1,(d.rt _ this).2⟩
     . cases b;exact⟨d.own,d.Nk⟩
     . cases b
   . cases b
theorem cJ {R W:Nat->Prop} (h:Ag G R σ σ') (X:∀s,W s->R s) {o:BP} (B:∀x∈takes o.op,mP G W x) (F:∀x∈reads o.op,Uh G R x) (hd:HasD G W o.dst) (a:D8 P G o (· =τ) σ):
 ∃τ',D8 P G o (· =τ') σ'/\Mv G W σ σ' τ τ':=by
 have n:Ag G W σ σ':=h.mono X;have C:∀op,o.op=op->(match F6 G op o.dst σ with|some J=>J=τ|none=>False)->∃τ',(match F6 G op o.dst σ' with|some J=>J=τ'|none=>False)/\Mv G W σ σ' τ τ':=by
  intro op q a;split at a
  . rename_i J hu;subst a;obtain⟨τ',i,j⟩:=eff_loc h X (by rw[← q];exact B) (by rw[← q];exact F) hd hu;exact⟨τ',by rw[i],j⟩
  . exact a.elim
 cases q:o.op with
 |call f args m=>
  unfold D8 at a ⊢;rw[q]at a B F ⊢;simp only at a ⊢;split at a
  . rename_i H T d;obtain⟨D,M,I⟩:=a;have key:∃g,Fw G m args σ'=some (H,g)/\Mv G W σ σ' T g:=by
     by_cases O:m=1
     . subst O;simp only[Fw]at d ⊢;obtain⟨g,i,j⟩:=mG args n (by simpa[takes]using B) d;exact⟨g,i,j⟩
     . by_cases w:m=3
       . subst w;simp only[Fw]at d ⊢;obtain⟨g,i,j⟩:=uD args n (by simpa[takes]using B) d;exact⟨g,i,j⟩
       by_cases z:m=4
       . subst z;simp only[Fw]at d ⊢;obtain⟨g,i,j⟩:=tkLk_loc args n (by simpa[takes]using B) d;exact⟨g,i,j⟩
       have e:∀σ,Fw G m args σ=match Abs.JX σ args with|some l=>some (l,σ)|none=>none:=by
        intro σ;unfold Fw;split
        . exact absurd rfl O
        . exact absurd rfl w
        . exact absurd rfl z
        . rfl
       rw[e]at d ⊢;rw[h.JX args (by simpa[reads,O,w,z]using F)];split at d
       . cases d;exact⟨σ',rfl,Mv.refl n⟩
       . cases d
    obtain⟨g,i,j⟩:=key;rw[i];simp only;split at I
    . rename_i v hv;obtain⟨E,K,L⟩:=ZO j hd I;exact⟨E,⟨D,M,by rw[hv];exact K⟩,L⟩
    . exact I.elim
  . exact a.elim
 |Ww f pre x c post=>
  unfold D8 at a ⊢;rw[q]at a B F ⊢;simp only at a ⊢;split at a
  . rename_i r p H bs hp YB Z;obtain⟨e1,e2,S,zY⟩:=n.O5 (B x (by simp[takes])) hp;rw[e1,h.OI pre (λy Q=>F y (by simp[reads,Q])),h.OI post (λy Q=>F y (by simp[reads,Q])),YB,Z];simp only[e2];rw[n.eq r S];split at a
    . rename_i b k rows hs;obtain⟨D,out,u,M,I,V,h4,N⟩:=a;split at N
      . rename_i t U;have YC:FM (G.Gc r) t=true:=Vf _ U (n.ri r S) (NG V);obtain⟨E,K,L⟩:=ZO (n.kupn _ S zY YC) hd N;exact⟨E,⟨D,out,u,M,I,V,h4,by rw[U];exact K⟩,L⟩
      . exact N.elim
    . exact a.elim
  . exact a.elim
 |_=>unfold D8 at a ⊢;rw[q]at a ⊢;exact C _ q a
theorem aop_loc {R W:Nat->Prop} (h:Ag G R σ σ') (f:∀s,W s->R s) {o:BP} (l:∀x∈takes o.op,mP G W x) (k:∀x∈reads o.op,Uh G R x) (hd:HasD G W o.dst) (r:∀g,o.guard=some g->R g.1) (a:KK P G o (· =τ) σ):
 ∃τ',KK P G o (· =τ') σ'/\Mv G W σ σ' τ τ':=by
 have j:Ag G W σ σ':=h.mono f;have skip:(match o.dst with|some d=>DP (JC d.kl d.d σ) d.d .un=τ|none=>σ=τ)->∃τ',(match o.dst with|some d=>DP (JC d.kl d.d σ') d.d .un=τ'|none=>σ'=τ')/\Mv G W σ σ' τ τ':=by
  intro a;cases LZ:o.dst with
  |none=>rw[LZ]at a;subst a;exact⟨σ',rfl,Mv.refl j⟩
  |some d=>rw[LZ]at a;subst a;obtain⟨p,q⟩:=hd d LZ;have t:Abs.wr d .un σ=some (DP (JC d.kl d.d σ) d.d .un):=(by simp[Abs.wr]);obtain⟨u,i,n⟩:=(Mv.refl j).wr p q t;have e:Abs.wr d .un σ'=some (DP (JC d.kl d.d σ') d.d .un):=(by simp[Abs.wr]);rw[e]at i;cases i;exact⟨_,rfl,n⟩
 unfold KK at a ⊢;cases hgd:o.guard with
 |none=>rw[hgd]at a;exact cJ h f l k hd a
 |some g=>
  obtain⟨g,m⟩:=g;rw[hgd]at a;simp only at a ⊢;rw[h.eq g (r _ hgd)];split at a
  . rename_i b v;split at a
    . rename_i c;simp only[AAP c];exact cJ h f l k hd a
    . rename_i c;simp only[AAO c];exact skip a
  . exact skip a
  . exact a.elim
end Go.Abs
namespace Go.Abs
variable {G:Gi} {P:Program}
def ZK (G:Gi):Ar->List Nat
 | .t s=>s::G.Nk s++(G.Gc s).flatMap (λr=>r::G.Nk r)
 | .c _=>[]
def Fg (G:Gi):Ar->List Nat
 | .t s=>s::G.Gc s
 | .c _=>[]
def RT (G:Gi) (o:BP):List Nat:=(takes o.op).flatMap (ZK G)++(match o.dst with|some d=>d.d::d.kl|none=>[])
def aF (G:Gi) (o:BP):List Nat:=RT G o++(reads o.op).flatMap (Fg G)++(match o.guard with|some g=>[g.1]|none=>[])
def cOK:Ar->Bool
 | .t _=>true
 | .c a=>FM [] a
def OW (o:BP):Bool:=(takes o.op).all cOK&&(reads o.op).all cOK
theorem Yf {σ σ' τ:Sg} {o:BP} (j:OW o=true) (n:∀d,o.dst=some d->d.rs=G.Gc d.d) (h:Ag G (· ∈aF G o) σ σ') (k:KK P G o (· =τ) σ):∃f,KK P G o (· =f) σ'/\Mv G (· ∈RT G o) σ σ' τ f:=by
 simp only[OW,AAH,AAN]at j;refine aop_loc h (λs m=>by simp only[aF,AAa];exact .inl (.inl m)) ?_ ?_ ?_ ?_ k
 . intro x b;cases x with
   |c a=>exact j.1 _ b
   |t s=>
    have key:∀y∈ZK G (.t s),y∈RT G o:=λy e=>(by simp only[RT,AAa,List.mem_flatMap];exact .inl ⟨_,b,e⟩);refine⟨key _ (by simp[ZK]),λx b=>key _ (by simp[ZK,b]),λr i=>⟨key _ ?_,λx b=>key _ ?_⟩⟩
    . simp only[ZK,AAz,AAg,AAa,List.mem_flatMap];exact .inr (.inr ⟨r,i,.inl rfl⟩)
    . simp only[ZK,AAz,AAg,AAa,List.mem_flatMap];exact .inr (.inr ⟨r,i,.inr b⟩)
 . intro x b;cases x with
   |c a=>exact j.2 _ b
   |t s=>have key:∀y∈Fg G (.t s),y∈aF G o:=λy e=>(by simp only[aF,AAa,List.mem_flatMap];exact .inl (.inr ⟨_,b,e⟩));exact⟨key _ (by simp[Fg]),λr i=>key _ (by simp[Fg,i])⟩
 . intro d hd;refine⟨⟨?_,n d hd⟩,λy e=> ?_⟩
   . simp only[RT,hd,AAa];exact .inr (AA9 ..)
   . simp only[RT,hd,AAa,AAg];exact .inr (.inr e)
 . intro g l;simp only[aF,l,AAa];exact .inr (AA9 ..)
theorem aop_off {σ τ:Sg} {o:BP} (c:OW o=true) (f:∀d,o.dst=some d->d.rs=G.Gc d.d) (b:∀s,FM (G.Gc s) (σ s)=true) (e:KK P G o (· =τ) σ):(∀s,s∉RT G o->τ s=σ s)/\∀s,FM (G.Gc s) (τ s)=true:=by
 obtain⟨g,_,h⟩:=Yf c f (⟨λ_ _=>rfl,λs _=>b s⟩:Ag G (· ∈aF G o) σ σ) e;refine⟨λs a=>(h.off s a).2,λs=> ?_⟩;by_cases a:s∈RT G o
 . exact h.ag.ri s a
 . rw[(h.off s a).2];exact b s
def E6 (L:Nat->Bool) (W:Nat->List Nat) (s:Nat):Nat->Nat
 |0=>0
 |m+1=>if L m=true/\s∈W m then m+1 else E6 L W s m
theorem Wr (L:Nat->Bool) (W:Nat->List Nat) (s m:Nat):E6 L W s m≤m:=by
 induction m with
 |zero=>simp[E6]
 |succ m ih=>simp only[E6];split<;>omega
section
variable {q:Nat->Sg} {L L':Nat->Bool} {W R:Nat->List Nat} {n i:Nat}
theorem lastW_at (hi:L i=false) (o:i<n) (e:∀j s,j<n->s∉W j->q (j+1) s=q j s)
 (f:∀j s,j<i->s∈W j->s∈R i->L j=true) (d:∀j s,i<j->j<n->s∈W j->s∈R i->L j=true->L i=true) {s:Nat} (c:s∈R i):q (E6 L W s n) s=q i s:=by
 have:∀m,m≤n->q (E6 L W s m) s=q (min m i) s:=by
  intro m;induction m with
  |zero=>intro _;simp[E6]
  |succ m ih=>
   intro p;simp only[E6];by_cases g:m<i
   . rw[show min (m+1) i=m+1 from by omega];by_cases a:s∈W m
     . rw[AAP ⟨f m s g a c,a⟩]
     . rw[AAO (λh=>a h.2),ih (by omega),show min m i=m from by omega,e m s (by omega) a]
   . rw[AAO,ih (by omega),show min m i=i from by omega,show min (m+1) i=i from by omega];rintro⟨b,k⟩;by_cases l:m=i
     . subst l;rw[hi]at b;cases b
     . have:=d m s (by omega) (by omega) k c b;rw[hi]at this;cases this
 rw[this n (AAr _),show min n i=i from by omega]
theorem lastW_in (f:i<n) (c:∀j,L' j=(L j||j==i)) (hi:L i=false) (e:∀j s,i<j->j<n->s∈W j->s∈W i->L j=true->L i=true) {s:Nat} (d:s∈W i):E6 L' W s n=i+1:=by
 have:∀m,i<m->m≤n->E6 L' W s m=i+1:=by
  intro m;induction m with
  |zero=>intro h;omega
  |succ m ih=>
   intro l o;simp only[E6];by_cases a:m=i
   . subst a;rw[AAP ⟨by simp[c],d⟩]
   . rw[AAO,ih (by omega) (by omega)];rintro⟨b,g⟩;rw[c]at b;have k:L m=true:=by simpa[a]using b
     have:=e m s (by omega) (by omega) g d k;rw[hi]at this;cases this
 exact this n f (AAr _)
theorem sN (a:∀j,L' j=(L j||j==i)) {s:Nat} (b:s∉W i) (m:Nat):E6 L' W s m=E6 L W s m:=by
 induction m with
 |zero=>rfl
 |succ m ih=>
  simp only[E6,ih,a];by_cases h:m=i
  . subst h;simp[b]
  . simp[h]
theorem sM (a:∀j,j<n->L j=true) (b:∀j s,j<n->s∉W j->q (j+1) s=q j s) (s:Nat):∀m,m≤n->q (E6 L W s m) s=q m s:=by
 intro m;induction m with
 |zero=>intro _;rfl
 |succ m ih=>
  intro c;simp only[E6];by_cases h:s∈W m
  . rw[AAP ⟨a m (by omega),h⟩]
  . rw[AAO (λx=>h x.2),ih (by omega),b m s (by omega) h]
end
end Go.Abs
