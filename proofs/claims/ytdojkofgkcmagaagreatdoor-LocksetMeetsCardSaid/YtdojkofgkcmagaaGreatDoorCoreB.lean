/- A calculus of abstract states of Go memory, and that it is sound. -/
import Derived.Test.YtdojkofgkcmagaaGreatDoorCoreA
import Derived.Laws.MakeOwn
set_option linter.defProp false
set_option linter.unusedSimpArgs false
set_option linter.unusedVariables false
namespace Go.Abs
variable{a:Act}{o:Oper}{t e:jo}{outs2:i5}{l:jl}{σ':Sg}{k n:Nat}{rs:i6}{ds:jd}{u N:ki}{x y:Ar}{i:TypeInfo}{v:jn}
section
variable{w w':ja}{S S':iu}{G:Gi}{δ:ji}{Fr:iy}{P:iz}
theorem eO(b:mq)(a:jj)(i off n:Nat)(v:jn)(c:List (Nat×Value))(vs:jj)(j:b i=some (off,n))(f:v.cells=vs.toArray)(hn:vs.length=n)(k:off+n<=a.length):
 Instr.fill b a.toArray ((i,v)::c)=Instr.fill b (a.take off++vs++a.drop (off+vs.length)).toArray c:=by
 have h:(decide (v.cells.size≠n)||decide (off+v.cells.size>a.toArray.size))=false:=by simp[f,hn];omega
 have d:=fold_set vs off a.toArray an 0;simp only[Nat.add_zero]at d;rcases d with d|d
 . have:(v.cells.zipIdx.foldl (λg (x:Value×Nat)=>g.setIfInBounds (off+x.2) x.1) a.toArray)=(a.take off++vs++a.drop (off+vs.length)).toArray:=(by apply ABr;rw[f,<- d];have e:vs.toArray.zipIdx=vs.zipIdx.toArray:=(by simp);rw[e];simp);simp only[Instr.fill,j,h];simp only[AAd,AAk];exact congrArg (λz=>Instr.fill b z c) this
 . simp at d;omega
def Mr(place:mq):List (Nat×Operand)->List (Nat×Nat×Ar)->Bool
 |[],[]=>true
 | (i,x)::qs,(off,n,y)::ps=>(match place i with|some (o',n')=>o'==off&&n'==n|none=>false)&&Cc x y&&Mr place qs ps
 |_,_=>false
theorem St.XJ{b:mq}(L:mr):∀(l:List (Nat×Operand)) {δ:ji} {Fr:iy} {ds:jl} {Fd:iu} {f:i5} {τ:Sg},St G w S δ Fr->Rd δ a->
 Mr b l L=true->KT w S ds Fd->(∀s x,Fr s x->¬Fd x)->(ds.map DV.er).all GN=true->Abs.XJ G L (ds.map DV.er) (λs=>(δ s).er)=some (f,τ)->
 ∃B N E J,St G w S B N/\(λs=>(B s).er)=τ/\(∀s,(B s).A0=(δ s).A0)/\KT w S E J/\E.map DV.er=f/\Instr.fill b (ds.map DV.A0).toArray (l.map λ(i,x)=>(i,a.eval x))=some (E.map DV.A0).toArray/\
  (∀s x,N s x->¬J x)/\(∀x,BN N x\/J x->BN Fr x\/Fd x)/\f.all GN=true:=by
 induction L with
 |nil=>
  intro l δ Fr ds Fd f τ h Q d M K C g;cases l with
  |cons q l=>simp[Mr]at d
  |nil=>simp only[Abs.XJ,AAU,AAj]at g;obtain⟨rfl,rfl⟩:=g;exact⟨δ,Fr,ds,Fd,h,rfl,λ_=>rfl,M,rfl,by simp[Instr.fill],K,λx m=>m,C⟩
 |cons p L ih=>
  obtain⟨off,n,y⟩:=p;intro l δ Fr ds Fd f τ h Q d M K C g;cases l with
  |nil=>simp[Mr]at d
  |cons q l=>
   obtain⟨i,x⟩:=q;simp only[Mr,AAT]at d;obtain⟨⟨H,T⟩,R⟩:=d;have tT:b i=some (off,n):=by
    split at H
    . rename_i o' n' Vr;simp only[AAT,AAh]at H;rw[Vr,H.1,H.2]
    . cases H
   obtain⟨hy,NP⟩:=Aq T Q;simp only[Abs.XJ]at g;split at g
   . rename_i v τ1 I;split at g
     . rename_i GQ;obtain⟨hn,Z,O⟩:=GQ;obtain⟨δ1,F1,D,Ff,e,KJ,GP,Vf⟩:=h.tk hy I;subst KJ;subst GP;have V:=Mj D e.ok.Lh;have hl:(cellsD D).length=n:=(by rw[<- hn,<- V];simp);have TW:=Mp e.ok O;have U:∀x,Fd x->¬Ff x:=(by intro x m hf;obtain⟨t,I⟩:=e.own x (.inr hf);exact K t x I m);have u:off+(cellsD D).length<=ds.length:=(by rw[hl];simpa using Z);obtain⟨F2,cD,nV⟩:=YV off M (OS e.ok) U u;have OZ:∀s x,F1 s x->¬F2 x:=by
        intro s x m h2;rcases nV x h2 with o|o
        . obtain⟨t,I⟩:=e.own x (.inl ⟨s,m⟩);exact K t x I o
        . exact e.NK s x m o
       have W:=vG ds (cellsD D) off;have j:((ds.take off++cellsD D++ds.drop (off+(cellsD D).length)).map DV.er).all GN=true:=by
        rw[AAY]at C O |-;intro c d;simp only[AA5,AAo]at d;rcases d with(d|d)|d
        . exact C c (by rw[List.map_take]at d;exact ABp d)
        . rw[V]at d;exact O c d
        . exact C c (by rw[List.map_drop]at d;exact List.mem_of_mem_drop d)
       rw[<- V]at g;rw[<- W]at g;obtain⟨X,F2',E,J,LA,TY,Nb,F,SH,ZB,r,z,k⟩:=ih l e.st (λs=>(Q s).trans (e.A0 s).symm) R cD OZ j g;refine⟨X,F2',E,J,LA,TY,λs=>(Nb s).trans (e.A0 s),F,SH,?_,r,?_,k⟩
       . simp only[AAm];rw[eO b (ds.map DV.A0) i off n (a.eval x) _ ((cellsD D).map DV.A0) tT (by rw[NP,<- Vf];exact TW) (by simpa using hl) (by simpa using Z)];rw[<- ZB];congr 2;simp[List.map_take,List.map_drop]
       . intro x m;rcases z x m with o|o
         . exact .inl (e.own x (.inl o))
         . rcases nV x o with P|P
           . exact .inr P
           . exact .inl (e.own x (.inr P))
     . cases g
   . cases g
theorem runs_bld(h:St G w S δ Fr)(k:Rd δ a){b:Array (Nat×Operand)}{f:mq}{r:mr}{d:D3}(hd:I9 G a o (some d))(L:o.op= .build t b)(N:Yv outs2=some l)(j:outs2.all GN=true)(p:Mr f b.toList r=true)(M:∀c:Array Value,Instr.fill f (l.map DV.A0).toArray (b.toList.map λ(i,x)=>(i,a.eval x))=some c->(Instr.build t (b.map λ(i,x)=>(i,a.eval x))).run P w= .ok (.agg c) w)(m:G8 G (.TK outs2 r) (some d) (λs=>(δ s).er)=some σ'):Ry P G w S Fr a o σ':=by
 have g:l.map DV.er=outs2/\KT w S l (λ_=>False):=by have:=JT (w:=w) (S:=S) (δ:=δ) (.agg outs2) (.agg l) (by simp[I5,N]);exact⟨by simpa using this.1,CN.1 this.2.1⟩
 simp only[G8]at m;split at m
 . rename_i T τ y;rw[<- g.1]at y j;obtain⟨Q,R,J,O,v,H,E,B,I,K,C,F,u⟩:=h.XJ (a:=a) r b.toList k p g.2 (λ_ _ _ h=>h) j y;subst H;subst I;refine K8 (D:=.agg J) (Ff:=O) v (λs=>(k s).trans (E s).symm) hd ?_ (λ_ _=>rfl) (λ_ _ _=>rfl) (λ_ h=>h) (λs x q=>(v.ok s).FQ x q) (CN.2 B) C (.agg _ λi e hi=> ?_) (by simpa using m) (Nx.less ?_)
   . have:=M _ K;simp only[execOp,L,Sem.run_bind,this,Result.andThen_ok,Sem.run_pure,MZ]
   . exact S8 (λa k=>by rw[AAY]at u;exact u a k) e (AAg hi)
   . intro x q;rcases F x q with n|n
     . exact n
     . exact n.elim
 . cases m
theorem Wd{c:Type}{rows:List (List c)}{r:List c}(b:∀row∈rows,row.length=k)(hi:n<rows.length)(g:r.length=k):(rows.set n r).flatten=rows.flatten.take (n*k)++r++rows.flatten.drop (n*k+r.length):=by
 induction rows generalizing n with
 |nil=>simp at hi
 |cons x xs ih=>
  have a:=b x ak;cases n with
  |zero=>simp[g,<- a]
  |succ n=>simp only[List.set_cons_succ,List.flatten_cons];rw[ih (λrow d=>b row (by simp[d])) (by simpa using hi)];have e:(x++xs.flatten).take ((n+1)*k)=x++xs.flatten.take (n*k):=(by rw[show(n+1)*k=x.length+n*k from by rw[ABm,a];omega,List.take_length_add_append]);have f:(x++xs.flatten).drop ((n+1)*k+r.length)=xs.flatten.drop (n*k+r.length):=(by rw[show(n+1)*k+r.length=x.length+(n*k+r.length)from by rw[ABm,a];omega,List.drop_length_add_append]);rw[e,f];simp[ABi]
def O4(k:Nat):List (Nat×Operand)->List (Nat×Ar)->Bool
 |[],[]=>true
 | (i,x)::qs,(j,y)::ps=>i==j&&Cc x y&&O4 k qs ps
 |_,_=>false
theorem St.XK(K:nr):∀(d:List (Nat×Operand)) {δ:ji} {Fr:iy} {ds:jd} {Fd:iu} {rs:i6} {τ:Sg},St G w S δ Fr->Rd δ a->
 O4 k d K=true->KT w S ds.flatten Fd->(∀r∈ds,r.length=k)->(∀s x,Fr s x->¬Fd x)->Abs.XK G k K (ds.map (·.map DV.er)) (λs=>(δ s).er)=some (rs,τ)->
 ∃(u:ji)(M:iy)(g:jd)(I:iu),St G w S u M/\(λs=>(u s).er)=τ/\(∀s,(u s).A0=(δ s).A0)/\KT w S g.flatten I/\(∀r∈g,r.length=k)/\g.length=ds.length/\g.map (·.map DV.er)=rs/\
  Instr.fill (λi=>some (i*k,k)) (ds.flatten.map DV.A0).toArray (d.map λ(i,x)=>(i,a.eval x))=some (g.flatten.map DV.A0).toArray/\(∀s x,M s x->¬I x)/\(∀x,BN M x\/I x->BN Fr x\/Fd x):=by
 induction K with
 |nil=>
  intro d δ Fr ds Fd rs τ h O C L z J c;cases d with
  |cons q d=>simp[O4]at C
  |nil=>simp only[Abs.XK,AAU,AAj]at c;obtain⟨rfl,rfl⟩:=c;exact⟨δ,Fr,ds,Fd,h,rfl,λ_=>rfl,L,z,rfl,rfl,by simp[Instr.fill],J,λx e=>e⟩
 |cons p K ih=>
  obtain⟨j,y⟩:=p;intro d δ Fr ds Fd rs τ h O C L z J c;cases d with
  |nil=>simp[O4]at C
  |cons q d=>
   obtain⟨i,x⟩:=q;simp only[O4,AAT,AAh]at C;obtain⟨⟨rfl,Q⟩,P⟩:=C;obtain⟨hy,NP⟩:=Aq Q O;simp only[Abs.XK]at c;split at c
   . rename_i v τ1 H;split at c
     . rename_i GQ;obtain⟨hn,hi,Hy⟩:=GQ;obtain⟨δ1,Z,D,Ff,b,KJ,GP,Vf⟩:=h.tk hy H;subst KJ;subst GP;have W:=Mj D b.ok.Lh;have B:(cellsD D).length=k:=(by rw[<- hn,<- W];simp);have TW:=Mp b.ok Hy;have hi':i<ds.length:=(by simpa using hi);have R:∀x,Fd x->¬Ff x:=(by intro x e hf;obtain⟨t,H⟩:=b.own x (.inr hf);exact J t x H e);have m:i*k+(cellsD D).length<=ds.flatten.length:=(by rw[D6 z,B,<- ABm];exact ABC _ hi');obtain⟨F2,V,X⟩:=YV (i*k) L (OS b.ok) R m;rw[<- Wd z hi' B]at V;have OZ:∀s x,Z s x->¬F2 x:=by
        intro s x e h2;rcases X x h2 with l|l
        . obtain⟨t,H⟩:=b.own x (.inl ⟨s,e⟩);exact J t x H l
        . exact b.NK s x e l
       have XD:∀r∈ds.set i (cellsD D),r.length=k:=by
        intro r hr;rcases AA7 hr with h|rfl
        . exact z r h
        . exact B
       rw[<- W]at c;rw[<- ABI (f:=λx:List DV=>x.map DV.er)]at c;obtain⟨U,F2',g,I,LA,TY,Nb,F,T,E,SH,ZB,n,o⟩:=ih d b.st (λs=>(O s).trans (b.A0 s).symm) P V XD OZ c;refine⟨U,F2',g,I,LA,TY,λs=>(Nb s).trans (b.A0 s),F,T,by simpa using E,SH,?_,n,?_⟩
       . simp only[AAm];rw[eO _ (ds.flatten.map DV.A0) i (i*k) k (a.eval x) _ ((cellsD D).map DV.A0) rfl (by rw[NP,<- Vf];exact TW) (by simpa using B) (by rw[AA6];rw[B]at m;exact m)];rw[<- ZB,Wd z hi' B];congr 2;simp[List.map_take,List.map_drop]
       . intro x e;rcases o x e with l|l
         . exact .inl (b.own x (.inl l))
         . rcases X x l with N|N
           . exact .inr N
           . exact .inl (b.own x (.inr N))
     . cases c
   . cases c
def zR:List (List AV)->ABu (List (List DV))
 |[]=>some []
 |r::rs=>match Yv r,zR rs with
  |some d,some ds=>some (d::ds)
  |_,_=>none
theorem sQ(rs:i6)(ds:jd)(h:zR rs=some ds):ds.map (·.map DV.er)=rs/\KT w S ds.flatten (λ_=>False):=by
 induction rs generalizing ds with
 |nil=>simp only[zR,AAU]at h;subst h;exact⟨rfl,λ_ h=>h⟩
 |cons r rs ih=>
  simp only[zR]at h;split at h
  . rename_i d a c e;obtain rfl:=AAW h;obtain⟨b,g2⟩:=ih a e
    have:=JT (w:=w) (S:=S) (δ:=λ_=>default) (.agg r) (.agg d) (by simp[I5,c]);refine⟨by simp[b];simpa using this.1,?_⟩;simp only[List.flatten_cons];exact(Mn (CN.1 this.2.1) g2 (λ_ h=>h.elim)).congr λx=>ak
  . cases h
theorem runs_bsl(h:St G w S δ Fr)(O:∀b,S b->b<w.heap.size)(J:Rd δ a){f:Array (Nat×Operand)}{H:nr}{d:D3}(hd:I9 G a o (some d))(X:o.op= .buildSlice t n f)(hz:zR rs=some ds)(D:∀r∈rs,r.length=k)(F:rs.length=n)(B:O4 k f.toList H=true)(C:∀g:Array Value,Instr.fill (λi=>some (i*k,k)) (ds.flatten.map DV.A0).toArray (f.toList.map λ(i,x)=>(i,a.eval x))=some g->
  (Instr.buildSlice t n (f.map λ(i,x)=>(i,a.eval x))).run P w= .ok (.slice (some ⟨w.heap.size,0,none⟩) n n) (w.alloc (.cells g e)))(v:G8 G (.OR k rs H) (some d) (λs=>(δ s).er)=some σ'):Ry P G w S Fr a o σ':=by
 obtain⟨m,q⟩:=sQ (w:=w) (S:=S) rs ds hz;have p:∀r∈ds,r.length=k:=by
  intro r C
  have:=D (r.map DV.er) (by rw[<- m];exact ABY C);simpa using this
 have l:ds.length=n:=by rw[<- F,<- m];simp
 simp only[G8]at v;split at v
 . rename_i z τ K;rw[<- m]at K;obtain⟨δ',F',I,qW,M,U,R,N,L,j,V,W,Q,T⟩:=h.XK (a:=a) H f.toList J B q p (λ_ _ _ h=>h) K;subst U;subst V;refine aG (bx:=false) (k:=k) (c:=n) (rows:=I) (Fd:=qW) (arr:=(I.flatten.map DV.A0).toArray) (E:=e) M O (λs=>(J s).trans (R s).symm) hd ?_ N Q L ?_ ?_ v ?_
   . have:=C _ W;simp only[execOp,X,Sem.run_bind,this,Result.andThen_ok,Sem.run_pure,KW,AAd,AAk,j,l]
   . simp only[AAd,AAk,List.size_toArray,AA6,D6 L,j,l];exact⟨trivial,AAv _⟩
   . intro len d hn;rw[List.getElem?_toArray,AAf,hn];rfl
   . intro x Z;rcases T x Z with y|y
     . exact y
     . exact y.elim
 . cases v
theorem TO(z:i5)(a:jl)(h:Yv z=some a):a.map DV.er=z/\∀D∈a,Ok w S D (λ_=>False):=by
 obtain⟨f,g,_⟩:=JT (w:=w) (S:=S) (δ:=λ_=>.lf .un undef) (.agg z) (.agg a) (by simp[I5,h]);refine⟨by simpa using f,λD j=> ?_⟩;obtain⟨b,c,_,_,d⟩:=Ki.1 (CN.1 g);obtain⟨i,hi⟩:=AAs j
 have:=c i D hi;have e:b i=λ_=>False:=funext λx=>propext ⟨λk=>(d x).2 ⟨i,k⟩,False.elim⟩;rwa [e]at this
theorem flat_rep{b:Type}(a:List b)(l:Nat):∀n,n<l*a.length->(List.replicate l a).flatten[n]? =a[n%a.length]? :=by
 induction l with
 |zero=>intro n h;omega
 |succ l ih=>
  intro n h;rw[List.replicate_succ,List.flatten_cons];by_cases hn:n<a.length
  . rw[AA0 hn,Nat.mod_eq_of_lt hn]
  . rw[AAx ah,ih (n-a.length) (by rw[Nat.add_mul,Nat.one_mul]at h;omega),<- Nat.mod_eq_sub_mod ah]
theorem runs_mk(h:St G w S δ Fr)(DA:∀b,S b->b<w.heap.size)(zv:Rd δ a){d:D3}(hd:I9 G a o (some d))(ho:o.op= .makeSlice t u N)(hu:P.underlying t=some (.slice e))(hi:P.info? e=some i)(Q:i.zero=some v)(T:i.size=k)(C:i.bytes=n)(B:0<n)(tO:0<k)(Z:Yv outs2=some l)(p:v.cells.toList=l.map DV.A0)(O:outs2.length=k)(I:Cc u x=true)(J:Cc N y=true)(g:G8 G (.mk k n outs2 x y) (some d) (λs=>(δ s).er)=some σ'):Ry P G w S Fr a o σ':=by
 obtain⟨M,ex⟩:=Aq I zv;obtain⟨hy,ey⟩:=Aq J zv;simp only[G8]at g;split at g
 . rename_i f c K F;split at g
   . rename_i GQ;obtain⟨h0,SE,Qe⟩:=GQ;obtain⟨kl,K⟩:=O1 K;obtain⟨kc,F⟩:=O1 F;obtain⟨el,_⟩:=h.FV M K;obtain⟨ec,_⟩:=h.FV hy F;have hr:c.toNat*n<=70368744177664:=(by simpa[Am]using Qe);have H:(c.toNat:Int)=c:=Int.toNat_of_nonneg ah;have U:c.toNat<=c.toNat*n:=Nat.le_mul_of_pos_right _ B;have r:l.length=k:=(by have:=congrArg List.length (TO (w:=w) (S:=S) outs2 l Z).1;rw[AA6]at this;rw[this,O]);have C4:=run_make (P:=P) w t e i v hu hi Q kl kc f c h0 SE (by rw[C,<- H];have:(n:Int)*(c.toNat:Int)=((c.toNat*n:Nat):Int):=(by rw[ABV];simp);rw[this];omega) ah;have q:v.cells.size=k:=(by have:=congrArg List.length p;simp only[AA6,r]at this;simpa using this);have R:(List.replicate f.toNat l).length=f.toNat:=ak;refine aG (bx:=false) (k:=k) (c:=c.toNat) (rows:=List.replicate f.toNat l) (Fd:=λ_=>False) (arr:=madeCells v.cells (c.toNat*i.size)) (E:=e) h DA zv hd ?_ ?_ (λ_ _ _ h=>h) ?_ ?_ ?_ ?_ (λu M=>M.elim id False.elim)
     . simp only[execOp,ho,ex,ey,el,ec,Sem.run_bind,C4,Result.andThen_ok,Sem.run_pure,KW,AAd,AAk,R]
     . refine CZ λD hD=> ?_;obtain⟨row,X,j⟩:=List.mem_flatten.1 hD;rw[List.eq_of_mem_replicate X]at j;exact(TO outs2 l Z).2 D j
     . intro row X;rw[List.eq_of_mem_replicate X,r]
     . simp only[AAd,AAk,size_madeCells,T,R];exact⟨trivial,ah⟩
     . intro bytes D hn;have m:bytes<f.toNat*l.length:=(by have:=(AAV.1 hn).1;simpa using this);rw[flat_rep l f.toNat bytes m]at hn;have V:f.toNat*k<=c.toNat*k:=ABC _ ah;have L:bytes<c.toNat*i.size:=(by rw[T];rw[r]at m;omega);have W:bytes%k<k:=Nat.mod_lt _ tO;rw[r]at hn;have B2:v.cells[bytes%k]? =some D.A0:=(by rw[<- Array.getElem?_toList,p,AAf,hn];rfl);simp only[madeCells,Array.getElem?_map,Array.getElem?_range,AAb L,AA1,q];rw[getElem!_def,B2]
     . have:(List.replicate f.toNat l).map (·.map DV.er)=List.replicate f.toNat outs2:=(by rw[List.map_replicate,(TO (w:=w) (S:=S) outs2 l Z).1]);rw[this];exact g
   . cases g
 . cases g
end
variable{lo' hi' X:ABu Ar}{r m f:Nat}{lo hi mx:ABu Value}{b:Bool}{rows:i6}{base:ABu Addr}{F:iu}
section
variable{w w':ja}{S S':iu}{G:Gi}{δ:ji}{Fr:iy}{P:iz}
def Bd(v:ABu Value)(dflt n:Nat):Prop:=(v=none/\n=dflt)\/∃kk i,v=some (.int kk i)/\0<=i/\i.toNat=n
theorem St.bd(h:St G w S δ Fr)(e:Rd δ a){x:ABu Operand}(c:UC x lo'=true){dflt:Nat}(b:Og (λs=>(δ s).er) lo' dflt=some n):Bd (x.map a.eval) dflt n/\(x=none↔lo'=none):=by
 unfold UC at c;split at c
 . simp only[Og,AAU]at b;exact⟨.inl ⟨rfl,b.symm⟩,ak⟩
 . rename_i x lo';obtain⟨f,k⟩:=Aq c e;simp only[Og]at b;split at b
   . rename_i i hi;split at b
     . rename_i d;simp only[AAU]at b;obtain⟨g,hi⟩:=O1 hi;obtain⟨j,_⟩:=h.FV f hi;exact⟨.inr ⟨g,i,aS,d,b⟩,ak⟩
     . cases b
   . cases b
 . cases c
theorem Jg{c:IntKind}{i:Int}{a:BoundsCode}(b:0<=i)(hn:i.toNat=n)(d:n<=k)(w:ja):(Instr.sliceBound (.int c i) k a).run P w= .ok n w:=by
 have:i<=k:=ah
 simp[Instr.sliceBound,asIntOf,b,this,hn]
theorem kM{cap h:Nat}(l:P.underlying t=some (.slice e))(z:HI P e=some k)(B:Bd lo 0 r)(y:Bd hi n h)(C:Bd mx cap m)(D:mx≠none->hi≠none)(p:r<=h)(o:h<=m)(q:m<=cap)(d:ABu Addr)(w:ja):
 (Instr.sliceAt t (.slice d n cap) lo hi mx).run P w= .ok (.slice (if m=r then d else d.map (·.add (r*k))) (h-r) (m-r)) w:=by
 have v:(Instr.sliceBounds true n cap lo hi mx).run P w= .ok (r,h,m) w:=by
  rcases C with⟨rfl,rfl⟩|⟨I,G,rfl,i,j⟩<;>rcases y with⟨rfl,rfl⟩|⟨H,E,rfl,b,c⟩<;>rcases B with⟨rfl,rfl⟩|⟨kl,F,rfl,f,g⟩<;>
   first
    | (simp[Instr.sliceBounds,Jg i j q,Jg b c o,Jg f g p];done)
    | (simp[Instr.sliceBounds,Jg i j q,Jg b c o];done)
    | (simp[Instr.sliceBounds,Jg b c o,Jg f g p];done)
    | (simp[Instr.sliceBounds,Jg b c o];done)
    | (simp[Instr.sliceBounds,Jg f g p];done)
    | (simp[Instr.sliceBounds];done)
    |simp_all
 have:(Instr.sliceAt t (.slice d n cap) lo hi mx)=(do match <- underlying t with
  | .array len elem=>
   let a <- Instr.sureAddr (.slice d n cap)
   let(r,h,m) <- Instr.sliceBounds false len len lo hi mx
   let size <- sizeOf elem
   pure (.slice (some (if m=r then a else a.add (r*size))) (h-r) (m-r))
  |_=>Instr.slice t (.slice d n cap) lo hi mx):=rfl
 rw[this];simp only[Sem.run_bind,run_underlying l,Result.andThen_ok];have u:(Instr.slice t (.slice d n cap) lo hi mx)=(do
  match <- underlying t,(Value.slice d n cap)with
  | .string,.string s=>
   if mx.isSome then stuck "Slice: full slice of a string"
   let(r,h,_) <- Instr.sliceBounds false s.size s.size lo hi none
   pure (.string (s.extract r h))
  | .slice elem,.slice a n cap=>
   let(r,h,m) <- Instr.sliceBounds true n cap lo hi mx
   let size <- sizeOf elem
   pure (.slice (if m=r then a else a.map (·.add (r*size))) (h-r) (m-r))
  | .pointer arr,x=>
   let a <- asAddr x
   let .array len elem <- underlying arr|stuck "Slice: array type expected"
   let(r,h,m) <- Instr.sliceBounds false len len lo hi mx
   let size <- sizeOf elem
   pure (.slice (some (if m=r then a else a.add (r*size))) (h-r) (m-r))
  |_,_=>stuck "Slice: string, slice or pointer to array expected"):=rfl
 rw[u];simp only[Sem.run_bind,run_underlying l,Result.andThen_ok,v,run_sizeOf z,Sem.run_pure]
theorem Fz.cut{h:Nat}{x:Bool}(p:Fz w S (.sl b k rows) (.slice base n r))(s:f<=h)(t:h<=rows.length)(u:h<=m)(v:x=true->m=h):
 Fz w S (.sl x k ((rows.drop f).take (h-f))) (.slice (if m=f then base else base.map (·.add (f*k))) (h-f) (m-f)):=by
 have g:((rows.drop f).take (h-f)).length=h-f:=an
 by_cases d:h=f
 . subst d;simp only[Nat.sub_self,List.take_zero];exact .nil x k _ _ (λq=>am)
 . have cap:m≠f:=ah;cases p with
   |nil=>simp_all
   |sl _ _ _ e off c vs qN SE hS hk hc hr=>
    simp only[cap,AAk,AA1,Addr.add_lit];have l:∀i row,((rows.drop f).take (h-f))[i]? =some row->rows[f+i]? =some row:=by
     intro i row hi;rw[ABe]at hi;split at hi
     . simp_all
     . cases hi
    have key:Fz w S (.sl x k ((rows.drop f).take (h-f))) (.slice (some ⟨e,off+f*k,none⟩) ((rows.drop f).take (h-f)).length (m-f)):=by
     refine .sl x k _ e (off+f*k) (m-f) (λi j=>vs (f+i) j) (λq=>am) ah hS (λrow o=>hk row (List.mem_of_mem_drop (ABp o))) ?_ ?_
     . grind
     . simp_all
    simp_all
theorem O7{h:Nat}(a:UH rows n h=some rs):n<=h/\h<=rows.length/\rs=(rows.drop n).take (h-n):=by unfold UH at a;simp_all
theorem St.bdM(h:St G w S δ Fr)(l:Rd δ a){x:ABu Operand}(g:UC x lo'=true){cap:Nat}(c:mxI (λs=>(δ s).er) lo' n=some m)(e:m=n)(f:n<=cap):
 ∃d,Bd (x.map a.eval) cap d/\n<=d/\d<=cap/\(lo'.isSome=true->d=n):=by
 cases lo' with
 |none=>
  cases x with
  |none=>exact⟨cap,.inl ⟨rfl,rfl⟩,f,AAv _,ak⟩
  |some x=>simp[UC]at g
 |some lo'=>
  obtain⟨b,_⟩:=h.bd l g (dflt:=0) (by simpa only[mxI]using c);subst e;cases x with
  |none=>simp_all
  |some x=>
   rcases b with⟨b,_⟩|⟨o,i,b,j,k⟩
   . simp at b
   . exact⟨m,.inr ⟨o,i,b,j,k⟩,AAv _,f,λ_=>rfl⟩
theorem pK(h:St G w S δ Fr){a:Act}(z:Rd δ a){o:Oper}{t e:jo}{x:ki}{lo hi mx:ABu Operand}{k:Nat}{y:Ar}{lo' hi' u:ABu Ar}{d:D3}(hd:I9 G a o (some d))(ho:o.op= .slice t x lo hi mx)(hu:P.underlying t=some (.slice e))(hk:HI P e=some k)(hc:Cc x y=true)(cC:UC lo lo'=true)(Ny:UC hi hi'=true)(R:UC mx u=true)(hmh:mx=none\/hi≠none){σ':Sg}(f:G8 G (.slc k true y lo' hi' u) (some d) (λs=>(δ s).er)=some σ'):Ry P G w S Fr a o σ':=by
 obtain⟨hy,N⟩:=Aq hc z;have C:mx.map a.eval≠none->hi.map a.eval≠none:=by
  intro K h2;rcases hmh with h3|h3
  . simp_all
  . simp_all
 simp only[G8]at f;split at f
 . -- frozen already
   rename_i ee L rows pl W;split at f
   . rename_i l n I H;split at f
     . rename_i rs m i hm;split at f
       . rename_i GQ;obtain⟨rfl,j⟩:=GQ;obtain⟨K,h2,rfl⟩:=O7 i;have J:=(h.wZ hy W).2 _ _ _ rfl (h.hdSl hy W);obtain⟨g,cap,E⟩:=Qa J;rw[E]at J N;have O:rows.length<=cap:=by
          cases J with
          |nil=>simp
          |sl _ _ _ b off c vs qN O=>exact O
         obtain⟨b1,_⟩:=h.bd z cC I;obtain⟨b2,_⟩:=h.bd z Ny H;obtain⟨q,b3,Q,g2,g3⟩:=h.bdM z R hm j (cap:=cap) ah;have Z:=kM (P:=P) hu hk b1 b2 b3 C K Q g2 g w;have V:=J.cut (m:=q) (x:=u.isSome) K h2 Q g3;have ON:(DV.lf (.sl u.isSome L ((rows.drop l).take (n-l))) (.slice (if q=l then g else g.map (·.add (l*L))) (n-l) (q-l))).er= .sl u.isSome L ((rows.drop l).take (n-l)):=ak
         refine K8 (D:=.lf (.sl u.isSome L ((rows.drop l).take (n-l))) (.slice (if q=l then g else g.map (·.add (l*L))) (n-l) (q-l))) (Ff:=λ_=>False) h z hd ?_ (λ_ _=>rfl) (λ_ _ _=>rfl) (λ_ h=>h) (λs x B=>(h.ok s).FQ x B)
          (.lf _ _ _ V (λ_ h=>h)) (λ_ _ _ h=>h) (.lf _ _ trivial) am (Nx.less λx B=>B.elim id False.elim)
         simp only[execOp,ho,N,Sem.run_bind,Z,Result.andThen_ok,Sem.run_pure,Kn]
       . cases f
     . cases f
   . cases f
 . -- frozen now
   rename_i L rows r p W;split at f
   . rename_i l n I H;split at f
     . rename_i rs m i hm;split at f
       . rename_i GQ;obtain⟨rfl,j⟩:=GQ;obtain⟨K,h2,rfl⟩:=O7 i;simp only[AAy]at f;split at f
         . rename_i fr τ J;obtain⟨δ1,F1,Fo,v,bx,M,Au,CX,KJ,EJ,CU,T,hfe,Dd,Eu,_⟩:=h.SA J;subst KJ;obtain⟨X,F,SF,Cq,Vr⟩:=(h.wZ hy W).1 _ _ _ rfl;have MX:=Vr r p rfl;rw[CU]at MX;simp only[AAU,DV.own.injEq]at MX;obtain⟨rfl,rfl,rfl,rfl⟩:=MX;have U:fr= .sl false M (rows.map (·.map KI)):=(by rw[hfe];simp only[FO,PB,SF]);rw[U]at T;obtain⟨g,cap,E⟩:=Qa T;rw[E]at T N;have lJ:(rows.map (·.map KI)).length=rows.length:=ak;have O:rows.length<=cap:=by
            rw[<- lJ];generalize rows.map (·.map KI)=rr at*;cases T with
            |nil=>simp
            |sl _ _ _ b off c vs qN O=>exact O
           obtain⟨b1,_⟩:=h.bd z cC I;obtain⟨b2,_⟩:=h.bd z Ny H;rw[lJ]at N;obtain⟨q,b3,Q,g2,g3⟩:=h.bdM z R hm j (cap:=cap) ah;have Z:=kM (P:=P) hu hk b1 b2 b3 C K Q g2 g w;have V:=T.cut (m:=q) (x:=u.isSome) K ah Q g3;rw[<- List.map_drop,<- List.map_take]at V;have ON:(DV.lf (.sl u.isSome M (((rows.drop l).take (n-l)).map (·.map KI))) (.slice (if q=l then g else g.map (·.add (l*M))) (n-l) (q-l))).er= .sl u.isSome M (((rows.drop l).take (n-l)).map (·.map KI)):=ak
           refine K8 (S:=S) (S':=λx=>S x\/Fo x) (D:=.lf (.sl u.isSome M (((rows.drop l).take (n-l)).map (·.map KI))) (.slice (if q=l then g else g.map (·.add (l*M))) (n-l) (q-l))) (Ff:=λ_=>False) CX (λs=>(z s).trans (EJ s).symm) hd ?_ (λ_ _=>rfl) (λ_ _ _=>rfl) (λ_ h=>h) (λs x B=>(CX.ok s).FQ x B)
            (.lf _ _ _ V (λ_ h=>h)) (λ_ _ _ h=>h) (.lf _ _ trivial) am ?_
           . simp only[execOp,ho,N,Sem.run_bind,Z,Result.andThen_ok,Sem.run_pure,Kn]
           . refine Nx.KI (λx B=>Eu x (B.imp (λh=>h.elim id False.elim) id)) λx B=> ?_;obtain⟨t,ht⟩:=Eu x (.inr B);exact(h.ok t).lt x ht
         . cases f
       . cases f
     . cases f
   . cases f
 . cases f
theorem Ok.front(h:Ok w S (.own v false k ds) F)(hn:n<=ds.length):
 ∃d c,v= .slice d ds.length c/\ds.length<=c/\(∀q:Nat,d.map (·.add (0*q))=d)/\∃e,Ok w S (.own (.slice d n c) false k (ds.take n)) e/\∀x,e x->F x:=by
 cases h with
 |nil _ _ hF=>simp only[ABc,Nat.le_zero]at hn;subst hn;exact⟨none,0,rfl,AAv _,λ_=>rfl,F,.nil k F hF,λ_ h=>h⟩
 |own _ _ _ b c arr E Fs _ hb hk Ee Md hv hr hd B0 LR hF=>
  simp only[AAd,AAk]at Ee;have a:(ds.take n).length=n:=an
  have get:∀i (row:jl),(ds.take n)[i]? =some row->ds[i]? =some row/\i<n:=by
   intro i row hi;rw[ABe]at hi;split at hi
   . simp_all
   . cases hi
  have key:Ok w S (.own (KW false b (ds.take n).length c) false k (ds.take n)) (λx=>x=b\/∃i j,(i<n/\Fs i j x)):=by
   refine .own false k _ b c arr E (λi j x=>i<n/\Fs i j x) _ hb (λrow f=>hk row (ABp f)) aS Md ?_ ?_ (λi j o p x g l=>hd i j o p x g.2 l.2) ?_ (λi j h=>LR i j h.2) (λx=>Iff.rfl)
   . simp_all
   . simp_all
   . grind
  refine⟨some ⟨b,0,none⟩,c,by simp[KW],Ee.2,λq=>by simp[Addr.add],λx=>x=b\/∃i j,(i<n/\Fs i j x),?_,λx m=>(hF x).2 (m.elim .inl λ⟨i,j,h⟩=>.inr ⟨i,j,h.2⟩)⟩;rw[a]at key;simpa[KW]using key
theorem runs_slcO(h:St G w S δ Fr)(i:Rd δ a){lo hi mx:ABu Operand}{d:D3}(hd:I9 G a o (some d))(ho:o.op= .slice t u lo hi mx)(hu:P.underlying t=some (.slice e))(hk:HI P e=some k)(hc:Cc u y=true)(cC:UC lo lo'=true)(Ny:UC hi hi'=true)(M:UC mx X=true)(x:mx=none\/hi≠none)(b:G8 G (.slc k false y lo' hi' X) (some d) (λs=>(δ s).er)=some σ'):Ry P G w S Fr a o σ':=by
 obtain⟨hy,K⟩:=Aq hc i;have hmh':mx.map a.eval≠none->hi.map a.eval≠none:=by
  intro h1 h2;rcases x with h3|h3
  . simp_all
  . simp_all
 by_cases V:∃ee W rows pl,Abs.hd (λs=>(δ s).er) y=some (.sl ee W rows,pl)
 . refine pK h i hd ho hu hk hc cC Ny M x ?_;obtain⟨ee,W,rows,pl,N⟩:=V;simp only[G8,N]at b |-;exact b
 simp only[G8]at b;split at b
 . simp_all
 . rename_i W rows r p N;split at b
   . rename_i l g R O;split at b
     . rename_i rs m q hm;split at b
       . rename_i GQ;obtain⟨rfl,hmeq⟩:=GQ;obtain⟨h1,h2,rfl⟩:=O7 q;rw[AAa ak]at b;split at b
         . rename_i Q;obtain⟨rfl,U⟩:=Q;split at b
           . rename_i nn τ ht;obtain⟨δ1,F1,D,Ff,CX,KJ,EJ,XO,GP,⟨v,bx,E,I,rfl⟩,CU,Dd,Eu,_⟩:=h.dN ht;subst KJ;obtain⟨H,F,SF,_,Vr⟩:=(h.wZ hy N).1 _ _ _ rfl;have J:=Vr r p rfl;rw[CU]at J;simp only[AAU,DV.own.injEq]at J;obtain⟨rfl,rfl,rfl,rfl⟩:=J;have lJ:I.length=rows.length:=(by rw[<- SF];simp);obtain⟨f,c,hv,SE,j,F',B,tF⟩:=XO.front (n:=g) ah;rw[hv]at K;have T:X=none:=(by simpa using U);subst T;have z:mx=none:=(by cases mx<;>simp_all [UC]);subst z;obtain⟨b1,_⟩:=h.bd i cC R;obtain⟨b2,_⟩:=h.bd i Ny O;rw[lJ]at K;have Z:=kM (P:=P) hu hk b1 b2 (mx:=none) (cap:=c) (m:=c) (.inl ⟨rfl,rfl⟩) ak h1 ah (AAv _) f w;have L:(if c=0 then f else f.map (·.add (0*E)))=f:=by
              split
              . rfl
              . exact j E
             rw[L,Nat.sub_zero,Nat.sub_zero]at Z;have ON:(DV.own (.slice f g c) false E (I.take g)).er= .own false E ((rows.drop 0).take (g-0)):=(by simp[<- SF,List.map_take]);refine K8 (D:=.own (.slice f g c) false E (I.take g)) (Ff:=F') CX (λs=>(i s).trans (EJ s).symm) hd ?_ (λ_ _=>rfl) (λ_ _ _=>rfl) (λ_ h=>h) (λs u C=>(CX.ok s).FQ u C)
              B (λs u C MH=>Dd s u C (tF u MH)) (.own _ _ _ _) am (Nx.less λu C=>Eu u (C.imp id (tF u)))
             simp only[execOp,ho,K,Option.map_none,Sem.run_bind,Option.map_none]at Z |-;simp_all
           . cases b
         . cases b
       . cases b
     . cases b
   . cases b
 . cases b
end
variable{d g new D:DV}{bx:Bool}{row:jl}{z:jn}{arr:jt}{E:jo}{L:jh}{out:AV}
section
variable{w w':ja}{S S':iu}{G:Gi}{δ:ji}{Fr:iy}{P:iz}
theorem putD_sub(p:i4)(e:Ax d p=some (.own v bx k ds))(h:ds[n]? =some row)(l:row[r]? =some D)(t:D4 d (p++[(n,r,k)]) new=some g):
 Ax g p=some (.own v bx k (ds.set n (row.set r new))):=by
 induction p generalizing d g with
 |nil=>simp only[Ax,AAU]at e;subst e;simp only[List.nil_append,D4,h,l,AAU]at t;subst t;rfl
 |cons s p ih=>
  obtain⟨i0,j0,m⟩:=s;cases d with
  |lf a v=>simp[Ax]at e
  |own hh b k1 Kb=>
   simp only[Ax]at e;simp only[ABE,D4]at t;cases hi:Kb[i0]? with
   |none=>simp_all
   |some row1=>
    simp only[hi]at e t;cases hj:row1[j0]? with
    |none=>simp_all
    |some c=>
     simp only[hj]at e t;cases hc:D4 c (p++[(n,r,k)]) new with
     |none=>simp_all
     |some c'=>simp only[hc,AAU]at t;subst t;simp only[Ax,AAX (AAV.1 hi).1,AAX (AAV.1 hj).1];grind
  |agg cs=>
   simp only[Ax]at e;simp only[ABE,D4]at t;cases hj:cs[j0]? with
   |none=>simp_all
   |some c=>
    simp only[hj]at e t;cases hc:D4 c (p++[(n,r,k)]) new with
    |none=>simp_all
    |some c'=>simp only[hc,AAU]at t;subst t;simp only[Ax,AAX (AAV.1 hj).1];grind
  |BZ cs=>
   simp only[Ax]at e;simp only[ABE,D4]at t;cases hj:cs[j0]? with
   |none=>simp_all
   |some c=>
    simp only[hj]at e t;cases hc:D4 c (p++[(n,r,k)]) new with
    |none=>simp_all
    |some c'=>simp only[hc,AAU]at t;subst t;simp only[Ax,AAX (AAV.1 hj).1];grind
theorem RD{off:Nat}(a:w.heap[n]? =some (.cells arr E (0,0)))(f:arr[off]? =some z)(e:G4 v=true):(store ⟨n,off,none⟩ v).run P w= .ok () (w.setCell ⟨n,off,none⟩ v):=by
 have c:w.cell? ⟨n,off,none⟩=some z:=by simp[World.cell?,a,f]
 have d:w.frozen? ⟨n,off,none⟩=false:=by simp[World.frozen?,a]
 cases v<;>first
  |simp[G4]at e;done
  |simp[store,Sem.run,c,d]
theorem Qr(h:Ok w S (.own v bx k ds) F)(a:US v=some n):F n/\∃arr E,w.heap[n]? =some (.cells arr E (0,0))/\∀(i j:Nat) row d,ds[i]? =some row->row[j]? =some d->arr[i*k+j]? =some d.A0:=by
 cases h with
 |nil=>simp[US]at a
 |own _ _ _ b' c arr E Fs _ hbb hk Ee Md hv hr hd B0 LR hF=>simp only[Y8,AAU]at a;simp_all
theorem mT(h:GN out=true):GL L out=true:=by cases out<;>first| (simp;done)| (simp[GN]at h;done)
theorem fY(ds:jl):∀{w:ja}{t:DV}{F Fd:iu}{p:i4}{v:jn}{bx:Bool}{k i j b:Nat}{rows:jd}{row:jl} {R:AV},Ok w S t F->Ax t p=some (.own v bx k rows)->US v=some b->rows[i]? =some row->j+ds.length<=row.length->
 KT w S ds Fd->(∀x,Fd x->¬F x)->(ds.map DV.er).all GN=true->stC p i k j (ds.map DV.er) t.er=some R->∀(m off:Nat),off+m=i*k+j->
 ∃(w':ja)(s:DV)(N:iu),(storeCells ⟨b,off,none⟩ (ds.map DV.A0) m).run P w= .ok () w'/\Ok w' S s N/\s.er=R/\s.A0=t.A0/\(∀x,N x->F x\/Fd x)/\(∀x,x≠b->w'.heap[x]? =w.heap[x]?)/\F b/\
  w'.os=w.os/\w'.tape=w.tape/\w'.output=w.output/\w'.heap.size=w.heap.size/\(∀δ,Dr δ t->Dr δ s)/\(∀L,GL L t.er=true->GL L s.er=true)/\
  ((((row.map DV.er).drop j).take ds.length).all DS=true->∀q v bx k rows,Ax t q=some (.own v bx k rows)->∃e,Ax s q=some (.own v bx k e)):=by
 induction ds with
 |nil=>intro w t F Fd p v bx k i j b rows row R h z I hi hj Cq M B u m off hm;simp only[AA2,stC,AAU]at u;obtain⟨F1,o,H⟩:=h.Ax z;exact⟨w,t,F,by simp[storeCells],h,u,rfl,λx c=>.inl c,λ_ _=>rfl,H b (Qr o I).1,rfl,rfl,rfl,rfl,λ_ h=>h,λ_ h=>h,λ_ q v bx k rows hq=>⟨rows,hq⟩⟩
 |cons d ds ih=>
  intro w t F Fd p v bx k i j b rows row R h z I hi hj Cq M B u m off hm;obtain⟨Fa,Fb,hd,KX,T,D⟩:=Cq;simp only[ABU]at hj;have K:j<row.length:=ah
  have hold:row[j]? =some row[j]:=AAZ K;obtain⟨Fn,W,X⟩:=h.Ax z;obtain⟨Sr,arr,E,U,SD⟩:=Qr W I;have f:=X b Sr;have Md:¬S b:=h.FQ b f;have Me:∀x,Fd x->x≠b:=by rintro x c rfl;exact M x c f
  have r:Ok (w.setCell ⟨b,i*k+j,none⟩ d.A0) S d Fa:=by refine hd.mono (λx c=>Dc _ _ _ _ _ ?_) (λx c=>Dc _ _ _ _ _ (Me x ((D x).2 (.inl c)))) (λ_ h=>h) hd.FQ;rintro rfl;exact Md c
  obtain⟨t1,F1,G,nU,n,Kr,_⟩:=h.store p z hi hold I r (λx c=>M x ((D x).2 (.inl c)));simp only[AAm,stC]at u;split at u
  . rename_i t'' Z;have hte:t1.er=t'':=(by obtain⟨t2,Q,g2⟩:=Ht d h.Lh Z;rw[G]at Q;obtain rfl:=AAW Q;exact g2);subst hte;have hs1:=putD_sub p z hi hold G;have V:(rows.set i (row.set j d))[i]? =some (row.set j d):=AAX (AAV.1 hi).1;simp only[AAm,ABF,AAT]at B;have g:KT (w.setCell ⟨b,i*k+j,none⟩ d.A0) S ds Fb:=(by refine KX.mono (λx c=>Dc _ _ _ _ _ ?_) (λx c=>Dc _ _ _ _ _ (Me x ((D x).2 (.inr c)))) (λ_ h=>h) (CN.2 KX).FQ;rintro rfl;exact Md c);obtain⟨w',s,N,C4,Qd,J,UR,MX,ZD,_,Q,g2,g3,g4,g5,g6,TZ⟩:=ih (off:=off) (m:=m+1) (j:=j+1) nU hs1 I V an g (by
     intro x c hx1;rcases n x hx1 with o|o
     . exact M x ((D x).2 (.inr c)) o
     . exact T x o c) B.2 u ah
    refine⟨w',s,N,?_,Qd,J,UR.trans Kr,?_,?_,f,Q,g2,g3,by rw[g4];simp,?_,?_,?_⟩
    . have FZ:=RD (P:=P) (w:=w) (off:=i*k+j) (v:=d.A0) U (SD i j row _ hi hold) (Li hd B.1);simp only[AAm,storeCells,Sem.run_bind,Addr.add_lit,hm,FZ,Result.andThen_ok,C4]
    . intro x c;rcases MX x c with o|o
      . rcases n x o with H|H
        . exact .inl H
        . exact .inr ((D x).2 (.inl H))
      . exact .inr ((D x).2 (.inr o))
    . intro x c;rw[ZD x c,Dc _ _ _ _ _ c]
    . intro δ G9;refine g5 δ (Nj _ G G9 ?_);exact S8 (ds:=[d]) (by simpa using B.1) d ak
    . intro L hL;refine g6 L (NA _ G hL ?_);exact mT B.1
    . intro O q v' lI k' e hq;have y:(row.map DV.er).drop j=(row[j]).er::(row.map DV.er).drop (j+1):=(by rw[ABQ (by simpa using K)];simp);rw[y]at O;simp only[ABU,List.take_succ_cons,ABF,AAT]at O;have nO:∃a v,row[j]= .lf a v:=by
       have hl:=(h.Lh.Ax z);cases hl with
       |own _ _ _ _ hr=>
        have:=hr i j row _ hi hold;have C:=O.1;cases T5:row[j]with
        |lf a v=>exact⟨a,v,rfl⟩
        |own=>rw[T5]at C;simp[DS]at C
        |agg=>rw[T5]at C;simp[DS]at C
        |BZ=>rw[T5]at C;simp[DS]at C
      obtain⟨a0,v0,qM⟩:=nO;have l:Ax t (p++[(i,j,k)])=some (.lf a0 v0):=(by rw[JP,z];simp[Ax,hi,hold,qM]);obtain⟨Kb,hq1⟩:=S6 _ G l ak ak ak q v' lI k' e hq;refine TZ ?_ q v' lI k' Kb hq1;rw[ABI,List.drop_set_of_lt ah];exact O.2
  . cases u
theorem xP(h:St G w S δ Fr)(V:Rd δ a)(hd:I9 G a o none)(ho:o.op= .store t N u)(hn:HI P t=some n)(hc:Cc N y=true)(Ny:Cc u x=true)(f:G8 G (.st n y x) none (λs=>(δ s).er)=some σ'):Ry P G w S Fr a o σ':=by
 obtain⟨hy,NP⟩:=Aq hc V;obtain⟨hz,J⟩:=Aq Ny V;simp only[G8]at f;split at f
 . rename_i v τ ht;obtain⟨l,C,D,Ff,d,KJ,GP,Vf⟩:=h.tk hz ht;subst KJ;subst GP;split at f
   . rename_i r p i j k XN;cases y with
     |c c=>simp[ER]at XN
     |t s=>
      obtain⟨vh,bx,Au,b,Fx,CU,hb,hp,Cq,_⟩:=d.st.ER XN;split at f
      . rename_i lI k' rows W;obtain⟨D',I,m⟩:=ED (d.st.ok r).Lh W;rw[CU]at I;obtain rfl:=AAW I;simp only[FO,AV.own.injEq]at m;obtain⟨rfl,rfl,rfl⟩:=m;split at f
        . rename_i row FP;rw[AAf,AA4]at FP;obtain⟨Jf,Z,rfl⟩:=FP;split at f
          . rename_i GQ;obtain⟨K,O,hjn⟩:=GQ;split at f
            . rename_i t' CX;have hm:=Mj D d.ok.Lh;have hl:(cellsD D).length=n:=(by rw[<- K,<- hm];simp);have TW:=Mp d.ok O;rw[<- hm]at CX O;obtain⟨w',H,F,C4,Qd,B,UR,MX,T,R,g1,g2,g3,g4,g5,g6,TZ⟩:=fY (P:=P) (cellsD D) (d.st.ok r) CU hb Z am (OS d.ok) (λN g L=>d.NK r N L g) O CX 0 (i*k+j) rfl;have hS:∀N,S N->w'.heap[N]? =w.heap[N]? :=λN g=>T N (by rintro rfl;exact(d.st.ok r).FQ _ R g);have hF:∀s,s≠r->∀N,C s N->w'.heap[N]? =w.heap[N]? :=λs hs N g=>T N (by rintro rfl;exact hs (d.st.NK s r _ g R));have Dd:∀s,s≠r->∀N,F N->¬C s N:=by
               intro s hs N g L;rcases MX N g with U|U
               . exact hs (d.st.NK s r N L U)
               . exact d.NK s N L U
              have Wg:(execOp a.eval o).run P w= .ok .skip w':=(by have Pt:¬((DL δ x).cells.size≠n):=(by rw[<- Vf,TW];simp[hl]);have X:DL δ (.t s)= .pointer (some ⟨b,i*k+j,none⟩):=(by simp only[DL];rw[<- d.A0 s];exact hp);have HT:(DL δ x).cells.toList=(cellsD D).map DV.A0:=(by rw[<- Vf,TW]);simp only[execOp,ho,NP,J,X,Instr.storeAt,Instr.sureAddr,storeVar,Sem.run_bind,Sem.run_pure,Result.andThen_ok,run_sizeOf hn,Sem.run_ite,Pt,AAk,HT,C4]);have P6:∀(E:ji),(∀s,(E s).A0=(l s).A0)->Rd E (a.put o.dst undef):=(by intro E hδ s;have h0:o.dst=none:=hd;rw[h0];simp only[Act.put];rw[hδ,d.A0];exact V s);have Er:∀Q:Nat->Nat->Prop,(∀N,BN Q N->BN C N\/Ff N)->Nx w S (BN Fr) w' S (BN Q):=(by intro Q M;refine⟨g1,g2,g3,ah,?_,λ_ h=>h,λ_ h=>.inl h,λhl b hb=>am,λN g=>.inl (d.own N (M N g))⟩;intro N _ hU;refine T N ?_;rintro rfl;exact hU (d.own _ (.inl ⟨r,R⟩)));have M:∀N,BN (Dn C r F) N->BN C N\/Ff N:=by
               rintro N ⟨s,g⟩;by_cases e:s=r
               . subst e;rw[BW]at g;grind
               . rw[Br _ _ e]at g;grind
              have q:Dr l H:=g5 l (d.st.al r);have XS:GL (G.HA r) H.er=true:=g6 _ (d.st.rt r);split at f
              . rename_i Hy;simp only[AAU]at f;subst f;refine⟨.skip,undef,w',S,Dn l r H,Dn C r F,Wg,.inr ⟨rfl,rfl⟩,P6 _ ?_,?_,d.st.poke r H F hS hF Qd Dd XS q (TZ am) UR,Er _ M⟩
                . intro z;by_cases e:z=r
                  . subst e;rw[BW,UR]
                  . rw[Br _ _ e]
                . funext z;by_cases e:z=r
                  . subst e;simp only[BW,B]
                  . simp only[Br _ _ e]
              . simp only[AAU]at f;subst f;refine⟨.skip,undef,w',S,Dn (ID G r l) r H,Dn C r F,Wg,.inr ⟨rfl,rfl⟩,P6 _ ?_,?_,d.st.set r H F hS hF (λ_ h=>h) (λs _ N g=>(d.st.ok s).FQ N g) Qd Dd XS q,Er _ M⟩
                . intro z;rw[Ih d.st];simp_all
                . rw[JC d.st,B]
            . cases f
          . cases f
        . cases f
      . cases f
   . cases f
 . cases f
end
variable{vs B:jj}{ty:jo}{τ:Sg}
section
variable{w w':ja}{S S':iu}{G:Gi}{δ:ji}{Fr:iy}{P:iz}
def Reads(w:ja)(v:jn)(n:Nat)(vs:jj):Prop:=(∃a c,v= .slice a 0 c/\n=0/\vs=[])\/∃b off c,v= .slice (some ⟨b,off,none⟩) n c/\∀(j:Nat) u,vs[j]? =some u->w.cell? ⟨b,off+j,none⟩=some u
theorem Rq{size:Nat}(h:Reads w v n vs)(d:vs.length=n*size):(Builtin.firstCells size n v).run P w= .ok vs.toArray w:=by
 rcases h with⟨a,c,rfl,rfl,rfl⟩|⟨b,off,c,rfl,e⟩
 . cases a<;>simp[Builtin.firstCells,loadCells,loadCellsFrom]
 . exact run_firstCells_some (P:=P) w size n ⟨b,off,none⟩ n c vs d (λj u f=>by rw[Addr.add_lit];simp_all)
def Reads.drew(h:Reads w v n vs):Reads w.drew v n vs:=h
theorem Reads.len(h:Reads w v n vs):∃d c,v= .slice d n c:=by
 rcases h with⟨a,c,rfl,rfl,rfl⟩|⟨b,off,c,rfl,e⟩
 all_goals simp_all
theorem VM(s:P.underlying t=some (.slice e))(hi:P.info? e=some i)(x:i.zero=some z)(u:Reads w (.slice base n k) n vs)(r:vs.length=n*i.size)(l:Reads w v m B)(hn:B.length=m*i.size)(q:k<n+m)(d:(n+m)*i.bytes<=70368744177664)(o:n+m<=9223372036854775807):
 (Builtin.append_ #[t,t] ty #[.slice base n k,v]).run P w= .ok (.slice (some ⟨w.heap.size,0,none⟩) (n+m) (grownCap w (n+m) k e)) (w.drew.alloc (.cells ((vs++B).toArray++Builtin.zeroCells z.cells (grownCap w (n+m) k e-(n+m))) e)):=by
 obtain⟨y,c,rfl⟩:=l.len;have j:¬(n+m<=k):=ah
 have g:¬(9223372036854775807<((n:Int)+(m:Int))):=ah
 have f:¬(281474976710656<Builtin.nextslicecap (n+m) k*i.bytes):=by have:=growslice_fits (bytes:=i.bytes) q ah;omega
 have p:=Rq (P:=P) l.drew hn;have h:=Rq (P:=P) u.drew r;simp[Builtin.append_,run_underlying s,sizeOf,typeInfo,zeroValue,hi,x,Builtin.lenOf,j,g,f,Question.forced,p,h,newRow,grownCap];grind
theorem kK(q:P.underlying t=some (.slice e))(hi:P.info? e=some i)(f:w.heap[k]? =some (.cells arr E (0,0)))(g:Reads w v m vs)(hn:vs.length=m*i.size)(p:∀u∈vs,u.oneCell'=true)(l:n+m<=r)(j:n*i.size+vs.length<=arr.size):
 (Builtin.append_ #[t,t] ty #[.slice (some ⟨k,0,none⟩) n r,v]).run P w= .ok (.slice (some ⟨k,0,none⟩) (n+m) r) (w.setRow k (arr.toList.take (n*i.size)++vs++arr.toList.drop (n*i.size+vs.length)).toArray):=by
 obtain⟨d,c,rfl⟩:=g.len;have o:=Rq (P:=P) g hn;have h:=run_storeCells_at P k (n*i.size) E vs 0 arr w f ah p;simp only[Nat.add_zero]at h;simp[Builtin.append_,run_underlying q,sizeOf,typeInfo,hi,Builtin.lenOf,l,o,Addr.add_lit,h]
theorem plain_one(h:G4 v=true):v.oneCell'=true:=by cases v<;>simp_all [G4,Value.oneCell']
theorem TS(h:Fz w S (.sl b k rows) v):
 ∃ds:List (List DV),ds.map (·.map DV.er)=rows.map (·.map KN)/\(∀r∈ds,r.length=k)/\KT w S ds.flatten (λ_=>False)/\Reads w v ds.length (ds.flatten.map DV.A0)/\ds.length=rows.length:=by
 cases h with
 |nil b k a c hx=>exact⟨[],ak,ak,λ_ h=>h,.inl ⟨a,c,rfl,rfl,rfl⟩,rfl⟩
 |sl b k rows x off c vs hx SE hS hk hc hr=>
  obtain⟨ds,g,o⟩:=MU rows (λi row (f:jl)=>f.map DV.er=row.map KN/\f.length=k/\(∀d∈f,Ok w S d (λ_=>False))/\∀(j:Nat) d,f[j]? =some d->w.cell? ⟨x,off+(i*k+j),none⟩=some d.A0) (by
   intro i row hi;obtain⟨s,g,KW⟩:=MU row (λj a (d:DV)=>d.er=KN a/\Ok w S d (λ_=>False)/\w.cell? ⟨x,off+(i*k+j),none⟩=some d.A0) (by intro j a m;obtain⟨D,p,C,E,_⟩:=Y1 (δ:=λ_=>default) (hr i j row a hi m);grind);refine⟨s,?_,aS,?_,?_⟩
   . exact map_mk g KW _ _ ak λj a d e F=>am
   . intro d hd;obtain⟨j,m⟩:=AAs hd;obtain⟨a,_,e⟩:=mem_mk g KW j d m;grind
   . intro j d hd;obtain⟨a,_,e⟩:=mem_mk g KW j d hd;grind)
  have l:∀r∈ds,r.length=k:=by intro r q;obtain⟨i,hi⟩:=AAs q;obtain⟨c,_,e⟩:=mem_mk g o i r hi;exact e.2.1
  refine⟨ds,?_,l,CZ ?_,.inr ⟨x,off,c,by rw[g],?_⟩,g⟩
  . exact map_mk g o _ _ ak λi row s e B=>am
  . intro d hd;rw[List.mem_flatten]at hd;obtain⟨r,q,hd⟩:=hd;obtain⟨i,hi⟩:=AAs q;obtain⟨c,_,e⟩:=mem_mk g o i r hi;simp_all
  . intro n u t;rw[AAf,AA4]at t;obtain⟨d,hd,rfl⟩:=t;have z:n<ds.length*k:=(by rw[<- D6 l];exact(AAV.1 hd).1);have y:0<k:=(Nat.eq_zero_or_pos k).elim (λh=>am) id;have hi:n/k<ds.length:=Nat.div_lt_of_lt_mul aS;have m:n%k<(ds[n/k]).length:=(by rw[l _ (AAi hi)];exact Nat.mod_lt _ y);have p:=Lq l (AAZ hi) (AAZ m);rw[ABV,Nat.div_add_mod,hd]at p;obtain rfl:=AAW p;obtain⟨c,_,e⟩:=mem_mk g o _ _ (AAZ hi)
    have:=e.2.2.2 _ _ (AAZ m);rw[show n/k*k+n%k=n from by rw[ABV];exact Nat.div_add_mod n k]at this;exact this
theorem V2(h:rows.all (·.all IM)=true):rows.map (·.map KN)=rows:=by
 rw[AAY]at h
 conv=>rhs;rw[<- List.map_id rows]
 apply List.map_congr_left;intro r d;have b:=h r d;rw[AAY]at b
 conv=>rhs;rw[id,<- List.map_id r]
 apply List.map_congr_left;intro a c
 have:=b a c;cases a<;>simp_all [IM,KN]
theorem Tk(h:KT w S ds.flatten F)(a:(ds.map (·.map DV.er)).all (·.all GN)=true):∀d∈ds.flatten,G4 d.A0=true:=by
 intro d hd;obtain⟨e,b,_,_,_⟩:=Ki.1 h;obtain⟨n,hn⟩:=AAs hd;refine Li (b n d hn) ?_;rw[List.mem_flatten]at hd;obtain⟨r,c,hd⟩:=hd;rw[AAY]at a
 have:=a (r.map DV.er) (ABY c);simp_all
theorem Uy(h:rows.all (·.all IM)=true):rows.all (·.all GN)=true:=by
 rw[AAY]at h |-;intro r c
 have:=h r c;rw[AAY]at this |-;intro a b
 have:=this a b;cases a<;>simp_all [IM,GN]
theorem fM(h:Ok w S (.own v false k ds) F):Reads w v ds.length (ds.flatten.map DV.A0)/\(∀r∈ds,r.length=k)/\∃a,KT w S ds.flatten a/\∀x,a x->F x:=by
 rcases fL h with⟨rfl,_,rfl,e⟩|⟨b,c,arr,E,a,rfl,j,l,o,q,g,p,e,i⟩
 . exact⟨.inl ⟨none,0,rfl,rfl,rfl⟩,ak,λ_=>False,λ_ h=>h,λ_ h=>h.elim⟩
 . refine⟨.inr ⟨b,0,c,by simp[KW],?_⟩,l,a,g,λx m=>(e x).2 (.inr m)⟩;intro n u f;rw[AAf,AA4]at f;obtain⟨d,hd,rfl⟩:=f;simp[World.cell?,j,i n d hd]
theorem St.Yd(h:St G w S δ Fr)(hy:YO y)(a:Abs.Yd G k y (λs=>(δ s).er)=some (rows,τ)):
 ∃(S1:iu)(g:ji)(m:iy)(l:jd)(B:iu),St G w S1 g m/\(λs=>(g s).er)=τ/\(∀s,(g s).A0=(δ s).A0)/\l.map (·.map DV.er)=rows/\(∀r∈l,r.length=k)/\
  KT w S1 l.flatten B/\Reads w (DL δ y) l.length (l.flatten.map DV.A0)/\(∀d∈l.flatten,G4 d.A0=true)/\(∀s x,m s x->¬B x)/\Nx w S (BN Fr) w S1 (λx=>BN m x\/B x):=by
 cases y with
 |c c=>
  simp only[Abs.Yd]at a;split at a
  . rename_i kk;simp only[AAU,AAj]at a;obtain⟨rfl,rfl⟩:=a;exact⟨S,δ,Fr,[],λ_=>False,h,rfl,λ_=>rfl,rfl,ak,λ_ h=>h,.inl ⟨none,0,by simp[DL,I5],rfl,rfl⟩,ak,λ_ _ _ h=>h,Nx.less λx f=>f.elim id False.elim⟩
  . cases a
 |t s=>
  simp only[Abs.Yd]at a;cases hs:(δ s).er with
  |own b J K=>
   cases b with
   |true=>simp_all
   |false=>
    simp only[hs]at a;split at a
    . rename_i n;obtain⟨rfl,B2⟩:=n;simp only[AAU,AAj]at a;obtain⟨rfl,rfl⟩:=a;obtain⟨H,hd,Z⟩:=h.Za hs;have I:=h.ok s;rw[hd]at I;obtain⟨T,X,O,i,z⟩:=fM I;refine⟨S,_,_,H,O,h.empty s,by rw[JC h];simp,?_,Z,X,i,T,Tk i aS,?_,Nx.less ?_⟩
      . intro t;rw[Ih h];split
        . rename_i e;rw[e];simp
        . rfl
      . intro t x f D;by_cases e:t=s
        . subst e;rw[BW]at f;exact f
        . rw[Br _ _ e]at f;exact e (h.NK t s x f (z x D))
      . rintro x (⟨t,f⟩|f)
        . by_cases e:t=s
          . subst e;rw[BW]at f;grind
          . rw[Br _ _ e]at f;grind
        grind
    . cases a
  |sl U J K=>
   simp only[hs]at a;split at a
   . rename_i n;obtain⟨rfl,o⟩:=n;simp only[AAU,AAj]at a;obtain⟨rfl,rfl⟩:=a;obtain⟨ds,j,C,q,u,V⟩:=TS (h.leaf hs rfl).2.1;rw[V2 o]at j;exact⟨S,δ,Fr,ds,λ_=>False,h,rfl,λ_=>rfl,j,C,q,u,Tk q (by rw[j];exact Uy o),λ_ _ _ h=>h,Nx.less λx f=>f.elim id False.elim⟩
   . cases a
  |al r p=>
   simp only[hs]at a;split at a
   . rename_i U J K τ' R;split at a
     . rename_i n;obtain⟨rfl,o⟩:=n;simp only[AAU,AAj]at a;obtain⟨rfl,rfl⟩:=a;obtain⟨g,m,Fo,v,bx,kk,H,L,Q,M,z,D,W,Dd,N,_⟩:=h.SA R;obtain⟨_,_,P⟩:=h.leaf hs rfl;obtain⟨lI,k2,F,E⟩:=P;rw[z]at E;simp only[AAU,DV.own.injEq]at E;obtain⟨ds,j,C,q,u,V⟩:=TS D;rw[V2 o]at j;refine⟨_,g,m,ds,λ_=>False,L,Q,M,j,C,q,by rw[E.1]at u;exact u,Tk q (by rw[j];exact Uy o),λ_ _ _ h=>h,Nx.KI ?_ ?_⟩
       . grind
       . intro x f;obtain⟨t,ht⟩:=N x (.inr f);exact(h.ok t).lt x ht
     . cases a
   . cases a
  |_=>simp_all
theorem St.XH(h:St G w S δ Fr)(d:YO x)(a:Abs.XH G k x (λs=>(δ s).er)=some (out,τ)):
 (∃rows,out= .own false k rows/\∃(f:ji)(i:iy)(g:jd)(Ff:iu),St G w S f i/\(λs=>(f s).er)=τ/\(∀s,(f s).A0=(δ s).A0)/\g.map (·.map DV.er)=rows/\Ok w S (.own (DL δ x) false k g) Ff/\
  (∀s x,i s x->¬Ff x)/\(∀x,BN i x\/Ff x->BN Fr x))\/
 (∃rows,out= .sl true k rows/\τ=(λs=>(δ s).er)/\rows.all (·.all IM)=true/\Fz w S (.sl true k rows) (DL δ x)):=by
 cases x with
 |c c=>
  simp only[Abs.XH]at a;split at a
  . rename_i O;simp only[AAU,AAj]at a;obtain⟨rfl,rfl⟩:=a;exact .inl ⟨[],rfl,δ,Fr,[],λ_=>False,h,rfl,λ_=>rfl,rfl,by simpa[DL,I5]using Ok.nil k _ (λ_ h=>h),λ_ _ _ h=>h,λx d=>d.elim id False.elim⟩
  . cases a
 |t s=>
  simp only[Abs.XH]at a;cases hs:(δ s).er with
  |own b y rows=>
   cases b with
   |true=>simp_all
   |false=>
    simp only[hs]at a;split at a
    . rename_i j;subst j;simp only[AAU,AAj]at a;obtain⟨rfl,rfl⟩:=a;obtain⟨g,hd,m⟩:=h.Za hs;have q:=h.ok s;rw[hd]at q;refine .inl ⟨rows,rfl,_,_,g,Fr s,h.empty s,by rw[JC h];simp,?_,m,by simpa[DL]using q,?_,?_⟩
      . intro t;rw[Ih h];split
        . rename_i e;rw[e];simp
        . rfl
      . intro t x d M;by_cases e:t=s
        . subst e;rw[BW]at d;exact d
        . rw[Br _ _ e]at d;exact e (h.NK t s x d M)
      . rintro x (⟨t,d⟩|d)
        . by_cases e:t=s
          . subst e;rw[BW]at d;grind
          . rw[Br _ _ e]at d;grind
        grind
    . cases a
  |sl ee y rows=>
   cases ee with
   |false=>simp_all
   |true=>
    simp only[hs]at a;split at a
    . rename_i I;obtain⟨rfl,K⟩:=I;simp only[AAU,AAj]at a;obtain⟨rfl,rfl⟩:=a;exact .inr ⟨rows,rfl,rfl,K,(h.leaf hs rfl).2.1⟩
    . cases a
  |al r p=>
   simp only[hs]at a;split at a
   . rename_i y rows P N;split at a
     . rename_i j;subst j;simp only[AAU,AAj]at a;obtain⟨rfl,rfl⟩:=a;obtain⟨f,i,D,Ff,B,J,E,L,u,⟨v,bx,O,g,rfl⟩,z,C,F,_,_⟩:=h.dN N;simp only[FO,AV.own.injEq]at u;obtain⟨rfl,rfl,m⟩:=u;obtain⟨_,_,H⟩:=h.leaf hs rfl;obtain⟨R,Q,o,l⟩:=H;rw[z]at l;simp only[AAU,DV.own.injEq]at l;exact .inl ⟨rows,rfl,f,i,g,Ff,B,J,E,m,by rw[show DL δ (.t s)=v from l.1.symm];exact L,C,F⟩
     . cases a
   . cases a
  |_=>simp_all
end
variable{C:ji}
section
variable{w w':ja}{S S':iu}{G:Gi}{δ:ji}{Fr:iy}{P:iz}
theorem aF{U1:iu}{p:iy}{d:D3}{rows:jd}{Fd:iu}(h:St G w F C p)(v:∀b,F b->b<w.heap.size)(z:Rd C a)(hd:I9 G a o (some d))(g:(execOp a.eval o).run P w= .ok (.value (.slice (some ⟨w.heap.size,0,none⟩) rows.length n)) w')(f:w'.heap=w.heap.push (.cells arr E))(r:w'.os=w.os)(u:w'.tape=w.tape)(t:w'.output=w.output)(m:KT w F rows.flatten Fd)(J:∀s x,p s x->¬Fd x)(B:∀row∈rows,row.length=k)(K:n*k=arr.size/\rows.length<=n)(H:∀(c:Nat) d,rows.flatten[c]? =some d->arr[c]? =some d.A0)(M:wr d (.own false k (rows.map (·.map DV.er))) (λs=>(C s).er)=some σ')(L:∀x,BN p x\/Fd x->U1 x)(j:Nx w S (BN Fr) w F U1):Ry P G w S Fr a o σ':=by
 have y:=(CN.2 m).lt;have q:=(CN.2 m).FQ;have hold:∀b,b<w.heap.size->w'.heap[b]? =w.heap[b]? :=λb e=>aS
 have i:w'.heap[w.heap.size]? =some (.cells arr E (0,0)):=by rw[f];simp
 have I:Ok w' F (.own (KW false w.heap.size rows.length n) false k rows) (λx=>x=w.heap.size\/Fd x):=by refine uM i B am (λS1=>aS) ?_ (λS1=>aS) H;exact m.mono (λb e=>hold b (v b e)) (λb e=>hold b (y b e)) (λ_ h=>h) q
 refine K8 (D:=.own (KW false w.heap.size rows.length n) false k rows) h z hd (by simpa[KW]using g) (λb e=>hold b (v b e)) (λs x l=>hold x ((h.ok s).lt x l)) (λ_ h=>h) (λs x l=>(h.ok s).FQ x l) I ?_ (.own _ _ _ _) am ?_
 . rintro s x l (rfl|hf)
   . have:=(h.ok s).lt _ l;omega
   grind
 . refine j.trans ⟨r,u,t,am,λb e _=>hold b e,λ_ h=>h,λ_ h=>.inl h,λN b e=>aS,?_⟩;grind
theorem VN(f:P.underlying t=some (.slice e))(hi:P.info? e=some i){c:Nat}(a:n<=c)(b:Reads w v 0 []):
 (Builtin.append_ #[t,t] ty #[.slice base n c,v]).run P w= .ok (.slice base n c) w:=by
 obtain⟨g,c',rfl⟩:=b.len;have d:=Rq (P:=P) (size:=i.size) b ak;cases base<;>simp[Builtin.append_,run_underlying f,sizeOf,typeInfo,hi,Builtin.lenOf,d,a,storeCells]
theorem Y4(e:z.cells.size=k)(c:vs.length=n*k)(d:B.length=m*k)(f:n+m<=r):r*k=((vs++B).toArray++Builtin.zeroCells z.cells (r-(n+m))).size:=by simp only[Array.size_append,List.size_toArray,AA8,size_zeroCells,c,d,e,<- Nat.add_mul];simp_all
theorem fz_weak(h:Fz w S (.sl b k rows) v):Fz w S (.sl false k rows) v:=by
 cases h with
 |nil _ _ a c _=>exact .nil _ _ _ _ (λh=>nomatch h)
 |sl _ _ _ x off c vs _ SE hS hk hc hr=>exact .sl _ _ _ _ _ _ _ (λh=>nomatch h) SE hS hk hc hr
theorem runs_app(h:St G w S δ Fr)(DA:∀b,S b->b<w.heap.size)(ha:Rd δ a){c:Call}{d:D3}(hd:I9 G a o (some d))(ho:o.op= .call c)(Ls:c.callee= .builtin .append)(F9:c.args= #[u,N])(hty:c.argTypes= #[t,t])(hu:P.underlying t=some (.slice e))(hi:P.info? e=some i)(Pt:i.size=k)(hby:i.bytes=r)(hb0:0<r)(hz:i.zero=some z)(hzk:z.cells.size=k)(hc:Cc u x=true)(Ny:Cc N y=true)(B:G8 G (.app k r x y) (some d) (λs=>(δ s).er)=some σ'):Ry P G w S Fr a o σ':=by
 obtain⟨g,NP⟩:=Aq hc ha;obtain⟨hy,hev2⟩:=Aq Ny ha;subst Pt;subst hby;have Wg:∀bytes w',(Builtin.append_ #[t,t] o.type #[DL δ x,DL δ y]).run P w= .ok bytes w'->(execOp a.eval o).run P w= .ok (.value bytes) w':=by intro bytes w' hr;simp only[execOp,ho,resolve,Ls,F9,hty,invoke,builtin,Sem.run_bind,Sem.run_pure,Result.andThen_ok,List.map_toArray,AAm,AA2,NP,hev2,hr]
 simp only[G8]at B;split at B
 . rename_i ys τ hY;obtain⟨S1,δ1,F1,j,Z,FZ,ZA,Kr,L,hyk,hyok,V,hypl,U,J⟩:=h.Yd hy hY;subst ZA;have O:=J.lt DA;have hav:DL δ1 x=DL δ x:=(by cases x<;>simp[DL,Kr]);have H:j.length=ys.length:=(by rw[<- L];simp);split at B
   . -- a node
     rename_i b' k' rows τ' hX;split at B
     . rename_i Qe;rcases FZ.XH g hX with⟨MB,hn,δ2,F2,f,Ff,LA,TY,Nb,hrm,Cq,OZ,LG⟩|⟨_,hn,_⟩
       . simp only[AV.own.injEq]at hn;obtain⟨rfl,rfl,rfl⟩:=hn;subst TY;have lJ:f.length=rows.length:=(by rw[<- hrm];simp);have ha2:Rd δ2 a:=λs=>(ha s).trans ((Nb s).trans (Kr s)).symm;simp only[Am,AAl]at Qe;rw[<- lJ,<- H]at Qe;have h63:f.length+j.length<=9223372036854775807:=(by have:=Nat.le_mul_of_pos_right (f.length+j.length) hb0;omega);rw[hav]at Cq;obtain⟨hxr,hxk,Fc',hxok',MX⟩:=fM Cq;have T:(f.flatten.map DV.A0).length=f.length*i.size:=(by rw[AA6,D6 hxk]);have F:(j.flatten.map DV.A0).length=j.length*i.size:=(by rw[AA6,D6 hyk]);have hdy:∀x,BN F2 x\/Ff x->¬Z x:=(by intro x g hfy;obtain⟨s,hs⟩:=LG x g;exact U s x hs hfy);have xA:(f++j).map (·.map DV.er)=rows++ys:=(by rw[AA5,hrm,L]);have hkk:∀bytes∈f++j,bytes.length=i.size:=by
          intro bytes hr;rcases AAo.1 hr with l|l
          . exact hxk bytes l
          . exact hyk bytes l
         have hU:Nx w S (BN Fr) w S1 (λx=>BN F1 x\/Z x):=J;have Hy:∀X,(∀x,X x->Ff x)->KT w S1 f.flatten X->KT w S1 (f++j).flatten (λx=>X x\/Z x):=(by intro X CU R;rw[List.flatten_append];exact Mn R hyok (λx g=>hdy x (.inr (CU x g))));have grow:∀(base:ABu Addr)(n QJ:Nat),DL δ x= .slice base n QJ->n=f.length->QJ<f.length+j.length->Ry P G w S Fr a o σ':=by
          intro base n QJ K hn W;subst hn;rw[K]at hxr;have v:=VM (P:=P) (ty:=o.type) hu hi hz hxr T V F W Qe h63;have qK:=grownCap_ge w (f.length+j.length) QJ e;obtain⟨W1,m⟩:∃W1,W1=w.drew.alloc (.cells ((f.flatten.map DV.A0++j.flatten.map DV.A0).toArray++Builtin.zeroCells z.cells (grownCap w (f.length+j.length) QJ e-(f.length+j.length))) e):=⟨_,rfl⟩;rw[<- m]at v;refine aF (w':=W1) (Fr:=Fr) (U1:=λx=>BN F1 x\/Z x) (rows:=f++j) (Fd:=λx=>Fc' x\/Z x) (arr:=(f.flatten.map DV.A0++j.flatten.map DV.A0).toArray++Builtin.zeroCells z.cells (grownCap w (f.length+j.length) QJ e-(f.length+j.length))) (E:=e) LA O ha2 hd
           (by rw[AA8];exact Wg _ _ (by rw[K];exact v)) (by rw[m];rfl) (by rw[m];rfl) (by rw[m];rfl) (by rw[m];rfl) (Hy Fc' MX hxok') ?_ hkk ⟨Y4 hzk T F qK,by simpa using qK⟩ ?_ (by rw[xA];exact B) ?_ hU
          . rintro s x g (l|l)
            . exact OZ s x g (MX x l)
            . exact hdy x (.inl ⟨s,g⟩) l
          . intro n d hn;rw[List.flatten_append]at hn;have W:n<(f.flatten++j.flatten).length:=(AAV.1 hn).1;rw[Array.getElem?_append_left (by rw[List.size_toArray,AA8,AA6,AA6,<- AA8];exact W),List.getElem?_toArray,<- AA5,AAf,hn];rfl
          . rintro x (g|l|l)
            . exact .inl (LG x (.inl g))
            . exact .inl (LG x (.inr (MX x l)))
            . exact .inr l
         rcases fL Cq with⟨K,_,hr0,hF0⟩|⟨b,cc,arr,E,X,K,hb,hk,Ee,hS,R,LR,hF,SD⟩
         . subst hr0;by_cases hm:j.length=0
           . have hy0:j=[]:=List.eq_nil_of_length_eq_zero hm;subst hy0;have v:=VN (P:=P) (w:=w) (ty:=o.type) hu hi (base:=none) (n:=0) (c:=0) (AAv 0) (by simpa using V);have hys:ys=[]:=(by rw[<- L];rfl);have hrs:rows=[]:=(by rw[<- hrm];rfl);subst hys;subst hrs;refine K8 (D:=.own (.slice none 0 0) false i.size []) (Ff:=λ_=>False) LA ha2 hd (by simpa using Wg _ _ (by rw[K];exact v)) (λ_ _=>rfl) (λ_ _ _=>rfl) (λ_ h=>h) (λs x g=>(LA.ok s).FQ x g) (.nil _ _ (λ_ h=>h)) (λ_ _ _ h=>h) (.own _ _ _ _) (by simpa using B) ?_;exact hU.trans (Nx.less λx g=>.inl (LG x (.inl (g.elim id False.elim))))
           . exact grow none 0 0 K rfl ah
         . by_cases Q:f.length+j.length<=cc
           . -- room
             simp only[AAd,AAk]at Ee;have hsz2:f.length*i.size+(j.flatten.map DV.A0).length<=arr.size:=(by rw[F,<- Ee.1,<- Nat.add_mul];exact ABC _ Q);have v:=kK (P:=P) (ty:=o.type) hu hi hb V F (by intro q hq;obtain⟨dd,ON,rfl⟩:=ABh.1 hq;exact plain_one (hypl dd ON)) Q hsz2;generalize C:w.setRow b (arr.toList.take (f.length*i.size)++j.flatten.map DV.A0++arr.toList.drop (f.length*i.size+(j.flatten.map DV.A0).length)).toArray=w1 at v;have hheapb:w1.heap[b]? =some (.cells (arr.toList.take (f.length*i.size)++j.flatten.map DV.A0++arr.toList.drop (f.length*i.size+(j.flatten.map DV.A0).length)).toArray E (0,0)):=(by rw[<- C];exact setRow_heap w b arr _ E _ hb);have XQ:∀x,x≠b->w1.heap[x]? =w.heap[x]? :=λx g=>(by rw[<- C];exact setRow_other w b x _ g);have p:Ff b:=(hF b).2 (.inl rfl);have hFc:∀x,X x->Ff x:=λx g=>(hF x).2 (.inr g);have hnb:∀x,X x\/Z x->x≠b:=by
              rintro x (l|l) rfl
              . exact LR l
              . exact hdy x (.inr p) l
             have I:=Hy X hFc R;have nR:Ok w1 S1 (.own (KW false b (f++j).length cc) false i.size (f++j)) (λx=>x=b\/(X x\/Z x)):=by
              refine uM hheapb hkk ?_ hS (I.mono (λx g=>XQ x (by rintro rfl;exact hS g)) (λx g=>XQ x (hnb x g)) (λ_ h=>h) (CN.2 I).FQ) (λg=>hnb b g rfl) ?_
              . simp only[AAd,AAk,List.size_toArray,AA8,List.length_take,List.length_drop,Array.length_toList];refine⟨?_,by simpa using Q⟩;rw[Ee.1];omega
              . intro n d hn;rw[List.flatten_append]at hn;have hxl':f.flatten.length=f.length*i.size:=D6 hxk;rw[List.getElem?_toArray];have W:n<(f.flatten++j.flatten).length:=(AAV.1 hn).1;have htl:(arr.toList.take (f.length*i.size)).length=f.flatten.length:=(by have e0:arr.toList.length=arr.size:=Array.length_toList;rw[hxl',List.length_take];exact Nat.min_eq_left (by omega));rw[AA0 (by rw[AA8,htl,AA6];simpa using W)];by_cases Er:n<f.flatten.length
                . rw[AA0 ah]at hn |-;rw[ABe,AAb ah]
                  have:=SD n d hn;simpa using this
                . rw[AAx ah]at hn |-;rw[htl,AAf,hn];rfl
             refine K8 (D:=.own (KW false b (f++j).length cc) false i.size (f++j)) (S1:=S1) (S':=S1) LA ha2 hd (by simpa[KW]using Wg _ _ (by rw[K];simpa[KW]using v)) (λx g=>XQ x (by rintro rfl;exact hS g))
              (λs x g=>XQ x (by rintro rfl;exact OZ s x g p)) (λ_ h=>h) (λs x g=>(LA.ok s).FQ x g) nR ?_ (.own _ _ _ _) (by rw[FO,xA];exact B) ?_
             . rintro s x g (rfl|l|l)
               . exact OZ s x g p
               . exact OZ s x g (hFc x l)
               . exact hdy x (.inl ⟨s,g⟩) l
             . refine hU.trans ⟨by rw[<- C];rfl,by rw[<- C];rfl,by rw[<- C];rfl,by rw[<- C];simp[World.setRow],?_,λ_ h=>h,λ_ h=>.inl h,λhl q hq=>by have:=hl q hq;rw[<- C];simpa[World.setRow]using this,?_⟩
               . intro x _ hUx;refine XQ x ?_;rintro rfl;exact hUx (.inl (LG x (.inr p)))
               . rintro x (g|rfl|l|l)
                 . exact .inl (.inl (LG x (.inl g)))
                 . exact .inl (.inl (LG x (.inr p)))
                 . exact .inl (.inl (LG x (.inr (hFc x l))))
                 . exact .inl (.inr l)
           . exact grow _ _ cc (by rw[K];rfl) rfl ah
       . cases hn
     . cases B
   . -- a frozen slice without room
     rename_i e0 k0 rows τ' hX;rcases FZ.XH g hX with⟨_,hn,_⟩|⟨MB,hn,hτ,Vr,Ou⟩
     . cases hn
     . simp only[AV.sl.injEq]at hn;obtain⟨rfl,rfl,rfl⟩:=hn;subst hτ;rw[hav]at Ou;have TV:Rd δ1 a:=λs=>(ha s).trans (Kr s).symm;obtain⟨ad,cap,K⟩:=Qa Ou;have hcapeq:cap=rows.length:=by
        rw[K]at Ou;cases Ou with
        |nil _ _ _ _ g=>exact g rfl
        |sl _ _ _ _ _ _ _ g=>exact g rfl
       subst hcapeq;split at B
       . -- nothing to append
         rename_i hem;obtain rfl:=List.isEmpty_iff.1 hem;have hy0:j=[]:=List.eq_nil_of_length_eq_zero (by rw[H];rfl);subst hy0;have v:=VN (P:=P) (w:=w) (ty:=o.type) hu hi (base:=ad) (n:=rows.length) (c:=rows.length) (AAv _) (by simpa using V);refine K8 (D:=.lf (.sl false i.size rows) (.slice ad rows.length rows.length)) (Ff:=λ_=>False) (S1:=S1) (S':=S1) FZ TV hd (by simpa using Wg _ _ (by rw[K];exact v)) (λ_ _=>rfl) (λ_ _ _=>rfl) (λ_ h=>h) (λs x g=>(FZ.ok s).FQ x g) (.lf _ _ _ (by rw[<- K];exact fz_weak Ou) (λ_ h=>h)) (λ_ _ _ h=>h) (.lf _ _ trivial) (by rw[Eb];exact B) ?_;exact J.trans (Nx.less λx g=>.inl (g.elim id False.elim))
       . rename_i Me;obtain⟨y0,M,rfl⟩:∃y0 M,ys=y0::M:=by
          cases ys with
          |nil=>exact absurd rfl Me
          |cons y0 M=>exact⟨y0,M,rfl⟩
         split at B
         . rename_i Qe;simp only[Am,AAl]at Qe;obtain⟨f,l,h2,h3,h4,h5⟩:=TS Ou;rw[V2 Vr]at l;have hyl1:j.length=(y0::M).length:=H;rw[<- h5,<- hyl1]at Qe;have h63:f.length+j.length<=9223372036854775807:=(by have:=Nat.le_mul_of_pos_right (f.length+j.length) hb0;omega);have T:(f.flatten.map DV.A0).length=f.length*i.size:=(by rw[AA6,D6 h2]);have F:(j.flatten.map DV.A0).length=j.length*i.size:=(by rw[AA6,D6 hyk]);rw[K,<- h5]at h4;have W:f.length<f.length+j.length:=(by rw[hyl1];simp);have v:=VM (P:=P) (ty:=o.type) hu hi hz h4 T V F W Qe h63;have qK:=grownCap_ge w (f.length+j.length) f.length e;obtain⟨W1,m⟩:∃W1,W1=w.drew.alloc (.cells ((f.flatten.map DV.A0++j.flatten.map DV.A0).toArray++Builtin.zeroCells z.cells (grownCap w (f.length+j.length) f.length e-(f.length+j.length))) e):=⟨_,rfl⟩;rw[<- m]at v;have xA:(f++j).map (·.map DV.er)=rows++y0::M:=(by rw[AA5,l,L]);refine aF (w':=W1) (Fr:=Fr) (U1:=λx=>BN F1 x\/Z x) (rows:=f++j) (Fd:=λx=>False\/Z x) (arr:=(f.flatten.map DV.A0++j.flatten.map DV.A0).toArray++Builtin.zeroCells z.cells (grownCap w (f.length+j.length) f.length e-(f.length+j.length))) (E:=e) FZ O TV hd
            (by rw[AA8];exact Wg _ _ (by rw[K,<- h5];exact v)) (by rw[m];rfl) (by rw[m];rfl) (by rw[m];rfl) (by rw[m];rfl) (by rw[List.flatten_append];exact Mn h3 hyok (λ_ h=>h.elim)) ?_ ?_ ⟨Y4 hzk T F qK,by simpa using qK⟩ ?_ (by rw[xA];exact B) ?_ J
           . rintro s x g (l|l)
             . exact l
             . exact U s x g l
           . intro bytes hr;rcases AAo.1 hr with l|l
             . exact h2 bytes l
             . exact hyk bytes l
           . intro n d hn;rw[List.flatten_append]at hn;have W:n<(f.flatten++j.flatten).length:=(AAV.1 hn).1;rw[Array.getElem?_append_left (by rw[List.size_toArray,AA8,AA6,AA6,<- AA8];exact W),List.getElem?_toArray,<- AA5,AAf,hn];rfl
           . rintro x (g|l|l)
             . exact .inl g
             . exact l.elim
             . exact .inr l
         . cases B
   . cases B
 . cases B
end
variable{dst:ABu D3}
section
variable{w w':ja}{S S':iu}{G:Gi}{δ:ji}{Fr:iy}{P:iz}
def placeOf(P:iz)(t:jo):Nat->ABu (Nat×Nat):=λi=>match P.underlying t with
 |some (.struct fs)=>match fs[i]? with
  |some f=>match HI P f.type with
   |some n=>some (f.offset,n)
   |none=>none
  |none=>none
 |some (.array _ e)=>match HI P e with
  |some k=>some (i*k,k)
  |none=>none
 |_=>none
def kR(P:iz)(t:jo):Bool:=match P.underlying t with
 |some (.struct fs)=>fs.toList.all λf=>(HI P f.type).isSome
 |some (.array _ e)=>(HI P e).isSome
 |_=>false
def kG(zc:jt)(n:Nat):List Value:=((Array.range n).map (zc[· %zc.size]!)).toList
def KU(P:iz):Op->bH->Bool
 | .move x,.cp y=>Cc x y
 | .assign x,.mv y=>Cc x y
 | .assign x,.cp y=>Cc x y
 | .pick c a b,.pick c' a' b'=>Cc c c'&&Cc a a'&&Cc b b'
 | .alloc t,.bx n (.c z)=>HI P t==some n&&(match(P.info? t).bind (·.zero),I5 z with|some v,some D=>xS v D.A0|_,_=>false)
 | .box t x,.bx n y=>HI P t==some n&&Cc x y
 | .build t parts,.TK z ps=>(match(P.info? t).bind (·.zero),Yv z with
  |some v,some zd=>VR v.cells.toList (zd.map DV.A0)&&z.all GN&&kR P t&&Mr (placeOf P t) parts.toList ps
  |_,_=>false)
 | .buildSlice t len parts,.OR k z ps=>(match P.underlying t with
  |some (.slice e)=>HI P e==some k&&decide (len*k<=16777216)&&(match(P.info? e).bind (·.zero),zR z with
   |some v,some zd=>VR (kG (if len*k=0 then #[]else v.cells) (len*k)) (zd.flatten.map DV.A0)&&z.length==len&&z.all (·.length==k)&&O4 k parts.toList ps
   |_,_=>false)
  |_=>false)
 | .load t a,.ld g n b=>HI P t==some n&&KL P t==some g&&(g||n==1)&&Cc a b
 | .store t a x,.st n b y=>HI P t==some n&&Cc a b&&Cc x y
 | .fieldAddr t x f,.Wc off y=>(match P.underlying t with
  |some (.struct fs)=>match fs[f]? with
   |some fd=>fd.offset==off&&(match HI P fd.type with|some n=>n != 0|none=>false)
   |none=>false
  |_=>false)&&Cc x y
 | .indexAddr t x i,.ZG k y j=>(match P.underlying t with|some (.slice e)=>HI P e==some k|_=>false)&&Cc x y&&Cc i j
 | .indexAddr t x i,.aad len k y j=>(match P.underlying t with|some (.array n e)=>n==len&&HI P e==some k|_=>false)&&Cc x y&&Cc i j
 | .makeSlice t x y,.mk k bytes z x' y'=>(match P.underlying t with
  |some (.slice e)=>match P.info? e with
   |some i=>i.size==k&&i.bytes==bytes&&decide (0<bytes)&&decide (0<k)&&z.length==k&&(match i.zero,Yv z with|some v,some zd=>VR v.cells.toList (zd.map DV.A0)|_,_=>false)
   |none=>false
  |_=>false)&&Cc x x'&&Cc y y'
 | .field t x f,.fld agg off n y=>(match P.underlying t with
  |some (.struct fs)=>match fs[f]? with
   |some fd=>fd.offset==off&&HI P fd.type==some n&&KL P fd.type==some agg&&(agg||n==1)
   |none=>false
  |_=>false)&&Cc x y
 | .index t x i,.idx agg len k y j=>(match P.underlying t with|some (.array n e)=>n==len&&HI P e==some k&&KL P e==some agg&&(agg||k==1)|_=>false)&&Cc x y&&Cc i j
 | .index t x i,.pX y j=>(match P.underlying t with|some .string=>true|_=>false)&&Cc x y&&Cc i j
 | .binOp op _ x y _,.bin op' x' y'=>decide (op=op')&&Cc x x'&&Cc y y'
 | .binOp op t x y _,.beq neg x' y'=>decide (op=if neg=true then .neq else .eql)&&(match P.underlying t with|some .bool=>true|_=>false)&&Cc x x'&&Cc y y'
 | .binOp op t x y _,.pW neg kd x' y'=>decide (op=if neg=true then .neq else .eql)&&sL P t kd&&Cc x x'&&Cc y y'
 | .load t a,.ZX b=>HI P t==some 1&&KL P t==some false&&Cc a b
 | .store t a x,.YM b y=>HI P t==some 1&&Cc a b&&Cc x y
 | .nilCheck x,.I6 y=>Cc x y
 | .makeFunc (.func f) first bY,.mkf f' ys=>f==f'&&first.isEmpty&&Gk bY.toList ys
 | .unOp op _ x,.un op' y=>decide (op=op')&&Cc x y
 | .convert s d x,.cvt k y=>(match P.underlying s,P.underlying d with|some (.int _),some (.int k')=>decide (k=k')|_,_=>false)&&Cc x y
 | .call c,.len y=>(match c.callee,c.args.toList,c.argTypes.toList with
  | .builtin .len,[x],[t]=>(match P.underlying t with|some (.slice _)=>true|_=>false)&&Cc x y
  |_,_,_=>false)
 | .call c,.dM y=>(match c.callee,c.args.toList,c.argTypes.toList with
  | .builtin .len,[x],[t]=>(match P.underlying t with|some .string=>true|_=>false)&&Cc x y
  |_,_,_=>false)
 | .call c,.mm mx x y=>(match c.callee,c.args.toList with
  | .builtin b,[u,v]=>(match b,mx with| .max,true=>true| .min,false=>true|_,_=>false)&&Cc u x&&Cc v y
  |_,_=>false)
 | .call c,.app k bytes x y=>(match c.callee,c.args.toList,c.argTypes.toList with
  | .builtin .append,[u,v],[t,t']=>t==t'&&(match P.underlying t with
   |some (.slice e)=>match P.info? e with
    |some i=>i.size==k&&i.bytes==bytes&&decide (0<bytes)&&(match i.zero with|some z=>z.cells.size==k|none=>false)
    |none=>false
   |_=>false)&&Cc u x&&Cc v y
  |_,_,_=>false)
 | .slice t x lo hi mx,.slc k fr y lo' hi' oL=>(match P.underlying t with|some (.slice e)=>HI P e==some k|_=>false)&&(mx.isNone||hi.isSome)&&Cc x y&&UC lo lo'&&UC hi hi'&&UC mx oL
 | .extract x i,.ext y j=>decide (i=j)&&Cc x y
 |_,.bad=>true
 |_,_=>false
theorem arr2{b:Type}{a:Array b}{x y:b}(h:a.toList=[x,y]):a= #[x,y]:=by apply ABr;simpa using h
theorem run_mapM{c d:Type}(l:List c)(f:c->Sem d)(g:c->d)(h:∀a∈l,(f a).run P w= .ok (g a) w):(l.mapM f).run P w= .ok (l.map g) w:=by
 induction l with
 |nil=>simp
 |cons a l ih=>have e:=h a ak;have i:=ih (λb j=>h b (by simp[j]));simp[List.mapM_cons,e,i]
theorem run_build{b:Array (Nat×Value)}(hi:P.info? t=some i)(p:i.zero=some v)(c:kR P t=true)(a:jt)(l:Instr.fill (placeOf P t) v.cells b.toList=some a):
 (Instr.build t b).run P w= .ok (.agg a) w:=by
 unfold kR at c;split at c
 . rename_i g h;have q:(g.mapM (m:=Sem) λ(f:Field)=>Prod.mk f.offset <$> sizeOf f.type).run P w= .ok (g.map λf=>(f.offset,(HI P f.type).getD 0)) w:=by
    rw[Array.mapM_eq_mapM_toList]
    have:=run_mapM (P:=P) (w:=w) g.toList (λ(f:Field)=>(Prod.mk f.offset <$> sizeOf f.type:Sem (Nat×Nat))) (λf=>(f.offset,(HI P f.type).getD 0)) (by
     intro f d;rw[AAY]at c
     have:=c f d;obtain⟨n,hn⟩:=Option.isSome_iff_exists.1 this;simp[run_sizeOf hn,hn])
    simp only[Sem.run_map,this,Result.andThen_ok];congr 1;apply ABr;simp
   have j:(λi=>Option.map (λ(f:Field)=>(f.offset,(HI P f.type).getD 0)) g[i]?)=placeOf P t:=by
    funext i;simp only[placeOf,h];cases d:g[i]? with
    |none=>rfl
    |some f=>
     rw[AAY]at c
     have:=c f (by rw[Array.mem_toList_iff];exact Array.mem_of_getElem? d);obtain⟨n,hn⟩:=Option.isSome_iff_exists.1 this;simp[hn]
   simp only[Instr.build,zeroValue,typeInfo,Sem.run_bind,run_underlying h];simp[program,Sem.run,hi,p,q];rw[j,l];simp
 . rename_i n e h;obtain⟨k,o⟩:=Option.isSome_iff_exists.1 c;have j:(λi=>some (i*k,k))=placeOf P t:=(by funext i;simp[placeOf,h,o]);simp only[Instr.build,zeroValue,typeInfo,Sem.run_bind,run_underlying h];simp[program,Sem.run,hi,p,run_sizeOf o];rw[j,l];simp
 . cases c
theorem aD{b:Array (Nat×Value)}(h:P.underlying t=some (.slice e))(g:HI P e=some k)(j:n*k<=16777216)(hi:P.info? e=some i)(l:i.zero=some v)(a:jt)(c:Instr.fill (λi=>some (i*k,k)) (kG (if n*k=0 then #[]else v.cells) (n*k)).toArray b.toList=some a):
 (Instr.buildSlice t n b).run P w= .ok (.slice (some ⟨w.heap.size,0,none⟩) n n) (w.alloc (.cells a e)):=by
 have f:¬(16777216<n*k):=ah
 simp only[kG,Array.toArray_toList]at c;by_cases d:n*k=0
 . simp only[d,AAy]at c;simp[Instr.buildSlice,run_underlying h,run_sizeOf g,d];simp at c;rw[c];simp[newRow]
 . simp only[d,AAk]at c;simp[Instr.buildSlice,run_underlying h,run_sizeOf g,d,f,zeroValue,typeInfo,hi,l];rw[c];simp[newRow]
theorem V1{c:Type}[BEq c][LawfulBEq c]{a:ABu c}{b:c}(h:(a==some b)=true):a=some b:=by simpa using h
theorem op_sound(h:St G w S δ Fr)(W:∀b,S b->b<w.heap.size)(E:Rd δ a){io:bH}(hd:I9 G a o dst)(l:KU P o.op io=true)(H:G8 G io dst (λs=>(δ s).er)=some σ'):Ry P G w S Fr a o σ':=by
 have val:∀{v:AV},(∀{dst},G8 G io (some dst) (λs=>(δ s).er)=(match valOf io (λs=>(δ s).er)with|some v=>wr dst v (λs=>(δ s).er)|none=>none))->(G8 G io none (λs=>(δ s).er)=none)->
  (∀v,valOf io (λs=>(δ s).er)=some v->Gives P w S δ a o v)->Ry P G w S Fr a o σ':=by
  intro _ m C F;cases dst with
  |none=>rw[C]at H;cases H
  |some dst=>
   rw[m]at H;split at H
   . rename_i v B;exact dI h E hd (F v B) H
   . cases H
 have O:∀{io:bH},(G8 G io none (λs=>(δ s).er)=none)->G8 G io dst (λs=>(δ s).er)=some σ'->∃M,dst=some M:=by
  intro io m C;cases dst with
  |none=>rw[m]at C;cases C
  |some dst=>exact⟨dst,rfl⟩
 unfold KU at l;split at l
 . rename_i x y p;exact val (v:=.dead) rfl rfl λv B=>UP h E (.inl p) l B
 . rename_i x y p;obtain⟨M,rfl⟩:=O rfl H;exact runs_mv h E hd p l H
 . rename_i x y p;exact val (v:=.dead) rfl rfl λv B=>UP h E (.inr p) l B
 . rename_i c x y c' Z y' p;simp only[AAT]at l;exact val (v:=.dead) rfl rfl λv B=>sZ h E p l.1.1 l.1.2 l.2 B
 . rename_i t n z p;simp only[AAT]at l;obtain⟨m,C⟩:=l;split at C
   . rename_i v D B hD;obtain⟨i,hi,N⟩:=Option.bind_eq_some_iff.1 B;obtain⟨M,rfl⟩:=O rfl H;refine xO (t:=t) (y:=.c z) h W E hd ⟨D,hD⟩ ?_ H
     have:=run_alloc (P:=P) t i v hi N w;simp only[execOp,p,Sem.run_bind,this,Result.andThen_ok,Sem.run_pure,DL,hD,pO C]
   . cases C
 . rename_i t x n y p;simp only[AAT]at l;obtain⟨hy,NP⟩:=Aq l.2 E;obtain⟨M,rfl⟩:=O rfl H;refine xO (t:=t) h W E hd hy ?_ H;simp only[execOp,p,Sem.run_bind,xN,Result.andThen_ok,Sem.run_pure,NP]
 . rename_i t V z ps p;split at l
   . rename_i v zd B N;simp only[AAT]at l;obtain⟨⟨⟨m,C⟩,F⟩,Q⟩:=l;obtain⟨i,hi,U⟩:=Option.bind_eq_some_iff.1 B;obtain⟨M,rfl⟩:=O rfl H;refine runs_bld h E hd p N C Q (λJ T=> ?_) H;refine run_build hi U F J ?_
     have:=RE m;have e:v.cells=(zd.map DV.A0).toArray:=(by apply ABr;simpa using this);rw[e];simpa using T
   . cases l
 . rename_i t len V k z ps p;split at l
   . rename_i e I;simp only[AAT,AAl]at l;obtain⟨⟨m,C⟩,F⟩:=l;split at F
     . rename_i v zd B N;simp only[AAT,AAh]at F;obtain⟨⟨⟨L,g2⟩,K⟩,R⟩:=F;obtain⟨i,hi,U⟩:=Option.bind_eq_some_iff.1 B;obtain⟨M,rfl⟩:=O rfl H;refine runs_bsl (e:=e) h W E hd p N (λr hr=>by rw[AAY]at K;simpa using K r hr) g2 R (λJ T=> ?_) H;refine aD I (V1 m) C hi U J ?_;rw[RE L];simpa using T
     . cases F
   . cases l
 . rename_i t x g n y p;simp only[AAT,AAt,AAh]at l;exact val (v:=.dead) rfl rfl λv B=>UQ h E p l.1.1.1 l.1.1.2 l.1.2 l.2 B
 . rename_i t x u n y z p;simp only[AAT,AAh]at l;cases dst with
   |some dst=>simp[G8,valOf]at H
   |none=>exact xP h E hd p l.1.1 l.1.2 l.2 H
 . rename_i t x f off y p;simp only[AAT]at l;obtain⟨m,C⟩:=l;split at m
   . rename_i fs I;split at m
     . rename_i fd T;simp only[AAT,AAh]at m;obtain⟨L,g2⟩:=m;split at g2
       . rename_i n hn;simp only[ABl]at g2;exact val (v:=.dead) rfl rfl λv B=>eT h E p I T L hn g2 C B
       . cases g2
     . cases m
   . cases m
 . rename_i t x i k y j p;simp only[AAT]at l;obtain⟨⟨m,C⟩,F⟩:=l;split at m
   . rename_i e I;exact val (v:=.dead) rfl rfl λv B=>eU h E p I (V1 m) C F B
   . cases m
 . rename_i t x i len k y j p;simp only[AAT]at l;obtain⟨⟨m,C⟩,F⟩:=l;split at m
   . rename_i n e I;simp only[AAT,AAh]at m;obtain⟨rfl,g2⟩:=m;exact val (v:=.dead) rfl rfl λv B=>AAF h E p I g2 C F B
   . cases m
 . rename_i t x y k bytes z Z y' p;simp only[AAT]at l;obtain⟨⟨m,C⟩,F⟩:=l;split at m
   . rename_i e I;split at m
     . rename_i i hi;simp only[AAT,AAh,AAl]at m;obtain⟨⟨⟨⟨⟨L,g2⟩,K⟩,R⟩,g5⟩,g6⟩:=m;split at g6
       . rename_i v zd B N;obtain⟨M,rfl⟩:=O rfl H;exact runs_mk h W E hd p I hi B L g2 K R N (RE g6) g5 C F H
       . cases g6
     . cases m
   . cases m
 . rename_i t x f agg off n y p;simp only[AAT]at l;obtain⟨m,C⟩:=l;split at m
   . rename_i fs I;split at m
     . rename_i fd T;simp only[AAT,AAh,AAt]at m;obtain⟨⟨⟨L,g2⟩,K⟩,R⟩:=m;exact val (v:=.dead) rfl rfl λv B=>AAK h E p I T L g2 K R C B
     . cases m
   . cases m
 . rename_i t x i agg len k y j p;simp only[AAT]at l;obtain⟨⟨m,C⟩,F⟩:=l;split at m
   . rename_i n e I;simp only[AAT,AAh,AAt]at m;obtain⟨⟨⟨rfl,g2⟩,K⟩,R⟩:=m;exact val (v:=.dead) rfl rfl λv B=>AAL h E p I g2 K R C F B
   . cases m
 . rename_i t x i y j p;simp only[AAT]at l;obtain⟨⟨m,C⟩,F⟩:=l;split at m
   . rename_i I;exact val (v:=.dead) rfl rfl λv B=>s7 h E p I C F B
   . cases m
 . rename_i op t x y u op' Z y' p;simp only[AAT,AAl]at l;obtain⟨⟨rfl,C⟩,F⟩:=l;exact val (v:=.dead) rfl rfl λv B=>AAH h E p C F B
 . rename_i op t x y u neg Z y' p;simp only[AAT,AAl]at l;obtain⟨⟨⟨m,C⟩,F⟩,Q⟩:=l;split at C
   . rename_i I;exact val (v:=.dead) rfl rfl λv B=>AAG h E p m I F Q B
   . cases C
 . rename_i op t x y u neg kd Z y' p;simp only[AAT,AAl]at l;obtain⟨⟨⟨m,C⟩,F⟩,Q⟩:=l;exact val (v:=.dead) rfl rfl λv B=>s6 h E p m C F Q B
 . rename_i t x y p;simp only[AAT,AAh]at l;exact val (v:=.dead) rfl rfl λv B=>UQ h E p l.1.1 l.1.2 (.inr rfl) l.2 (lda_ld B)
 . rename_i t x u y z p;simp only[AAT,AAh]at l;cases dst with
   |some dst=>simp[G8,valOf]at H
   |none=>exact xP h E hd p l.1.1 l.1.2 l.2 (sts_st H)
 . rename_i x y p;exact val (v:=.dead) rfl rfl λv B=>sY h E p l B
 . rename_i f first bY f' ys p
   simp only[AAT,AAh]at l;obtain⟨⟨rfl,m⟩,C⟩:=l;exact val (v:=.dead) rfl rfl λv B=>eV h E p (by simpa using m) C B
 . rename_i op t x op' y p;simp only[AAT,AAl]at l;obtain⟨rfl,C⟩:=l;exact val (v:=.dead) rfl rfl λv B=>gives_un h E p C B
 . rename_i s t x k y p;simp only[AAT]at l;obtain⟨m,C⟩:=l;split at m
   . rename_i k0 k' hs ht;simp only[AAl]at m;subst m;exact val (v:=.dead) rfl rfl λv B=>AAI h E p hs ht C B
   . cases m
 . rename_i c y p;split at l
   . rename_i x t L g2 K;simp only[AAT]at l;obtain⟨m,C⟩:=l;split at m
     . rename_i e I;exact val (v:=.dead) rfl rfl λv B=>AAM h E p L g2 K ⟨e,I⟩ C B
     . cases m
   . cases l
 . rename_i c y p;split at l
   . rename_i x t L g2 K;simp only[AAT]at l;obtain⟨m,C⟩:=l;split at m
     . rename_i I;exact val (v:=.dead) rfl rfl λv B=>s8 h E p L g2 K I C B
     . cases m
   . cases l
 . rename_i c mx x y p;split at l
   . rename_i b u v Ls F9;simp only[AAT]at l;obtain⟨⟨m,C⟩,F⟩:=l;have hb:b=(if mx=true then .max else .min):=by
      split at m
      . rfl
      . rfl
      . cases m
     exact val (v:=.dead) rfl rfl λv B=>gives_mm h E p (by rw[Ls,hb]) F9 C F B
   . cases l
 . rename_i c k bytes x y p;split at l
   . rename_i u v t t' L g2 K;simp only[AAT,AAh]at l;obtain⟨⟨⟨rfl,m⟩,C⟩,F⟩:=l;split at m
     . rename_i e I;split at m
       . rename_i i hi;simp only[AAT,AAh,AAl]at m;obtain⟨⟨⟨k1,k2⟩,k3⟩,X⟩:=m;split at X
         . rename_i z N;simp only[AAh]at X;obtain⟨M,rfl⟩:=O rfl H;exact runs_app h W E hd p L (arr2 g2) (arr2 K) I hi k1 k2 k3 N X C F H
         . cases X
       . cases m
     . cases m
   . cases l
 . rename_i t x lo hi mx k fr y lo' hi' oL p;simp only[AAT,AAt,ABH]at l;obtain⟨⟨⟨⟨⟨m,C⟩,F⟩,Q⟩,h5⟩,h6⟩:=l;split at m
   . rename_i e I;obtain⟨M,rfl⟩:=O rfl H;cases fr with
     |true=>exact pK h E hd p I (V1 m) F Q h5 h6 (C.imp id (by intro q hq;simp[hq]at q)) H
     |false=>exact runs_slcO h E hd p I (V1 m) F Q h5 h6 (C.imp id (by intro q hq;simp[hq]at q)) H
   . cases m
 . rename_i x i y j p;simp only[AAT,AAl]at l;obtain⟨rfl,C⟩:=l;exact val (v:=.dead) rfl rfl λv B=>AAJ h E p C B
 . cases dst<;>simp[G8,valOf]at H
 . cases l
end
variable{w0:ja}{R U j:iu}{I:Op}{args:j7}{K:iv}{res:AV}{M:Exit->Act->World->Prop}{σ:Sg}{io:BD}
section
variable{w w':ja}{S S':iu}{G:Gi}{δ:ji}{Fr:iy}{P:iz}
def Rel(G:Gi)(n:Nat)(w0:ja)(S0 U0:iu)(a:Act)(w:ja)(σ:Sg):Prop:=
 ∃(S:iu)(δ:ji)(F:iy),a.tmps.size=n/\a.defers=[]/\Rd δ a/\(λs=>(δ s).er)=σ/\St G w S δ F/\Nx w0 S0 U0 w S (BN F)/\(∀b,S b->b<w.heap.size)
def X4(w0:ja)(S0 U0:iu):Prop:=GI w0 S0/\∀b,S0 b->¬U0 b/\b<w0.heap.size
def GI.mono(h:GI w S)(c:∀b,S b->S' b):GI w S':=λx a=>⟨c _ (h x a).1,(h x a).2⟩
theorem X4.now(e:X4 w0 F R)(a:Nx w0 F R w S U):GI w S:=by intro x k;obtain⟨d,arr,E,fz,g,h⟩:=e.1 x k;obtain⟨i,j⟩:=e.2 _ d;exact⟨a.sub _ d,arr,E,fz,by rw[a.block _ j i];exact g,h⟩
theorem Ka(h:St G w S δ Fr)(hd:Ok w S d F)(Q:∀x,F x->BN Fr x)(P:Dr δ d){a:AV}(f:Uz (λs=>(δ s).er) d.er=some a):
 ∃D,D.er=a/\D.A0=d.A0/\Ok w (λx=>S x\/BN Fr x) D (λ_=>False):=by
 have B:∀(b:AV)(v:jn),Fz w (λx=>S x\/BN Fr x) b v->DS b=true->(∀t,b≠ .fp t)->(b≠ .un)->∃D:DV,D.er=b/\D.A0=v/\Ok w (λx=>S x\/BN Fr x) D (λ_=>False):=by
  intro b v l g L N;refine⟨.lf b v,ak,ak,.lf _ _ _ ?_ (λ_ h=>h)⟩;cases b with
  |sc u=>cases l with|sc _ M=>exact⟨rfl,M⟩
  |sl=>exact l
  |dead=>trivial
  |cl=>trivial
  |vb=>cases l
  |YA=>cases l
  |cb=>cases l
  |al=>trivial
  |Lm=>trivial
  |fp t=>exact absurd rfl (L t)
  |un=>exact absurd rfl N
  |own=>simp[DS]at g
  |agg=>simp[DS]at g
  |BZ=>simp[DS]at g
 have T:∀{D:DV}{z:iu}{k:Nat}{row:i5},Ok w S D z->(∀x,z x->BN Fr x)->D.er= .own true k [row]->∃y,y.er= .fp (row.map KI)/\y.A0=D.A0/\Ok w (λx=>S x\/BN Fr x) y (λ_=>False):=by
  intro D z k row m O i;refine⟨.lf (.fp (row.map KI)) D.A0,ak,ak,.lf _ _ _ ?_ (λ_ h=>h)⟩;cases m with
  |lf b v _ ha _=>simp only[Eb]at i;subst i;exact ha.elim
  |nil=>simp at i
  |agg=>simp at i
  |BZ=>simp at i
  |own bx R rows b c arr E Fs _ hb hk Ee Md hv jM ON B0 LR tF=>
   simp only[FO,AV.own.injEq]at i;obtain⟨rfl,rfl,H⟩:=i;refine⟨b,0,by simp[KW],.inr (O b ((tF b).2 (.inl rfl))),λj a I=> ?_⟩
   match rows,H with
   |[Jf],H=>
    simp only[AAm,AA2,ABt,and_true]at H;subst H;simp only[List.map_map,AAf]at I;cases hjd:Jf[j]? with
    |none=>simp[hjd]at I
    |some d=>
     simp only[hjd,AA1,AAU,Function.comp]at I;subst I;refine⟨d.A0,?_,?_⟩
     . have:=hv 0 j Jf d rfl hjd;simp only[World.cell?,hb];simpa using this
     . exact(jM 0 j Jf d rfl hjd).freeze.mono (λ_ _=>rfl) (λx n=>n.imp id (λl=>O x ((tF x).2 (.inr ⟨0,j,l⟩))))
 cases hd with
 |lf b v _ ha tF=>
  simp only[Eb]at f;cases b with
  |sc u=>simp only[Uz,AAU]at f;subst f;obtain⟨rfl,M⟩:=ha;exact B _ _ (.sc _ M) rfl ak ak
  |sl e k rows=>
   simp only[Uz,AAU]at f;subst f;have l:Fz w (λx=>S x\/BN Fr x) (.sl false k rows) v:=by
    have K:Fz w (λx=>S x\/BN Fr x) (.sl e k rows) v:=Fz.mono ha (λ_ _=>rfl) (λ_ h=>.inl h);cases K with
    |nil x k a c n=>exact .nil _ _ _ _ ak
    |sl x k rows b off c vs n SE hS hk hc f=>exact .sl _ _ _ b off c vs ak SE hS hk hc f
   exact B _ _ l rfl ak ak
  |al r p=>
   simp only[Uz]at f;split at f
   . rename_i k rows hn;simp only[AAU]at f;cases P with
     |lf _ _ g=>obtain⟨bx,R,q,g⟩:=g;obtain⟨D,C,i⟩:=ED (h.ok r).Lh hn;rw[g]at C;obtain rfl:=AAW C;obtain⟨z,m,J⟩:=(h.ok r).Ax g;have o:=m.freeze;rw[i,f]at o;subst f;simp only[PB]at o |-;exact B _ _ (o.mono (λ_ _=>rfl) (λx n=>n.imp id (λl=>⟨r,J x l⟩))) rfl ak ak
   . rename_i k row hn;simp only[AAU]at f;cases P with
     |lf _ _ g=>obtain⟨bx,R,q,g⟩:=g;obtain⟨D,C,i⟩:=ED (h.ok r).Lh hn;rw[g]at C;obtain rfl:=AAW C;obtain⟨z,m,J⟩:=(h.ok r).Ax g;subst f;obtain⟨y,U,V,W⟩:=T m (λx n=>⟨r,J x n⟩) i;exact⟨y,U,by simpa using V,W⟩
   . cases f
  |own=>exact ha.elim
  |fp t=>simp only[Uz,AAU]at f;subst f;exact⟨.lf (.fp t) v,ak,ak,.lf _ _ _ (Hh.mono (a:=.fp t) ha (λ_ _=>rfl) (λ_ h=>.inl h)) (λ_ h=>h)⟩
  |_=>simp[Uz]at f
 |nil k _ tF=>simp only[FO,AA2,Uz,AAU]at f;subst f;simp only[PB,AA2];exact B _ _ (.nil false k none 0 ak) rfl ak ak
 |own bx k rows b c arr E Fs _ hb hk Ee Md hv jM ON B0 LR tF=>
  have m:=Ok.own bx k rows b c arr E Fs F hb hk Ee Md hv jM ON B0 LR tF;have o:=m.freeze;cases bx with
  |true=>
   simp only[FO]at f
   match rows,f,m with
   |[row],f,m=>simp only[AAm,AA2,Uz,AAU]at f;subst f;exact T (k:=k) m Q ak
   |[],f,_=>simp[Uz]at f
   |_::_::_,f,_=>simp[Uz]at f
  |false=>simp only[FO,Uz,AAU]at f;rw[FO,f]at o;subst f;simp only[PB]at o |-;exact B _ _ (o.mono (λ_ _=>rfl) (λx n=>n.imp id (Q x))) rfl ak ak
 |agg=>simp[Uz]at f
 |BZ=>simp[Uz]at f
theorem rdL_sound(h:St G w S δ Fr)(ds:jl):∀{l:i5},(∀d∈ds,∃F,Ok w S d F/\∀x,F x->BN Fr x)->(∀d∈ds,Dr δ d)->rdL (λs=>(δ s).er) (ds.map DV.er)=some l->
 ∃b:List DV,b.map DV.er=l/\b.map DV.A0=ds.map DV.A0/\∀D∈b,Ok w (λx=>S x\/BN Fr x) D (λ_=>False):=by
 induction ds with
 |nil=>intro l _ _ a;simp only[AA2,rdL,AAU]at a;simp_all
 |cons d ds ih=>
  intro l f g a;simp only[AAm,rdL]at a;split at a
  . rename_i x l' j k;simp only[AAU]at a;subst a;obtain⟨F,i,g2⟩:=f d ak;obtain⟨D,m,n,o⟩:=Ka h i g2 (g d ak) j;obtain⟨b,p,q,r⟩:=ih (λe c=>f e (by simp[c])) (λe c=>g e (by simp[c])) k;refine⟨D::b,aS,aS,?_⟩;simp_all
  . cases a
theorem fO(h:St G w S δ Fr)(hd:Ok w S d F)(m:∀x,F x->BN Fr x)(j:Dr δ d){a:AV}(g:lP (λs=>(δ s).er) d.er=some a):
 ∃D,D.er=a/\D.A0=d.A0/\Ok w (λx=>S x\/BN Fr x) D (λ_=>False):=by
 cases PD:d.er with
 |agg cs=>
  obtain⟨ds,rfl⟩:∃ds,d= .agg ds:=by
   have:=hd.Lh;cases d with
   |agg ds=>simp_all
   |lf c v=>cases this with|lf _ _ o=>simp at PD;subst PD;simp[DS]at o
   |own=>simp at PD
   |BZ=>simp at PD
  simp only[Iy,lP]at g;split at g
  . rename_i l o;simp only[AAU]at g;subst g;cases hd with
    |agg _ Fs _ h1 h2 h3 h4=>
     cases j with
     |agg _ j=>obtain⟨q,u,y,z⟩:=rdL_sound h ds (λe n=>by obtain⟨i,hi⟩:=AAs n;exact⟨Fs i,h1 i e hi,λx t=>m x ((h4 x).2 ⟨i,t⟩)⟩) (λe n=>by obtain⟨i,hi⟩:=AAs n;grind) o;exact⟨.agg q,by simp[u],by simp[y],CN.2 (CZ z)⟩
  . cases g
 |al r p=>rw[PD]at g;simp only[lP]at g;rw[<- PD]at g;exact Ka h hd m j g
 |own b k rows=>rw[PD]at g;simp only[lP]at g;rw[<- PD]at g;exact Ka h hd m j g
 |sc v=>rw[PD]at g;simp only[lP]at g;rw[<- PD]at g;exact Ka h hd m j g
 |sl e k rows=>rw[PD]at g;simp only[lP]at g;rw[<- PD]at g;exact Ka h hd m j g
 |fp cs=>rw[PD]at g;simp only[lP]at g;rw[<- PD]at g;exact Ka h hd m j g
 |YA f Mk=>
  rw[PD]at g;simp only[lP,AAU]at g;subst g;cases hd with
  |lf b v _ hb _=>simp only[Eb]at PD;subst PD;exact⟨.lf (.YA f Mk) v,ak,ak,.lf _ _ _ (Hh.mono (a:=.YA f Mk) hb (λ_ _=>rfl) (λ_ h=>.inl h)) (λ_ h=>h)⟩
  |nil=>simp at PD
  |own=>simp at PD
  |agg=>simp at PD
  |BZ=>simp at PD
 |_=>simp[PD,lP]at g
theorem Mg(h:St G w S δ Fr)(B:Rd δ a)(k:j7):∀{f:lz}{d:i5},Gk f k=true->Js (λs=>(δ s).er) k=some d->
 ∃i:List DV,i.map DV.er=d/\i.map DV.A0=f.map a.eval/\∀D∈i,Ok w (λx=>S x\/BN Fr x) D (λ_=>False):=by
 induction k with
 |nil=>
  intro f d g e;cases f with
  |cons=>simp[Gk]at g
  |nil=>simp only[Js,AAU]at e;simp_all
 |cons y k ih=>
  intro f d g e;cases f with
  |nil=>simp[Gk]at g
  |cons x f=>
   simp only[Gk,AAT]at g;obtain⟨E,F⟩:=Aq g.1 B;simp only[Js]at e;split at e
   . rename_i b l j z;simp only[AAU]at e;subst e;obtain⟨D,n,o,p⟩:∃D,D.er=b/\D.A0=DL δ y/\Ok w (λx=>S x\/BN Fr x) D (λ_=>False):=by
      cases y with
      |t s=>exact fO h (h.ok s) (λx C=>⟨s,C⟩) (h.al s) j
      |c c=>obtain⟨q,m⟩:=E;obtain⟨r,u,v,_⟩:=JT (w:=w) (S:=S) (δ:=δ) c q m;simp only[ar]at j;rw[<- r]at j;obtain⟨D,n,o,p⟩:=fO h u (λ_ h=>h.elim) v j;exact⟨D,n,by rw[o];simp[DL,m],p⟩
     obtain⟨i,H,I,J⟩:=ih g.2 z;refine⟨D::i,aS,am,?_⟩;simp_all
   . cases e
theorem TU(h:Ok w S d F):∃D,D.er=KI d.er/\D.A0=d.A0/\Ok w (λx=>S x\/F x) D (λ_=>False)/\Dr δ D:=by
 induction h with
 |lf a v F ha hF=>
  have g:=ha.DS;cases a with
  |sc u=>exact⟨.lf (.sc u) v,ak,ak,.lf _ _ _ ha (λ_ h=>h),.lf _ _ trivial⟩
  |sl e k rows=>exact⟨.lf (.sl e k rows) v,ak,ak,.lf _ _ _ (Fz.mono ha (λ_ _=>rfl) (λ_ h=>.inl h)) (λ_ h=>h),.lf _ _ trivial⟩
  |own=>exact ha.elim
  |agg=>exact ha.elim
  |BZ=>exact ha.elim
  |_=>exact⟨.lf .dead v,by simp[KI],ak,.lf _ _ _ trivial (λ_ h=>h),.lf _ _ trivial⟩
 |nil k F hF=>exact⟨.lf (.sl false k []) (.slice none 0 0),ak,ak,.lf _ _ _ (Fz.nil false k none 0 ak) (λ_ h=>h),.lf _ _ trivial⟩
 |own bx k rows b c arr E Fs F hb hk Ee Md hv hr hd B0 LR hF ih=>
  have y:=(Ok.own bx k rows b c arr E Fs F hb hk Ee Md hv hr hd B0 LR hF).freeze;cases bx with
  |true=>exact⟨.lf .dead (KW true b rows.length c),ak,ak,.lf _ _ _ trivial (λ_ h=>h),.lf _ _ trivial⟩
  |false=>simp only[FO,PB,Ma]at y |-;exact⟨.lf (.sl false k (List.map (λ(x:i5)=>List.map KI x) (List.map (λ(x:jl)=>List.map DV.er x) rows))) (KW false b rows.length c),by rw[Eb],ak,.lf _ _ _ y (λ_ h=>h),.lf _ _ trivial⟩
 |agg cs Fs F hr hd B0 hF ih=>
  obtain⟨o,g,j⟩:=MU cs (λi d D=>D.er=KI d.er/\D.A0=d.A0/\Ok w (λx=>S x\/F x) D (λ_=>False)/\Dr δ D) (by intro i d n;obtain⟨D,p,q,r,s⟩:=ih i d n;exact⟨D,p,q,r.mono (λ_ _=>rfl) (λ_ _=>rfl) (λx t=>t.imp id (λh=>(hF x).2 ⟨i,h⟩)) (λ_ h=>h.elim),s⟩);refine⟨.agg o,?_,?_,CN.2 (CZ λD l=> ?_),.agg _ λi D l=> ?_⟩
  . simp only[Iy,wQ,AV.agg.injEq,List.map_map];exact map_mk g j _ _ ak λi c D f m=>by simp[m,f.1]
  . simp only[MZ];congr 2;exact map_mk g j _ _ ak λi c D f m=>by simp[m,f.2.1]
  . obtain⟨i,hi⟩:=AAs l;obtain⟨c,_,f⟩:=mem_mk g j i D hi;exact f.2.2.1
  . obtain⟨c,_,f⟩:=mem_mk g j i D l;exact f.2.2.2
 |BZ cs Fs F hr hd B0 hF ih=>
  obtain⟨o,g,j⟩:=MU cs (λi d D=>D.er=KI d.er/\D.A0=d.A0/\Ok w (λx=>S x\/F x) D (λ_=>False)/\Dr δ D) (by intro i d n;obtain⟨D,p,q,r,s⟩:=ih i d n;exact⟨D,p,q,r.mono (λ_ _=>rfl) (λ_ _=>rfl) (λx t=>t.imp id (λh=>(hF x).2 ⟨i,h⟩)) (λ_ h=>h.elim),s⟩);refine⟨.BZ o,?_,?_,BK.2 (CZ λD l=> ?_),.BZ _ λi D l=> ?_⟩
  . simp only[LP,wS,AV.BZ.injEq,List.map_map];exact map_mk g j _ _ ak λi c D f m=>by simp[m,f.1]
  . simp only[Oz];congr 2;exact map_mk g j _ _ ak λi c D f m=>by simp[m,f.2.1]
  . obtain⟨i,hi⟩:=AAs l;obtain⟨c,_,f⟩:=mem_mk g j i D hi;exact f.2.2.1
  . obtain⟨c,_,f⟩:=mem_mk g j i D l;exact f.2.2.2
theorem TQ(l:i5):QZ l=l.all fresh:=by
 induction l with
 |nil=>rfl
 |cons a l ih=>simp[QZ,ih]
theorem sW(l:i6):TR l=l.all (·.all fresh):=by
 induction l with
 |nil=>rfl
 |cons a l ih=>simp[TR,TQ,ih]
@[simp]theorem fresh_sc(v:jn):fresh (.sc v)=true:=by simp[fresh]
@[simp]theorem AAE(b:Bool)(k:Nat)(rows:i6):fresh (.own b k rows)=rows.all (·.all fresh):=by simp[fresh,sW]
@[simp]theorem Vo(a:i5):fresh (.agg a)=a.all fresh:=by simp[fresh,TQ]
@[simp]theorem Vp(a:i5):fresh (.BZ a)=a.all fresh:=by simp[fresh,TQ]
theorem UM(h:Ok w S d F):fresh d.er=true->(∀x,F x->¬S' x)->Ok w S' d F:=by
 induction h with
 |lf a v F ha hF=>
  intro e hn;simp only[Eb]at e;cases a with
  |sc u=>exact .lf _ _ _ ha hF
  |own=>exact ha.elim
  |agg=>exact ha.elim
  |BZ=>exact ha.elim
  |_=>simp[fresh]at e
 |nil k F hF=>intro _ _;exact .nil k F hF
 |own bx k rows b c arr E Fs F hb hk Ee Md hv hr hd B0 LR hF ih=>
  intro e hn;simp only[FO,AAE,ABR,AAY]at e;refine .own bx k rows b c arr E Fs F hb hk Ee (hn b ((hF b).2 (.inl rfl))) hv (λi j row d f l=>ih i j row d f l ?_ ?_) hd B0 LR hF
  all_goals grind
 |agg cs Fs F hr hd B0 hF ih=>intro e hn;simp only[Iy,Vo,ABR,AAY]at e;exact .agg cs Fs F (λi d f=>ih i d f (e d (AAg f)) (λx g=>hn x ((hF x).2 ⟨i,g⟩))) hd B0 hF
 |BZ cs Fs F hr hd B0 hF ih=>intro e hn;simp only[LP,Vp,ABR,AAY]at e;exact .BZ cs Fs F (λi d f=>ih i d f (e d (AAg f)) (λx g=>hn x ((hF x).2 ⟨i,g⟩))) hd B0 hF
theorem Y0(h:eQ out=true):fresh out=true:=by
 cases out with
 |sc=>simp
 |agg cs=>
  simp only[eQ,AAY]at h;simp only[Vo,AAY];intro c b
  have:=h c b;cases c<;>simp_all
 |BZ cs=>
  simp only[eQ,AAY]at h;simp only[Vp,AAY];intro c b
  have:=h c b;cases c<;>simp_all
 |_=>simp[eQ]at h
theorem UL(h:Ok w S d F):fresh d.er=true->Dr δ d:=by
 induction h with
 |lf a v F ha hF=>intro b;simp only[Eb]at b;refine .lf a v ?_;cases a<;>simp_all [fresh,Nz]
 |nil=>intro _;exact .own _ _ _ _
 |own=>intro _;exact .own _ _ _ _
 |agg cs Fs F hr hd B0 hF ih=>intro b;simp only[Iy,Vo,ABR,AAY]at b;exact .agg cs λi d c=>ih i d c (b d (AAg c))
 |BZ cs Fs F hr hd B0 hF ih=>intro b;simp only[LP,Vp,ABR,AAY]at b;exact .BZ cs λi d c=>ih i d c (b d (AAg c))
theorem Yq(h:Ok w S d F)(b:clean d.er=true):Dr δ d:=by
 have leaf:∀{e:DV},dU e->LN e.er=true->Dr δ e:=by
  intro e c b;cases c with
  |lf a v c=>refine .lf _ _ ?_;simp only[Eb]at b;cases a<;>simp_all [LN,Nz]
  |own=>exact .own _ _ _ _
  |agg=>simp[LN]at b
  |BZ=>simp[LN]at b
 have l:∀{f:jl},(∀(i:Nat) d,f[i]? =some d->dU d)->(f.map DV.er).all LN=true->Dr δ (.agg f):=by intro f g b;refine .agg _ λi e hi=>leaf (g i e hi) ?_;rw[AAY]at b;exact b _ (ABY (AAg hi))
 have c:=h.Lh;cases c with
 |lf a v c=>refine leaf (.lf a v c) ?_;simp only[Eb]at b |-;cases a<;>simp_all [clean,LN,DS]
 |own=>exact .own _ _ _ _
 |agg f g=>simp only[Iy,clean]at b;grind
 |BZ f g=>
  simp only[LP,clean]at b;refine .BZ _ λi e hi=> ?_;rw[AAY]at b;have j:=b _ (ABY (AAg hi));have k:=g i e hi;cases k with
  |lf a v c=>refine leaf (.lf a v c) ?_;simp only[Eb]at j |-;cases a<;>simp_all [LN,DS]
  |own=>exact .own _ _ _ _
  |agg f g=>simp only[Iy]at j;grind
  |BZ=>simp[LN]at j
theorem VP{c:Call}{b:Func}(k:o.op= .call c)(i:c.callee= .value (.func f))(j:P.funcs[f]? =some b)(m:b.body.isSome=true)(hn:(b.name != "runtime.NumGoroutine")=true):
 (execOp a.eval o).run P w= .ok (.enter f (c.args.toList.map a.eval).toArray) w:=by
 have d:b.body.isNone=false:=by cases h:b.body<;>simp_all
 have e:(b.name== "runtime.NumGoroutine")=false:=by simpa using hn
 have g:c.args.map a.eval=(c.args.toList.map a.eval).toArray:=by apply ABr;simp
 simp only[execOp,k,resolve,i,Act.eval,Deferred.ofValue,Sem.run_bind,Sem.run_pure,Result.andThen_ok,invoke,callFunc,g];have l:(program).run P w= .ok P w:=rfl;rw[l];simp only[Result.andThen_ok,j,e,d,AAd,AAk,Sem.run_pure];simp
def Kp(P:iz):Op->Nat->List Ar->Nat->Bool
 | .call c,f,args,m=>(match c.callee with
  | .value (.func g)=>f==g&&(match P.funcs[f]? with|some fn=>fn.body.isSome&&fn.name != "runtime.NumGoroutine" |none=>false)&&decide (m<5)&&Gk c.args.toList args
  |_=>false)
 |_,_,_,_=>false
theorem nI(h:Ok w S d F):∃D,D.er=fzn d.er/\D.A0=d.A0/\Ok w (λx=>S x\/F x) D (λ_=>False):=by
 have leaf:∀{e:DV}{p:iu},Ok w S e p->(∀x,p x->F x)->∃D:DV,D.er=fzl e.er/\D.A0=e.A0/\Ok w (λx=>S x\/F x) D (λ_=>False):=by
  intro e p y s;obtain⟨D,f,n,o,_⟩:=TU (δ:=λ_=>default) y;have g:Ok w (λx=>S x\/F x) D (λ_=>False):=o.mono (λ_ _=>rfl) (λ_ _=>rfl) (λx l=>l.imp id (s x)) (λ_ h=>h.elim);cases hee:e.er with
  |sl ee k rows=>
   rw[hee]at f;simp only[frz_sl]at f;refine⟨.lf (.sl false k rows) D.A0,by simp[fzl],am,.lf _ _ _ ?_ (λ_ h=>h)⟩;cases g with
   |lf a v _ ha _=>
    simp only[Eb]at f;subst f;simp only[Kn];have z:Fz w (λx=>S x\/F x) (.sl ee k rows) v:=ha;cases z with
    |nil x k a c l=>exact Fz.nil _ _ _ _ ak
    |sl x k rows b off c vs l SE hS hk r hr=>exact Fz.sl _ _ _ b off c vs ak SE hS hk r hr
   |nil=>simp at f
   |own=>simp at f
   |agg=>simp at f
   |BZ=>simp at f
  |_=>rw[hee]at f;exact⟨D,by rw[f];simp only[fzl],n,g⟩
 cases PD:d.er with
 |agg cs=>
  obtain⟨ds,rfl⟩:∃ds,d= .agg ds:=by
   have:=h.Lh;cases d with
   |agg ds=>simp_all
   |lf c v=>cases this with|lf _ _ j=>simp at PD;subst PD;simp[DS]at j
   |own=>simp at PD
   |BZ=>simp at PD
  simp only[Iy,AV.agg.injEq]at PD;subst PD;cases h with
  |agg _ Fs _ f n o h4=>
   obtain⟨t,j,q⟩:=MU ds (λi d D=>D.er=fzl d.er/\D.A0=d.A0/\Ok w (λx=>S x\/F x) D (λ_=>False)) (λi d hd=>leaf (f i d hd) (λx l=>(h4 x).2 ⟨i,l⟩));refine⟨.agg t,?_,?_,CN.2 (CZ λD u=> ?_)⟩
   . simp only[Iy,fzn,AV.agg.injEq,List.map_map];exact map_mk j q _ _ ak λi c D m r=>am
   . simp only[MZ];congr 2;exact map_mk j q _ _ ak λi c D m r=>am
   . obtain⟨i,hi⟩:=AAs u;obtain⟨c,_,m⟩:=mem_mk j q i D hi;grind
 |_=>obtain⟨D,f,n,o⟩:=leaf h (λ_ h=>h);refine⟨D,?_,n,o⟩;rw[f];simp only[PD,fzn]
theorem lB(n:j7):∀{g:lz}{δ:ji}{Fr:iy}{d:i5}{τ:Sg},St G w S δ Fr->Rd δ a->Gk g n=true->OJ G n (λs=>(δ s).er)=some (d,τ)->
 ∃(i:ji)(o:iy)(k:jl)(Fd:iu),St G w S i o/\(λs=>(i s).er)=τ/\(∀s,(i s).A0=(δ s).A0)/\k.map DV.er=d/\k.map DV.A0=g.map a.eval/\(∀D∈k,Ok w (λx=>S x\/Fd x) D (λ_=>False))/\
  (∀s x,o s x->¬Fd x)/\(∀x,BN o x\/Fd x->BN Fr x):=by
 induction n with
 |nil=>
  intro g δ Fr d τ h p j c;cases g with
  |cons=>simp[Gk]at j
  |nil=>simp only[OJ,AAU,AAj]at c;obtain⟨rfl,rfl⟩:=c;exact⟨δ,Fr,[],λ_=>False,h,rfl,λ_=>rfl,rfl,rfl,ak,λ_ _ _ h=>h,λx b=>b.elim id False.elim⟩
 |cons y n ih=>
  intro g δ Fr d τ h p j c;cases g with
  |nil=>simp[Gk]at j
  |cons x g=>
   simp only[Gk,AAT]at j;obtain⟨H,R⟩:=Aq j.1 p;simp only[OJ]at c;split at c
   . rename_i v O q;split at c
     . rename_i l P r;simp only[AAU,AAj]at c;obtain⟨rfl,rfl⟩:=c;obtain⟨N,Q,D,Ff,f,F,E,T⟩:=h.tk H q;subst F;subst E;obtain⟨B,U,V,I⟩:=nI f.ok;obtain⟨z,C,k,Fd,J,K,L,W,X,M,Z,u⟩:=ih f.st (λs=>(p s).trans (f.A0 s).symm) j.2 r;refine⟨z,C,B::k,λx=>Ff x\/Fd x,J,K,λs=>(L s).trans (f.A0 s),aS,am,?_,?_,?_⟩
       . intro e m;simp only[AAr]at m;rcases m with rfl|m
         . exact I.mono (λ_ _=>rfl) (λ_ _=>rfl) (λx b=>b.imp id .inl) (λ_ h=>h.elim)
         . exact(M e m).mono (λ_ _=>rfl) (λ_ _=>rfl) (λx b=>b.imp id .inr) (λ_ h=>h.elim)
       . rintro s x b (h1|h1)
         . obtain⟨t,c⟩:=u x (.inl ⟨s,b⟩);exact f.NK t x c h1
         grind
       . rintro x (b|b|b)
         . exact f.own x (.inl (u x (.inl b)))
         . exact f.own x (.inr b)
         . exact f.own x (.inl (u x (.inr b)))
     . cases c
   . cases c
theorem Mb(h:Kp P I f args m=true):∃c a,I= .call c/\c.callee= .value (.func f)/\P.funcs[f]? =some a/\a.body.isSome=true/\(a.name != "runtime.NumGoroutine")=true/\m<5/\Gk c.args.toList args=true:=by
 cases I with
 |call c=>simp only[Kp]at h;grind
 |_=>simp[Kp]at h
theorem Mo{S2:iu}{g:iy}{FD:iu}{v:AV}(i:St G w j C g)(hn:a.tmps.size=n)(M:a.defers=[])(y:Rd C a)(hd:I9 G a o dst)(GP:D.er=v)(q:∀b,b<w.heap.size->w'.heap[b]? =w.heap[b]?)(L:∀b,j b->b<w.heap.size)(t:∀b,j b->S2 b)(l:∀b,S2 b->j b\/w.heap.size<=b)(c:∀b,S2 b->b<w'.heap.size)(hD:Ok w' S2 D FD)(k:∀x,FD x->w.heap.size<=x)(Z:Dr C D)(W:Nx w0 F R w j (BN g))(e:w'.os=w.os)(u:w'.tape=w.tape)(E:w'.output=w.output)(Pt:w.heap.size<=w'.heap.size)(p:C2 dst v K (λs=>(C s).er)):∃σ',Rel G n w0 F R (a.put o.dst D.A0) w' σ'/\K σ':=by
 have S:∀s x,g s x->w'.heap[x]? =w.heap[x]? :=λs x f=>q x ((i.ok s).lt x f);have Q:∀s x,g s x->¬S2 x:=by
  intro s x f S1;have V:=(i.ok s).lt x f;rcases l x S1 with m|m
  . exact(i.ok s).FQ x f m
  . omega
 have T:∀s x,g s x->¬FD x:=by
  intro s x f S1;have V:=(i.ok s).lt x f
  have:=k x S1;omega
 have O:∀r:Nat->Nat->Prop,(∀x,BN r x->BN g x\/FD x)->Nx w0 F R w' S2 (BN r):=by intro r Y7;refine W.trans ⟨e,u,E,Pt,λb h _=>q b h,t,λb h=>(l b h).imp id .inr,λ_=>c,λx f=>(Y7 x f).imp id (k x)⟩
 cases dst with
 |none=>
  have z:o.dst=none:=hd;refine⟨_,⟨S2,C,g,?_,?_,?_,rfl,i.world (λb h=>q b (L b h)) S t Q,O g (λx f=>.inl f),c⟩,p⟩
  . rw[z];exact hn
  . rw[z];exact M
  . rw[z];exact y
 |some d=>
  simp only[C2]at p;split at p
  . rename_i J P;obtain⟨B,S1,m,h4⟩:=hd;rw[<- GP]at P;obtain⟨I,N,LS,KJ,U,X⟩:=i.wr S1 m (λb h=>q b (L b h)) S t Q hD T Z P;refine⟨J,⟨S2,I,N,?_,?_,?_,KJ,LS,O N X,c⟩,p⟩
    . rw[B];simpa[Act.put]using hn
    . rw[B];simpa[Act.put]using M
    . intro s;rw[B,Ja a d.d D.A0 h4 s,U s];split
      . rfl
      . exact y s
  simp_all
theorem borrow{D:lz}(O:GI w S)(j:St G w S δ Fr)(I:Nx w0 F R w S (BN Fr))(l:∀b,S b->b<w.heap.size)(hn:a.tmps.size=n)(H:a.defers=[])(u:Rd δ a)(hd:I9 G a o dst)(Q:Gk D args=true)(hr:Js (λs=>(δ s).er) args=some outs2)(N:Says P f outs2 out)(qJ:fresh out=true)(hv:out=res)(J:C2 dst res K (λs=>(δ s).er)):
 Calls P f (D.map a.eval).toArray w λ
  | .returned res,w''=>(λX w'=>∃σ',Rel G n w0 F R X w' σ'/\K σ') (a.put o.dst res) w''
  | .panicked chain,w''=>M (.panic chain) a w''
  | .outgrown,_=>LetsOut M:=by
 obtain⟨q,L,V,jE⟩:=Mg j u args Q hr;have p:=N w (λx=>S x\/BN Fr x) q (λ_=>False) (O.mono λ_ h=>.inl h) L (BK.2 (CZ jE)) (by
  rintro b (i|⟨s,y⟩)
  . simp_all
  . exact(j.ok s).lt b y)
 rw[V]at p;refine p.mono ?_;rintro e w' ⟨r,os,S',F',rfl,t,hoe,Z,E,d,NL,wW,Lr,W⟩;obtain⟨m,Fb,B,_,_,U⟩:=BK.1 E;have k:∀x,m x->w.heap.size<=x:=λx z=>(W x ((U x).2 (.inl z))).resolve_left id;have T:Ok w' S r m:=UM B am (λx z y=>aS);simp only;exact Mo (S2:=S) j hn H u hd (t.trans hv) (λb i=>d.block b i id) l (λ_ h=>h) (λ_ h=>.inl h) (λb i=>ABP (l b i) d.size) T k (UL B am) I d.os d.tape d.output d.size J
theorem p7(o:j7):∀{f:lz}{δ:ji}{Fr:iy}{d:i5}{τ:Sg},St G w S δ Fr->Rd δ a->Gk f o=true->S7 G o (λs=>(δ s).er)=some (d,τ)->
 ∃(g:ji)(p:iy)(j:jl)(Fd:iu),St G w S g p/\(λs=>(g s).er)=τ/\(∀s,(g s).A0=(δ s).A0)/\j.map DV.er=d/\j.map DV.A0=f.map a.eval/\KT w S j Fd/\
  (∀s x,p s x->¬Fd x)/\(∀x,BN p x\/Fd x->BN Fr x):=by
 induction o with
 |nil=>
  intro f δ Fr d τ h q i b;cases f with
  |cons=>simp[Gk]at i
  |nil=>simp only[S7,AAU,AAj]at b;obtain⟨rfl,rfl⟩:=b;exact⟨δ,Fr,[],λ_=>False,h,rfl,λ_=>rfl,rfl,rfl,λ_ h=>h,λ_ _ _ h=>h,λx e=>e.elim id False.elim⟩
 |cons y o ih=>
  intro f δ Fr d τ h q i b;cases f with
  |nil=>simp[Gk]at i
  |cons x f=>
   simp only[Gk,AAT]at i;obtain⟨H,R⟩:=Aq i.1 q;simp only[S7]at b;split at b
   . rename_i v O r;split at b
     . rename_i l P u;simp only[AAU,AAj]at b;obtain⟨rfl,rfl⟩:=b;obtain⟨N,Q,D,Ff,c,E,C,T⟩:=h.tk H r;subst E;subst C;obtain⟨z,B,j,Fd,I,J,K,L,U,M,V,n⟩:=ih c.st (λs=>(q s).trans (c.A0 s).symm) i.2 u;have k:∀x,Ff x->¬Fd x:=λx m F=>(by obtain⟨t,b⟩:=n x (.inr F);exact c.NK t x b m);refine⟨z,B,D::j,λx=>Ff x\/Fd x,I,J,λs=>(K s).trans (c.A0 s),by simp[L],am,⟨Ff,Fd,c.ok,M,k,λx=>Iff.rfl⟩,?_,?_⟩
       . rintro s x e (m|m)
         . obtain⟨t,b⟩:=n x (.inl ⟨s,e⟩);exact c.NK t x b m
         grind
       . rintro x (e|e|e)
         . exact c.own x (.inl (n x (.inl e)))
         . exact c.own x (.inr e)
         . exact c.own x (.inl (n x (.inr e)))
     . cases b
   . cases b
theorem rY(h:St G w S δ Fr)(rs:j9):∀{vs:jj}{e:i6},vs.length=rs.length->(∀(i:Nat) r p u,rs[i]? =some (r,p)->vs[i]? =some u->∃bx k rows,Ax (δ r) p=some (.own u bx k rows))->Yo (λs=>(δ s).er) rs=some e->
 vs.length=e.length/\∀(i:Nat) g u,e[i]? =some g->vs[i]? =some u->qX w (λx=>S x\/BN Fr x) g u:=by
 induction rs with
 |nil=>
  intro vs e f _ b;cases vs with
  |nil=>simp only[Yo,AAU]at b;simp_all
  |cons=>simp at f
 |cons x rs ih=>
  obtain⟨r,p⟩:=x;intro vs e f n b;cases vs with
  |nil=>simp at f
  |cons v vs=>
   simp only[Yo]at b;split at b
   . rename_i g m q t;simp only[AAU]at b;subst b;obtain⟨bx,k,rows,y⟩:=n 0 r p v rfl rfl;obtain⟨D,c,l,z⟩:=Ka h (d:=.lf (.al r p) v) (F:=λ_=>False) (.lf _ _ _ trivial (λ_ h=>h)) (λ_ h=>h.elim) (.lf _ _ ⟨bx,k,rows,y⟩) (by simpa using q);obtain⟨B,C⟩:=ih (by simpa using f) (λi r p u hi j=>n (i+1) r p u am am) t;refine⟨by simp[B],λi o u hi j=> ?_⟩;cases i with
     |zero=>
      simp only[ABA,AAU]at hi j;subst hi;subst j;simp only[Kn]at l;cases z with
      |lf a v' _ ha _=>simp only[Eb]at c;subst c;simp only[Kn]at l;subst l;exact ha
      |nil=>simp at c
      |own=>simp at c
      |agg=>simp at c
      |BZ=>simp at c
     |succ i=>grind
   . cases b
theorem bB(m:j7):∀{i:lz}{δ:ji}{Fr:iy}{g:i5}{τ:Sg},St G w S δ Fr->Rd δ a->Gk i m=true->Xz G m (λs=>(δ s).er)=some (g,τ)->
 ∃(j:ji)(r:iy)(n:jl)(Fd:iu),St G w S j r/\(λs=>(j s).er)=τ/\(∀s,(j s).A0=(δ s).A0)/\n.map DV.er=g/\n.map DV.A0=i.map a.eval/\KT w (λx=>S x\/BN r x) n Fd/\
  (∀s x,r s x->¬Fd x)/\(∀x,BN r x\/Fd x->BN Fr x):=by
 induction m with
 |nil=>intro i δ Fr g τ h C k b;simp[Xz]at b
 |cons y m ih=>
  intro i δ Fr g τ h C k b;cases i with
  |nil=>simp[Gk]at k
  |cons x i=>
   simp only[Gk,AAT]at k;obtain⟨M,R⟩:=Aq k.1 C;cases m with
   |nil=>
    cases i with
    |cons=>simp[Gk]at k
    |nil=>
     simp only[Xz]at b;split at b
     . rename_i f rs z;split at b
       . rename_i Q o;simp only[AAU,AAj]at b;obtain⟨rfl,rfl⟩:=b;obtain⟨vs,N,H,I⟩:Nz δ (.cl f rs) (DL δ y):=by
          cases y with
          |t s=>exact(h.leaf z rfl).2.2
          |c c0=>obtain⟨D0,W⟩:=M;simp only[ar]at z;subst z;simp[I5]at W
         obtain⟨X,Z⟩:=rY h rs H I o;refine⟨δ,Fr,[.lf (.YA f Q) (DL δ y)],λ_=>False,h,rfl,λ_=>rfl,ak,by simp[R],CZ (λD L=> ?_),λ_ _ _ h=>h,λx d=>d.elim id False.elim⟩;simp only[AAw]at L;subst L;exact .lf _ _ _ ⟨vs,N,X,Z⟩ (λ_ h=>h)
       . cases b
     . cases b
   |cons y2 m=>
    simp only[Xz]at b;split at b
    . rename_i v τ1 E;split at b
      . rename_i l τ2 F;simp only[AAU,AAj]at b;obtain⟨rfl,rfl⟩:=b;obtain⟨δ1,F1,D,Ff,e,P,O,Vf⟩:=h.tk M E;subst P;subst O;obtain⟨J,K,n,Fd,m1,m2,m3,m4,m5,m6,m7,q⟩:=ih e.st (λs=>(C s).trans (e.A0 s).symm) k.2 F;have p:∀x,Ff x->¬Fd x:=λx u T=>(by obtain⟨t,b⟩:=q x (.inr T);exact e.NK t x b u);have B:Ok w (λx=>S x\/BN K x) D Ff:=e.ok.mono (λ_ _=>rfl) (λ_ _=>rfl) (λ_ h=>.inl h) (λx d V=>V.elim (e.ok.FQ x d) (λU=>by obtain⟨t,b⟩:=q x (.inl U);exact e.NK t x b d));refine⟨J,K,D::n,λx=>Ff x\/Fd x,m1,m2,λs=>(m3 s).trans (e.A0 s),by simp[m4],am,⟨Ff,Fd,B,m6,p,λx=>Iff.rfl⟩,?_,?_⟩
        . rintro s x d (u|u)
          . obtain⟨t,b⟩:=q x (.inl ⟨s,d⟩);exact e.NK t x b u
          grind
        . rintro x (d|d|d)
          . exact e.own x (.inl (q x (.inl d)))
          . exact e.own x (.inr d)
          . exact e.own x (.inl (q x (.inr d)))
      . cases b
    . cases b
theorem rX(hG:X4 w0 F R)(h:Rel G n w0 F R a w σ)(hio:io.op= .call f args m)(Lt:Kp P o.op f args m=true)(hd:I9 G a o io.dst)(C4:EE P G io K σ)(Q:Exit->Act->World->Prop):o.wp P a w (λa' w'=>∃σ',Rel G n w0 F R a' w' σ'/\K σ') Q:=by
 obtain⟨S,δ,Fr,hn,X,U,rfl,M,Er,L⟩:=h;have NM:=hG.now Er;obtain⟨c,fn,ho,Ls,J,hfb,qI,hm3,HT⟩:=Mb Lt;unfold EE at C4;rw[hio]at C4;simp only at C4;split at C4
 . rename_i aZ9 τ q;obtain⟨res,I2,y⟩:=C4;split at y
   . rename_i v k;unfold Oper.wp;rw[VP ho Ls J hfb qI,Oper.upon_enter]
     match m,hm3,q,k with
     |1,_,q,k=>
      simp only[G6]at q;obtain⟨z,u,Ds,Fd,H,ZA,Kr,GP,Vf,jE,N,C⟩:=lB _ M U HT q;subst ZA;have B:∀x,Fd x->x<w.heap.size:=λx g=>(by obtain⟨t,ht⟩:=C x (.inr g);exact(M.ok t).lt x ht);have O:=I2 w (λx=>S x\/Fd x) Ds (λ_=>False) (NM.mono λ_ h=>.inl h) GP (BK.2 (CZ jE)) (λb j=>j.elim (L b) (B b));rw[Vf]at O;refine O.mono ?_;rintro e w' ⟨r,os,S',F',rfl,U0,hoe,hoa,Cq,p,NL,wW,Lr,Y6⟩;obtain⟨I,Fb,W,_,_,SB⟩:=BK.1 Cq;obtain⟨D,k1,k2,k3,k4⟩:=TU (δ:=z) W;simp only[Q9,AAU]at k;have hfa:∀x,I x->w.heap.size<=x:=λx g=>(Y6 x ((SB x).2 (.inl g))).resolve_left id;have hst1':St G w (λx=>S x\/Fd x) z u:=H.world (λ_ _=>rfl) (λ_ _ _=>rfl) (λ_ h=>.inl h) (λs x g V=>V.elim ((H.ok s).FQ x g) (N s x g));have hnx1:Nx w0 F R w (λx=>S x\/Fd x) (BN u):=Er.trans (Nx.KI (λx g=>C x g) B);simp only;rw[<- k2];refine Mo (S2:=λx=>S' x\/I x) hst1' hn X (λs=>(U s).trans (Kr s).symm) hd (by rw[k1,U0];exact k) (λb j=>p.block b j id) (λb j=>j.elim (L b) (B b)) (λb j=>.inl (NL b j)) ?_ ?_ k3 (λ_ h=>h.elim) k4 hnx1 p.os p.tape p.output p.size y
      . rintro b (j|j)
        . rcases wW b j with i|i|i
          . exact .inl i
          . exact i.elim
          . exact .inr i
        . exact .inr (hfa b j)
      . rintro b (j|j)
        . exact Lr b j
        . exact W.lt b j
     |0,_,q,k=>
      simp only[G6]at q;split at q
      . rename_i l hr;simp only[AAU,AAj]at q;obtain⟨rfl,rfl⟩:=q;simp only[Q9]at k;split at k
        . rename_i F8;exact borrow NM M Er L hn X U hd HT hr I2 (Y0 F8) (AAW k) y
        . cases k
      . cases q
     |3,_,q,k=>
      simp only[G6]at q;obtain⟨z,u,Ds,Fd,H,ZA,Kr,GP,Vf,jE,N,C⟩:=p7 _ M U HT q;subst ZA;simp only[Q9]at k;split at k
      . rename_i qJ;obtain rfl:=AAW k;have O:=I2 w S Ds Fd NM GP (BK.2 jE) L;rw[Vf]at O;refine O.mono ?_;rintro e w' ⟨r,os,S',F',rfl,U0,hoe,hoa,Cq,p,NL,wW,Lr,Y6⟩;obtain⟨I,Fb,W,_,_,SB⟩:=BK.1 Cq;have S0:∀x,I x->Fd x\/w.heap.size<=x:=λx g=>Y6 x ((SB x).2 (.inl g));have Z:∀s x,u s x->x<w.heap.size:=λs x g=>(H.ok s).lt x g;have xC:∀b,S b->w'.heap[b]? =w.heap[b]? :=λb j=>p.block b (L b j) λJ=>(by obtain⟨t,ht⟩:=C b (.inr J);exact(M.ok t).FQ b ht j);have tX:∀s x,u s x->w'.heap[x]? =w.heap[x]? :=λs x g=>p.block x (Z s x g) (N s x g);have QC:∀s x,u s x->¬S' x:=by
         intro s x g h';rcases wW x h' with i|i|i
         . exact(H.ok s).FQ x g i
         . exact N s x g i
         . have:=Z s x g;omega
        have wZ:∀s x,u s x->¬I x:=by
         intro s x g h';rcases S0 x h' with i|i
         . exact N s x g i
         . have:=Z s x g;omega
        have Hf:∀E:Nat->Nat->Prop,(∀x,BN E x->BN u x\/I x)->Nx w0 F R w' S' (BN E):=by
         intro E Y7;refine Er.trans ⟨p.os,p.tape,p.output,p.size,λb j LM=>p.block b j λJ=>LM (C b (.inr J)),NL,λb j=>(wW b j).imp id (Or.imp (λh=>C b (.inr h)) id),λ_=>Lr,λx g=> ?_⟩;rcases Y7 x g with i|i
         . exact .inl (C x (.inl i))
         . exact(S0 x i).imp (λh=>C x (.inr h)) id
        have TV:Rd z a:=λs=>(U s).trans (Kr s).symm;simp only;cases Lu:io.dst with
        |none=>
         rw[Lu]at hd y;have h0:o.dst=none:=hd;refine⟨_,⟨S',z,u,?_,?_,?_,rfl,H.world xC tX NL QC,Hf u (λx g=>.inl g),Lr⟩,y⟩
         . rw[h0];exact hn
         . rw[h0];exact X
         . rw[h0];exact TV
        |some d=>
         rw[Lu]at hd y;simp only[C2]at y;split at y
         . rename_i τ' N9;obtain⟨i,h2,h3,h4⟩:=hd;rw[<- U0]at N9;obtain⟨δ',E,LS,KJ,EJ,ZE⟩:=H.wr h2 h3 xC tX NL QC W wZ (Yq W (by rw[U0];exact qJ)) N9;refine⟨τ',⟨S',δ',E,?_,?_,?_,KJ,LS,Hf E ZE,Lr⟩,y⟩
           . rw[i];simpa[Act.put]using hn
           . rw[i];simpa[Act.put]using X
           . intro s;rw[i,Ja a d.d r.A0 h4 s,EJ s];split
             . rfl
             . exact TV s
         . exact y.elim
      . cases k
     |4,_,q,k=>
      simp only[G6]at q;obtain⟨z,u,Ds,Fd,H,ZA,Kr,GP,Vf,jE,N,C⟩:=bB _ M U HT q;subst ZA;simp only[Q9]at k;split at k
      . rename_i qJ;obtain rfl:=AAW k;have Z:∀s x,u s x->x<w.heap.size:=λs x g=>(H.ok s).lt x g;have O:=I2 w (λx=>S x\/BN u x) Ds Fd (NM.mono λ_ h=>.inl h) GP (BK.2 jE) (λb j=>j.elim (L b) (λ⟨s,V⟩=>Z s b V));rw[Vf]at O;refine O.mono ?_;rintro e w' ⟨r,os,S',F',rfl,U0,hoe,hoa,Cq,p,NL,wW,Lr,Y6⟩;obtain⟨I,Fb,hra0,_,_,SB⟩:=BK.1 Cq;have S0:∀x,I x->Fd x\/w.heap.size<=x:=λx g=>Y6 x ((SB x).2 (.inl g));have T:∀x,Fd x->¬S x:=λx J V=>(by obtain⟨t,ht⟩:=C x (.inr J);exact(M.ok t).FQ x ht V);have W:Ok w' S r I:=UM hra0 (by rw[U0];exact qJ) (λx g V=>(S0 x g).elim (λi=>T x i V) (λi=>by have:=L x V;omega));have xC:∀b,S b->w'.heap[b]? =w.heap[b]? :=λb j=>p.block b (L b j) λJ=>T b J j;have tX:∀s x,u s x->w'.heap[x]? =w.heap[x]? :=λs x g=>p.block x (Z s x g) (N s x g);have QC:∀s x,u s x->¬S x:=λs x g=>(H.ok s).FQ x g;have Wf:∀b,S b->b<w'.heap.size:=λb j=>ABP (L b j) p.size;have wZ:∀s x,u s x->¬I x:=by
         intro s x g h';rcases S0 x h' with i|i
         . exact N s x g i
         . have:=Z s x g;omega
        have Hf:∀E:Nat->Nat->Prop,(∀x,BN E x->BN u x\/I x)->Nx w0 F R w' S (BN E):=by
         intro E Y7;refine Er.trans ⟨p.os,p.tape,p.output,p.size,λb j LM=>p.block b j λJ=>LM (C b (.inr J)),λ_ h=>h,λ_ h=>.inl h,λ_=>Wf,λx g=> ?_⟩;rcases Y7 x g with i|i
         . exact .inl (C x (.inl i))
         . exact(S0 x i).imp (λh=>C x (.inr h)) id
        have TV:Rd z a:=λs=>(U s).trans (Kr s).symm;simp only;cases Lu:io.dst with
        |none=>
         rw[Lu]at hd y;have h0:o.dst=none:=hd;refine⟨_,⟨S,z,u,?_,?_,?_,rfl,H.world xC tX (λ_ h=>h) QC,Hf u (λx g=>.inl g),Wf⟩,y⟩
         . rw[h0];exact hn
         . rw[h0];exact X
         . rw[h0];exact TV
        |some d=>
         rw[Lu]at hd y;simp only[C2]at y;split at y
         . rename_i τ' N9;obtain⟨i,h2,h3,h4⟩:=hd;rw[<- U0]at N9;obtain⟨δ',E,LS,KJ,EJ,ZE⟩:=H.wr h2 h3 xC tX (λ_ h=>h) QC W wZ (UL W (by rw[U0];exact qJ)) N9;refine⟨τ',⟨S,δ',E,?_,?_,?_,KJ,LS,Hf E ZE,Wf⟩,y⟩
           . rw[i];simpa[Act.put]using hn
           . rw[i];simpa[Act.put]using X
           . intro s;rw[i,Ja a d.d r.A0 h4 s,EJ s];split
             . rfl
             . exact TV s
         . exact y.elim
      . cases k
     |2,_,q,k=>
      simp only[G6]at q;split at q
      . rename_i l hr;simp only[AAU,AAj]at q;obtain⟨rfl,rfl⟩:=q;simp only[Q9]at k;split at k
        . rename_i F8;exact borrow NM M Er L hn X U hd HT hr I2 F8 (AAW k) y
        . cases k
      . cases q
   . exact y.elim
 . exact C4.elim
theorem mS(hG:X4 w0 U F)(h:Rel G n w0 U F a w σ)(hio:io.op= .call f args 4)(Lt:Kp P o.op f args 4=true)(hd:I9 G a o io.dst)(C:EE P G io K σ){rr kb:Nat}(L:∀J τ,G6 G 4 args σ=some (J,τ)->∃rows,τ rr= .own true kb rows)(Q:Exit->Act->World->Prop):o.wp P a w (λa' w'=>(∃σ',Rel G n w0 U F a' w' σ'/\K σ')/\(∀b,a.tmps.getD rr undef= .pointer (some ⟨b,0,none⟩)->w'.heap[b]? =w.heap[b]?)/\∃u,a'=a.put o.dst u) Q:=by
 obtain⟨S,δ,Fr,hn,EF,ha,rfl,CX,Er,O⟩:=h;have NM:=hG.now Er;obtain⟨c,fn,ho,Ls,B,hfb,qI,hm3,HT⟩:=Mb Lt;unfold EE at C;rw[hio]at C;simp only at C;split at C
 . rename_i J τ Z;obtain⟨res,I2,p⟩:=C;split at p
   . rename_i v W;unfold Oper.wp;rw[VP ho Ls B hfb qI,Oper.upon_enter];have M:=Z;simp only[G6]at Z;obtain⟨k,m,Ds,Fd,I,ZA,Kr,GP,Vf,jE,Dd,R⟩:=bB _ CX ha HT Z;subst ZA;simp only[Q9]at W;split at W
     . rename_i qJ;obtain rfl:=AAW W;have ZC:∀s x,m s x->x<w.heap.size:=λs x i=>(I.ok s).lt x i;have GU:=I2 w (λx=>S x\/BN m x) Ds Fd (NM.mono λ_ h=>.inl h) GP (BK.2 jE) (λb l=>l.elim (O b) (λ⟨s,V⟩=>ZC s b V));rw[Vf]at GU;refine GU.mono ?_;rintro e w' ⟨r,os,S',F',rfl,OO,hoe,hoa,Cq,q,NL,wW,Lr,Y6⟩;obtain⟨T,Fb,N,_,_,SB⟩:=BK.1 Cq;have z:∀x,T x->Fd x\/w.heap.size<=x:=λx i=>Y6 x ((SB x).2 (.inl i));have y:∀x,Fd x->¬S x:=λx B V=>(by obtain⟨t,ht⟩:=R x (.inr B);exact(CX.ok t).FQ x ht V);have jO:Ok w' S r T:=UM N (by rw[OO];exact qJ) (λx i V=>(z x i).elim (λg=>y x g V) (λg=>by have:=O x V;omega));have xC:∀b,S b->w'.heap[b]? =w.heap[b]? :=λb l=>q.block b (O b l) λB=>y b B l;have tX:∀s x,m s x->w'.heap[x]? =w.heap[x]? :=λs x i=>q.block x (ZC s x i) (Dd s x i);have QC:∀s x,m s x->¬S x:=λs x i=>(I.ok s).FQ x i;have Wf:∀b,S b->b<w'.heap.size:=λb l=>ABP (O b l) q.size;have wZ:∀s x,m s x->¬T x:=by
        intro s x i h';rcases z x h' with g|g
        . exact Dd s x i g
        . have:=ZC s x i;omega
       have Hf:∀D:Nat->Nat->Prop,(∀x,BN D x->BN m x\/T x)->Nx w0 U F w' S (BN D):=by
        intro D Y7;refine Er.trans ⟨q.os,q.tape,q.output,q.size,λb l LM=>q.block b l λB=>LM (R b (.inr B)),λ_ h=>h,λ_ h=>.inl h,λ_=>Wf,λx i=> ?_⟩;rcases Y7 x i with g|g
        . exact .inl (R x (.inl g))
        . exact(z x g).imp (λh=>R x (.inr h)) id
       have TV:Rd k a:=λs=>(ha s).trans (Kr s).symm;have Jk:∀b,a.tmps.getD rr undef= .pointer (some ⟨b,0,none⟩)->w'.heap[b]? =w.heap[b]? :=by
        intro b l;obtain⟨rows,hrr⟩:=L _ _ M;have H:=I.ok rr;have g:(k rr).A0= .pointer (some ⟨b,0,none⟩):=(by rw[<- TV rr];exact l);have j:(k rr).er= .own true kb rows:=hrr;cases hδ:k rr with
        |lf x v=>rw[hδ]at j H;simp at j;subst j;cases H with|lf _ _ _ hl _=>simp[Hh]at hl
        |agg=>rw[hδ]at j;simp at j
        |BZ=>rw[hδ]at j;simp at j
        |own hh bx k0 Au=>
         rw[hδ]at g j H;simp only[FO,AV.own.injEq]at j;obtain⟨rfl,rfl,_⟩:=j;simp only[Ma]at g;generalize hF1:m rr=Fx at H;generalize hvv:hh=tW at H;cases H with
         |own _ _ _ b' c arr E Fs _ lR hk Ee Md lL hr YD B0 LR hF=>
          rw[hvv]at g;simp only[KW,AAy,Value.pointer.injEq,AAU,Addr.mk.injEq,and_true]at g;have e:b'=b:=by first|exact g|exact g.1
          subst e;exact tX rr b' (by rw[hF1];first|exact(hF b').2 (.inl rfl)|exact LR|simp[hF])
       simp only;cases Lu:io.dst with
       |none=>
        rw[Lu]at hd p;have h0:o.dst=none:=hd;refine⟨⟨_,⟨S,k,m,?_,?_,?_,rfl,I.world xC tX (λ_ h=>h) QC,Hf m (λx i=>.inl i),Wf⟩,p⟩,Jk,_,rfl⟩
        . rw[h0];exact hn
        . rw[h0];exact EF
        . rw[h0];exact TV
       |some d=>
        rw[Lu]at hd p;simp only[C2]at p;split at p
        . rename_i τ' N9;obtain⟨g,j,h3,h4⟩:=hd;rw[<- OO]at N9;obtain⟨δ',D,LS,KJ,EJ,ZE⟩:=I.wr j h3 xC tX (λ_ h=>h) QC jO wZ (UL jO (by rw[OO];exact qJ)) N9;refine⟨⟨τ',⟨S,δ',D,?_,?_,?_,KJ,LS,Hf D ZE,Wf⟩,p⟩,Jk,_,rfl⟩
          . rw[g];simpa[Act.put]using hn
          . rw[g];simpa[Act.put]using EF
          . intro s;rw[g,Ja a d.d r.A0 h4 s,EJ s];split
            . rfl
            . exact TV s
        . exact p.elim
     . cases W
   . exact p.elim
 . exact C.elim
end
variable{p:i4}{c:m8}{ou q:AV}{outs1:i5}{pre:j7}
section
variable{w w':ja}{S S':iu}{G:Gi}{δ:ji}{Fr:iy}{P:iz}
def D5(G:Gi)(n:Nat)(o:ABu Tmp)(d:ABu D3):Bool:=
 match o,d with
 |none,none=>true
 |some t,some d=>t==d.d&&d.kl==G.Pm d.d&&d.rs==G.HA d.d&&decide (d.d<n)
 |_,_=>false
theorem Ec(h:D5 G n o.dst dst=true)(hn:a.tmps.size=n):I9 G a o dst:=by
 unfold D5 at h;split at h
 . rename_i b;exact b
 . rename_i t dst b;simp only[AAT,AAh,AAl]at h;obtain⟨⟨⟨rfl,c⟩,e⟩,f⟩:=h;exact⟨b,c,e,ah⟩
 . cases h
theorem V3(h:St G w S δ Fr)(c:plc (λs=>(δ s).er) x=some (r,p))(n:sub (δ r).er p=some (.own b k rows)):
 ∃e,Ax (δ r) p=some (.own (DL δ x) b k e)/\(DV.own (DL δ x) b k e).er= .own b k rows:=by
 obtain⟨D,g,f⟩:=ED (h.ok r).Lh n;have j:∃v e,D= .own v b k e:=by
  have:=(h.ok r).Lh.Ax g;cases D with
  |own v bx o d=>simp_all
  |lf a v=>cases this with|lf _ _ i=>simp at f;subst f;simp[DS]at i
  |agg cs=>simp at f
  |BZ cs=>simp at f
 obtain⟨v,e,rfl⟩:=j;unfold plc at c;split at c
 . rename_i s;split at c
   . rename_i t p' m;simp only[AAU,AAj]at c;obtain⟨rfl,rfl⟩:=c;obtain⟨q,_,l⟩:=h.leaf m rfl;obtain⟨bx,o,d,i⟩:=l;rw[g]at i;simp only[AAU,DV.own.injEq]at i;obtain⟨rfl,rfl,rfl,rfl⟩:=i;exact⟨_,g,f⟩
   . simp only[AAU,AAj]at c;obtain⟨rfl,rfl⟩:=c;simp only[Ax,AAU]at g;refine⟨e,?_,?_⟩
     . simp[Ax,DL,g]
     simp_all
   . cases c
 . cases c
theorem Vj(h:Ix d.er=true):Dr δ d:=by
 cases d with
 |own=>exact .own _ _ _ _
 |lf a v=>refine .lf _ _ ?_;simp only[Eb]at h;cases a<;>simp_all [Ix,Nz]
 |agg=>simp[Ix]at h
 |BZ=>simp[Ix]at h
theorem O2(h:Ix out=true):GL L out=true:=by cases out<;>simp_all [Ix]
theorem Zg(h:Ok w S d F):∃D,D.er=Tl d.er/\D.A0=d.A0/\Ok w S D (λ_=>False):=by
 have dead:Tl d.er= .dead->∃D,D.er=Tl d.er/\D.A0=d.A0/\Ok w S D (λ_=>False):=λe=>⟨.lf .dead d.A0,by simp[e],ak,.lf _ _ _ trivial (λ_ h=>h)⟩;cases h with
 |lf a v _ ha _=>
  cases a with
  |sc u=>exact⟨.lf (.sc u) v,by simp[Tl],ak,.lf _ _ _ ha (λ_ h=>h)⟩
  |sl e k rows=>
   refine⟨.lf (.sl false k rows) v,by simp[Tl],ak,.lf _ _ _ ?_ (λ_ h=>h)⟩;have f:Fz w S (.sl e k rows) v:=ha;show Fz w S (.sl false k rows) v;cases f with
   |nil x k a c hx=>exact .nil _ _ _ _ ak
   |sl x k rows b off c vs hx SE hS hk hc hr=>exact .sl _ _ _ b off c vs ak SE hS hk hc hr
  |_=>exact dead (by simp[Tl])
 |nil=>exact dead (by simp[Tl])
 |own=>exact dead (by simp[Tl])
 |agg=>exact dead (by simp[Tl])
 |BZ=>exact dead (by simp[Tl])
theorem Wt(h:∀(i:Nat) d,l[i]? =some d->∃F,Ok w S d F):∃a:List DV,a.map DV.er=(l.map DV.er).map Tl/\a.map DV.A0=l.map DV.A0/\∀D∈a,Ok w S D (λ_=>False):=by
 induction l with
 |nil=>simp_all
 |cons d l ih=>obtain⟨F,b⟩:=h 0 d rfl;obtain⟨D,g,j,k⟩:=Zg b;obtain⟨a,c,g2,f⟩:=ih (λi e hi=>h (i+1) e hi);refine⟨D::a,aS,aS,λe ds=> ?_⟩;grind
theorem RX(h:Ok w S d F)(a:d.er= .agg outs2):∃ds,d= .agg ds/\ds.map DV.er=outs2:=by
 have:=h.Lh;cases d with
 |agg ds=>simp_all
 |lf c v=>cases this with|lf _ _ hl=>simp at a;subst a;simp[DS]at hl
 |own=>simp at a
 |BZ=>simp at a
theorem rdF_sound(h:St G w S δ Fr)(p:YO x)(e:rdF (λs=>(δ s).er) x=some out):∃D,D.er=out/\D.A0=DL δ x/\Ok w S D (λ_=>False):=by
 cases x with
 |t s=>
  simp only[rdF]at e;cases hs:(δ s).er with
  |agg cs=>
   rw[hs]at e;simp only[AAU]at e;subst e;obtain⟨ds,hd,u⟩:=RX (h.ok s) hs;have l:=h.ok s;rw[hd]at l;cases l with
   |agg _ Fs _ h1 h2 h3 h4=>obtain⟨n,r,g2,o⟩:=Wt (λi d hi=>⟨_,h1 i d hi⟩);exact⟨.agg n,am,by simp[DL,hd,g2],CN.2 (CZ o)⟩
  |_=>rw[hs]at e;simp only[AAU]at e;subst e;rw[<- hs];exact Zg (h.ok s)
 |c c=>
  obtain⟨g,j⟩:=p;obtain⟨f,m,q,_⟩:=JT (w:=w) (S:=S) (δ:=δ) c g j;simp only[rdF]at e;split at e
  . rename_i v;simp only[AAU]at e;subst e;exact⟨g,f,by simp[DL,j],m⟩
  . rename_i k _;simp only[AAU]at e;subst e;refine⟨.lf (.sl false k []) g.A0,ak,by simp[DL,j],.lf _ _ _ ?_ (λ_ h=>h)⟩
    have:=m;cases g with
    |own v bx k' rows=>
     simp only[FO,AV.own.injEq,List.map_eq_nil_iff]at f;obtain⟨rfl,rfl,rfl⟩:=f;cases this with
     |nil=>rw[Ma];exact Fz.nil false k' none 0 ak
     |own _ _ _ out c arr E Fs _ hb hk Ee Md hv jM ON B0 LR tF=>simp_all
    |lf a v=>simp only[Eb]at f;subst f;cases this with|lf _ _ _ ha _=>exact ha.elim
    |agg=>simp at f
    |BZ=>simp at f
  . cases e
theorem Tm(h:St G w S δ Fr)(m:Rd δ a)(i:j7):∀{e:lz}{c:i5},Gk e i=true->OD (λs=>(δ s).er) i=some c->
 ∃g:List DV,g.map DV.er=c/\g.map DV.A0=e.map a.eval/\∀D∈g,Ok w S D (λ_=>False):=by
 induction i with
 |nil=>
  intro e c f d;cases e with
  |cons=>simp[Gk]at f
  |nil=>simp only[OD,AAU]at d;simp_all
 |cons y i ih=>
  intro e c f d;cases e with
  |nil=>simp[Gk]at f
  |cons x e=>
   simp only[Gk,AAT]at f;obtain⟨n,o⟩:=Aq f.1 m;simp only[OD]at d;split at d
   . rename_i b l j k;simp only[AAU]at d;subst d;obtain⟨D,p,q,r⟩:=rdF_sound h n j;obtain⟨g,t,u,v⟩:=ih f.2 k;refine⟨D::g,aS,am,?_⟩;simp_all
   . cases d
theorem vZ(c:∀d∈l,Ok w S d (λ_=>False))(b:Ok w S D F)(e:∀d∈row,Ok w S d (λ_=>False)):KT w S (l++D::row) F:=by have a:KT w S (D::row) F:=⟨F,λ_=>False,b,CZ e,λ_ _ h=>h,λx=>ak⟩;exact(Mn (CZ c) a (λ_ h=>h.elim)).congr λx=>ak
theorem OkL_at{r:jl}(h:KT w S (l++D::r) F):∃a,Ok w S D a/\∀x,a x->F x:=by obtain⟨b,c,f,g,d⟩:=Ki.1 h;exact⟨b l.length,c _ D ak,λx e=>(d x).2 ⟨_,e⟩⟩
theorem uO(h:St G w S δ Fr)(hx:YO x)(f:Qt (λs=>(δ s).er) x c=some (r,p))(X:sub (δ r).er p=some (.own b k rows)):
 ∃v e,Ax (δ r) p=some (.own v b k e)/\(DV.own v b k e).er= .own b k rows/\∀(H:iu),Ok w S (.own v b k e) H->
  ∃D,D.er=Uf (λs=>(δ s).er) x c (.own b k rows)/\D.A0=DL δ x/\Ok w S D H/\∀(w':ja)(S' B:iu)(z:DV)(o:AV),z.A0=D.A0->QW c z.er=some o->Ok w' S' z B->∃(o':DV)(F'':iu),o'.er=o/\o'.A0=v/\Ok w' S' o' F''/\∀y,F'' y->B y:=by
 cases c with
 |none=>obtain⟨e,E,M⟩:=V3 h (x:=x) f X;refine⟨_,e,E,M,λH K=>⟨_,M,ak,K,?_⟩⟩;intro w' S' B z o O g J;simp only[QW,AAU]at g;exact⟨z,B,g,am,J,λ_ h=>h⟩
 |some j=>
  cases x with
  |c=>simp[Qt]at f
  |t s=>
   simp only[Qt]at f;cases hse:(δ s).er with
   |agg cs=>
    rw[hse]at f;simp only at f;obtain⟨ds,hd,W⟩:=RX (h.ok s) hse;have m:=h.ok s;rw[hd]at m;cases m with
    |agg _ Fs _ g1 g2 g3 g4=>
     cases hdj:ds[j]? with
     |none=>grind
     |some dj=>
      have Q:cs[j]? =some dj.er:=(by rw[<- W];simp[hdj]);rw[Q]at f
      try simp only at f
      obtain⟨v,e,e1,T,e3⟩:∃v e,Ax (δ r) p=some (.own v b k e)/\(DV.own v b k e).er= .own b k rows/\dj.A0=v:=by
       obtain⟨D,N,C⟩:=ED (h.ok r).Lh X;have Eu:∃v e,D= .own v b k e:=by
        have:=(h.ok r).Lh.Ax N;cases D with
        |own v bx k' n=>simp_all
        |lf a v=>cases this with|lf _ _ U=>simp at C;subst C;simp[DS]at U
        |agg cs=>simp at C
        |BZ cs=>simp at C
       obtain⟨v,e,rfl⟩:=Eu;refine⟨v,e,N,C,?_⟩;split at f
       . rename_i r' p' l;simp only[AAU,AAU,AAj]at f l;obtain⟨rfl,rfl⟩:=f;have I:=h.al s;rw[hd]at I;cases I with
         |agg _ I=>
          have E:=I j dj hdj;have M:=g1 j dj hdj;cases dj with
          |lf a u=>
           simp only[Eb]at l;subst l;cases E with
           |lf _ _ E=>obtain⟨bx,k',n,U⟩:=E;simp_all
          |own=>simp at l
          |agg=>simp at l
          |BZ=>simp at l
       . rename_i l;simp only[AAU,AAj]at f;obtain⟨rfl,rfl⟩:=f;simp only[hd,Ax,hdj,AAU]at N;simp_all
       . cases f
      refine⟨v,e,e1,T,λH K=> ?_⟩;obtain⟨q,k1,Z,k3⟩:=Wt (λi d hi=>⟨_,g1 i d hi⟩);have hjl:j<ds.length:=(AAV.1 hdj).1;have V:q.length=ds.length:=(by have:=congrArg List.length Z;simpa using this);have tV:q.set j (.own v b k e)=q.take j++ .own v b k e::q.drop (j+1):=List.set_eq_take_append_cons_drop.trans am;refine⟨.agg (q.set j (.own v b k e)),?_,?_,?_,?_⟩
      . simp only[Iy,Uf,ar,hse,ABI,k1,T,W]
      . simp only[MZ,DL,hd,ABI,Z,Ma];congr 2;rw[<- e3];apply ABj;grind
      . rw[tV];exact CN.2 (vZ (λd L=>k3 d (ABp L)) K (λd L=>k3 d (List.mem_of_mem_drop L)))
      . intro w' S' B z o O g J;simp only[QW]at g;split at g
        . rename_i os l;obtain⟨F,rfl,R⟩:=RX J l;rw[<- R]at g;simp only[AAf]at g;cases hoj:F[j]? with
          |none=>simp_all
          |some oj=>
           simp only[hoj,AA1,AAU]at g;cases J with
           |agg _ Fs' _ m1 m2 m3 m4=>
            refine⟨oj,Fs' j,g,?_,m1 j oj hoj,λy hy=>(m4 y).2 ⟨j,hy⟩⟩;simp only[MZ,Value.agg.injEq]at O;have P:F.map DV.A0=(q.set j (.own v b k e)).map DV.A0:=by have:=congrArg Array.toList O;simpa using this
            have:=congrArg (·[j]?) P;simp only[AAf,hoj,AA1,List.getElem?_set]at this;simp_all
        . cases g
   |_=>simp_all
theorem lnd_core{d:ABu D3}(hn:a.tmps.size=n)(EF:a.defers=[])(ha:Rd δ a)(u:St G w S δ Fr)(Er:Nx w0 F R w S (BN Fr))(DA:∀b,S b->b<w.heap.size)(hd:I9 G a o d)(hD:Ax (δ r) p=some (.own v b k ds))(H:∀l,Ok w S (.own v b k ds) l->∃(y Ds2:jl)(Dx:DV),y.length=outs1.length/\
  (∀(w':ja)(S' F':iu)(D:DV)(o:AV),D.A0=Dx.A0->QW c D.er=some o->Ok w' S' D F'->∃(o':DV)(F'':iu),o'.er=o/\o'.A0=v/\Ok w' S' o' F''/\∀x,F'' x->F' x)/\
  Calls P f vs.toArray w λe w'=>∃(r:DV)(os:jl)(S' F':iu),e= .returned r.A0/\r.er=res/\os.map DV.er=outs1++out::outs2/\os.map DV.A0=(y++Dx::Ds2).map DV.A0/\
   Ok w' S' (.BZ (r::os)) F'/\Ext w w' l/\(∀b,S b->S' b)/\(∀b,S' b->S b\/l b\/w.heap.size<=b)/\(∀b,S' b->b<w'.heap.size)/\∀x,F' x->l x\/w.heap.size<=x)(hba:QW c out=some ou)(OX:Ix ou=true)(HT:clean res=true)(Hp:put (δ r).er p ou=some q)(V:C2 d res K (Dn (GJ G (Tf ou b k p) r λs=>(δ s).er) r q))(Q:Exit->Act->World->Prop):
 o.upon P a (λa' w'=>∃σ',Rel G n w0 F R a' w' σ'/\K σ') Q (.ok (.enter f vs.toArray) w):=by
 rw[Oper.upon_enter];obtain⟨l,XO,CU,N8⟩:=(u.ok r).replace p hD;obtain⟨y,Ds2,Dx,hl1,hbk,GU⟩:=H l XO;refine GU.mono ?_;rintro e w' ⟨rD,os,S',F',rfl,OO,hoe,hoa,Cq,U0,NL,wW,Lr,Y6⟩;obtain⟨Fa,Fb,M,hosk,hdab,SB⟩:=BK.1 Cq;obtain⟨os1,oX,os2,rfl,_,hXe,hXa⟩:∃os1 oX os2,os=os1++oX::os2/\os1.length=y.length/\oX.er=out/\oX.A0=Dx.A0:=by
  have hlen:os.length=y.length+(Ds2.length+1):=by have:=congrArg List.length hoa;simpa using this
  have E:y.length<os.length:=ah
  refine⟨os.take y.length,os[y.length],os.drop (y.length+1),?_,an,?_,?_⟩
  . rw[<- ABQ E,ABS]
  . have:=congrArg (·[y.length]?) hoe;simp only[AAf,AAZ E,AA1]at this;rw[AAx (by simp[hl1])]at this;simpa[hl1]using this
  . have:=congrArg (·[y.length]?) hoa;simp only[AAf,AAZ E,AA1]at this;simpa using this
 obtain⟨FX,hoX,hFX⟩:=OkL_at hosk;obtain⟨D,Fc,O,B,hoD,hFcX⟩:=hbk w' S' FX oX ou hXa (by rw[hXe];exact hba) hoX;have E:∀s x,Fr s x->x<w.heap.size:=λs x g=>(u.ok s).lt x g;have I:∀x,Fc x->Fb x:=λx g=>hFX x (hFcX x g);have U:∀x,Fc x->l x\/w.heap.size<=x:=λx g=>Y6 x ((SB x).2 (.inr (I x g)));have hFa:∀x,Fa x->l x\/w.heap.size<=x:=λx g=>Y6 x ((SB x).2 (.inl g));have xC:∀b,S b->w'.heap[b]? =w.heap[b]? :=λb j=>U0.block b (DA b j) (λhf=>XO.FQ b hf j);have tX:∀s b,Fr s b->¬l b->w'.heap[b]? =w.heap[b]? :=λs b j S0=>U0.block b (E s b j) S0;have J:∀s b,Fr s b->¬l b->¬S' b:=by
  intro s b j S0 h';rcases wW b h' with i|i|i
  . exact(u.ok s).FQ b j i
  . exact S0 i
  . have:=E s b j;omega
 have UU:∀s,s≠r->∀x,Fr s x->¬l x:=λs m x g hf=>m (u.NK s r x g (CU x hf));obtain⟨tD,T,xB,hokt,KK,EJ⟩:=N8 w' S' D Fc (by rw[B];simp) hoD (λx g hr=>(U x g).elim id λqK=>absurd (E r x hr) ah) xC (λb j S0=>tX r b j S0) NL (λb j S0=>J r b j S0);have hte:tD.er=q:=by obtain⟨t',i,z⟩:=Ht (d:=δ r) (p:=p) (a:=q) D (u.ok r).Lh (by rw[O];exact Hp);rw[xB]at i;obtain rfl:=AAW i;exact z
 have Z:∀s,s≠r->∀x,T x->¬Fr s x:=by
  intro s m x g hy;rcases(KK x).1 g with⟨i,_⟩|i
  . exact m (u.NK s r x hy i)
  . rcases U x i with z|z
    . exact UU s m x hy z
    . have:=E s x hy;omega
 have lR:Ix D.er=true:=by rw[O];exact OX
 have G9:Dr δ D:=Vj lR;have hrin:∀L,GL L D.er=true:=λL=>O2 lR;generalize hN:Tf ou b k p=N at V;have hab:∀t v' bx k' C,t.length<N->Ax (δ r) t=some (.own v' bx k' C)->∃Jm,Ax tD t=some (.own v' bx k' Jm):=by
  intro t v' bx k' C hq hsq;subst hN;unfold Tf at hq;split at hq
  . rename_i b1 k1 Kb;split at hq
    . rename_i e;obtain⟨rfl,rfl⟩:=e;refine Oh t p ah xB (λ_ v2 bx2 k2 Jm z=> ?_) hsq;rw[hD]at z;cases z;cases D with
      |own hh b2 k2 Jm=>simp only[FO,AV.own.injEq]at O;obtain⟨rfl,rfl,_⟩:=O;simp only[Ma]at B;exact⟨Jm,by rw[B]⟩
      |lf a v=>simp only[Eb]at O;subst O;cases hoD with|lf _ _ _ h=>exact h.elim
      |agg=>simp at O
      |BZ=>simp at O
    . omega
  . omega
 have FZ:St G w' S' (Dn (Eo G N r δ) r tD) (Dn Fr r T):=
  u.setn N r tD T xC (λs m x g=>tX s x g (UU s m x g)) NL (λs m x g=>J s x g (UU s m x g)) hokt Z (NA p xB (u.rt r) (hrin _)) (Nj p xB (u.al r) G9) hab
 have ZA:(λs=>(Dn (Eo G N r δ) r tD s).er)=Dn (GJ G N r λs=>(δ s).er) r q:=by
  funext s;unfold Dn;split
  . exact hte
  . exact u.Rl N r s
 have Kr:∀s,(Dn (Eo G N r δ) r tD s).A0=(δ s).A0:=by
  intro s;unfold Dn;split
  . rename_i e;rw[e,EJ]
  . exact u.Mz N r s
 have hF1:∀s x,Dn Fr r T s x->(Fr s x/\¬l x)\/(s=r/\Fc x):=by
  intro s x g;by_cases m:s=r
  . subst m;rw[BW]at g;exact((KK x).1 g).imp id λh=>⟨rfl,h⟩
  . rw[Br _ _ m]at g;exact .inl ⟨g,UU s m x g⟩
 have X:∀s x,Dn Fr r T s x->¬Fa x:=by
  intro s x g hy;rcases hF1 s x g with⟨i,z⟩|⟨_,i⟩
  . rcases hFa x hy with h3|h3
    . exact z h3
    . have:=E s x i;omega
  . exact hdab x hy (I x i)
 have W:∀x,BN (Dn Fr r T) x->BN Fr x\/w.heap.size<=x:=by
  rintro x ⟨s,g⟩;rcases hF1 s x g with⟨i,_⟩|⟨_,i⟩
  . exact .inl ⟨s,i⟩
  . exact(U x i).imp (λh=>⟨r,CU x h⟩) id
 have Hf:∀F3:Nat->Nat->Prop,(∀x,BN F3 x->BN (Dn Fr r T) x\/Fa x)->Nx w0 F R w' S' (BN F3):=by
  intro F3 hF3;refine Er.trans ⟨U0.os,U0.tape,U0.output,U0.size,λb j S0=>U0.block b j λhf=>S0 ⟨r,CU b hf⟩,NL,λb j=>(wW b j).imp id (Or.imp (λh=>⟨r,CU b h⟩) id),λ_=>Lr,λx g=> ?_⟩;rcases hF3 x g with i|i
  . exact W x i
  . exact(hFa x i).imp (λh=>⟨r,CU x h⟩) id
 rw[<- ZA]at V;have TV:Rd (Dn (Eo G N r δ) r tD) a:=λs=>(ha s).trans (Kr s).symm;simp only;cases d with
 |none=>
  have h0:o.dst=none:=hd;refine⟨_,⟨S',_,_,?_,?_,?_,rfl,FZ,Hf _ (λx g=>.inl g),Lr⟩,V⟩
  . rw[h0];exact hn
  . rw[h0];exact EF
  . rw[h0];exact TV
 |some d=>
  simp only[C2]at V;split at V
  . rename_i τ' N9;obtain⟨i,z,h3,h4⟩:=hd;rw[<- OO]at N9;obtain⟨δ',F3,LS,KJ,UR,Eu⟩:=FZ.wr z h3 (λ_ _=>rfl) (λ_ _ _=>rfl) (λ_ h=>h) (λs x g=>(FZ.ok s).FQ x g) M X (Yq M (by rw[OO];exact HT)) N9;refine⟨τ',⟨S',δ',F3,?_,?_,?_,KJ,LS,Hf F3 Eu,Lr⟩,V⟩
    . rw[i];simpa[Act.put]using hn
    . rw[i];simpa[Act.put]using EF
    . intro s;rw[i,Ja a d.d rD.A0 h4 s,UR s];split
      . rfl
      . exact TV s
  . exact V.elim
theorem lnd_sound(hG:X4 w0 F R)(h:Rel G n w0 F R a w σ){i D:i5}(Lt:Kp P o.op f (pre++x::args) 0=true)(jH:D5 G n o.dst dst=true)(hp:Qt σ x c=some (r,p))(cE:OD σ pre=some i)(Oa:OD σ args=some D)(hs:sub (σ r) p=some (.own b k rows))(I2:BB P f (i++Uf σ x c (.own b k rows)::D) res ((i.map λ_=>.dead)++out::D.map λ_=>.dead))(O:QW c out=some ou)(OX:Ix ou=true)(HT:clean res=true)(Hp:put (σ r) p ou=some q)(hK:C2 dst res K (Dn (GJ G (Tf ou b k p) r σ) r q))(Q:Exit->Act->World->Prop):
 o.wp P a w (λa' w'=>∃σ',Rel G n w0 F R a' w' σ'/\K σ') Q:=by
 obtain⟨S,δ,Fr,hn,EF,E,rfl,C,Er,DA⟩:=h;obtain⟨cc,fn,ho,Ls,hf,T,qI,hm3,g⟩:=Mb Lt;have hd:=Ec jH hn;obtain⟨s,t,B,F9,W,U,X⟩:∃s t B,cc.args.toList=s++t::B/\Gk s pre=true/\Cc t x=true/\Gk B args=true:=by
  generalize cc.args.toList=l at g;clear cE Oa hp I2 Lt;induction pre generalizing l with
  |nil=>
   cases l with
   |nil=>simp[Gk]at g
   |cons t s=>simp only[List.nil_append,Gk,AAT]at g;exact⟨[],t,s,rfl,rfl,g.1,g.2⟩
  |cons y pre ih=>
   cases l with
   |nil=>simp[Gk]at g
   |cons y0 l=>simp only[ABE,Gk,AAT]at g;obtain⟨s,t,B,h1,h2,h3,h4⟩:=ih l g.2;exact⟨y0::s,t,B,by simp[h1],by simp[Gk,g.1,h2],h3,h4⟩
 obtain⟨V,L⟩:=Aq U E;obtain⟨v,Au,hD,GP,j⟩:=uO C V hp hs;obtain⟨M,p1,p2,p3⟩:=Tm C E pre W cE;obtain⟨Ds2,q1,q2,q3⟩:=Tm C E args X Oa;unfold Oper.wp;rw[VP ho Ls hf T qI];refine lnd_core (c:=c) (outs1:=i.map λ_=>.dead) (outs2:=D.map λ_=>.dead) hn EF E C Er DA hd hD (λFo XO=> ?_) O OX HT Hp hK Q;obtain⟨H,N,u,z,J⟩:=j Fo XO;have GU:=I2 w S (M++H::Ds2) Fo (hG.now Er) (by simp[p1,q1,N]) (BK.2 (vZ p3 z q3)) DA;have Vq:(List.map DV.A0 (M++H::Ds2))=cc.args.toList.map a.eval:=by rw[F9];simp[p2,q2,u,L]
 rw[Vq]at GU;exact⟨M,Ds2,H,by simp[<- p1],J,by rw[Vq];exact GU⟩
end
section
variable{w w':ja}{S S':iu}{G:Gi}{δ:ji}{Fr:iy}{P:iz}
theorem Rel.gz(h:Rel G n w0 F j a w σ)(i:SA G r p σ=some (out,τ)):Rel G n w0 F j a w τ:=by
 obtain⟨S,δ,Fr,hn,m,D,rfl,f,u,q⟩:=h;obtain⟨e,y,z,out,bx,k,rows,C,B,o,_,_,_,I,g,_⟩:=f.SA i;have c:∀x,z x->x<w.heap.size:=λx d=>by obtain⟨t,H⟩:=g x (.inr d);exact(f.ok t).lt x H
 exact⟨_,e,y,hn,m,λs=>(D s).trans (o s).symm,B,C,u.trans (Nx.KI (λx d=>g x d) c),λb E=>E.elim (q b) (c b)⟩
theorem run_clo{c:Call}{b:Func}(k:o.op= .call c)(i:c.callee= .value u)(m:a.eval u= .func (.func f) #[] vs.toArray)(j:P.funcs[f]? =some b)(n:b.body.isSome=true)(hn:(b.name != "runtime.NumGoroutine")=true):
 (execOp a.eval o).run P w= .ok (.enter f (c.args.toList.map a.eval++vs).toArray) w:=by
 have d:b.body.isNone=false:=by cases h:b.body<;>simp_all
 have e:(b.name== "runtime.NumGoroutine")=false:=by simpa using hn
 have g:c.args.map a.eval=(c.args.toList.map a.eval).toArray:=by apply ABr;simp
 simp only[execOp,k,resolve,i,m,Deferred.ofValue,Sem.run_bind,Sem.run_pure,Result.andThen_ok,invoke,callFunc,g];have l:(program).run P w= .ok P w:=rfl;rw[l];simp only[Result.andThen_ok,j,e,d,AAd,AAk,Sem.run_pure];simp
end
variable{ops:Array Oper}{O:jc}{J:Act->World->Prop}
section
variable{w w':ja}{S S':iu}{G:Gi}{δ:ji}{Fr:iy}{P:iz}
def Lo(n:Nat)(ops:Array Oper)(g h:jc):Bool:=
 match g,h with
 |none,none=>true
 |some (j,b),some (s,b')=>(ops[j]?).bind (·.dst)==some s&&b==b'&&decide (s<n)
 |_,_=>false
def Hl(P:iz)(G:Gi)(n:Nat)(ops:Array Oper)(o:Oper)(io:BD):Bool:=
 D5 G n o.dst io.dst&&Lo n ops o.guard io.guard&&(match io.op with
  | .call f args m=>Kp P o.op f args m
  | .Vx f pre x _ post=>Kp P o.op f (pre++x::post) 0
  |op=>KU P o.op op)
theorem Yh(I:X4 w0 j F)(h:Rel G n w0 j F a w σ)(J:Hl P G n ops o io=true)(d:EE P G io K σ)(Q:Exit->Act->World->Prop):
 o.wp P a w (λy w'=>∃σ',Rel G n w0 j F y w' σ'/\K σ') Q:=by
 simp only[Hl,AAT]at J;obtain⟨⟨H,_⟩,g⟩:=J;have k:=h;obtain⟨S,δ,Fr,hn,M,ha,rfl,L,N,E⟩:=h;have hd:=Ec H hn;have i:∀{op:bH},io.op=op->(match G8 G op io.dst (λs=>(δ s).er)with|some τ=>K τ|none=>False)->KU P o.op op=true->o.wp P a w (λy w'=>∃σ',Rel G n w0 j F y w' σ'/\K σ') Q:=by
  intro op _ B hk;split at B
  . rename_i τ l;obtain⟨nx,v,w',S',D,O,q,C,P6,V,W,e⟩:=op_sound L E ha hd hk l;have key:∃σ',Rel G n w0 j F (a.put o.dst v) w' σ'/\K σ':=by
     refine⟨τ,⟨S',D,O,?_,?_,P6,V,W,N.trans e,e.lt E⟩,B⟩
     . cases ho:o.dst<;>simp[Act.put,hn]
     . cases ho:o.dst<;>simp[Act.put,M]
    unfold Oper.wp;rw[q];rcases C with rfl|⟨rfl,rfl⟩
    . rw[Oper.upon_value];exact key
    . rw[Oper.upon_skip];exact key
  . exact B.elim
 cases Ip:io.op with
 |call f args m=>rw[Ip]at g;exact rX I k Ip g hd d Q
 |Vx f pre x c post=>
  rw[Ip]at g;unfold EE at d;rw[Ip]at d;simp only at d g;split at d
  . rename_i r p aZ9 bs hp cE Z;split at d
    . rename_i b kk rows hs;obtain⟨res,out,ou,U,z,X,R,q⟩:=d;split at q
      . rename_i t T;exact lnd_sound I k g H hp cE Z hs U z X R T q Q
      . exact q.elim
    . exact d.elim
  . exact d.elim
 |_=>rw[Ip]at g;unfold EE at d;rw[Ip]at d;exact i Ip d g
theorem Qc(h:Rel G n w0 F R a w σ)(h1:D5 G n o.dst dst=true)(c:Lo n ops o.guard O=true){A:iv}(Q:Exit->Act->World->Prop)(T:A σ->o.wp P a w J Q)(U:∀I σ',Rel G n w0 F R I w σ'->K σ'->J I w)(i:gdP O A (aU dst K) σ)(hi:ops[k]? =some o):wpOp P ops Q k J a w:=by
 unfold wpOp;rw[hi];simp only;have skip:aU dst K σ->J (a.put o.dst undef) w:=by
  intro t;unfold aU at t;obtain⟨S,δ,Fr,hn,z,r,rfl,q,M,L⟩:=h;have hd:=Ec h1 hn;cases ON:dst with
  |none=>rw[ON]at t hd;have h0:o.dst=none:=hd;rw[h0];exact U _ _ ⟨S,δ,Fr,hn,z,r,rfl,q,M,L⟩ t
  |some d=>
   rw[ON]at t hd;obtain⟨B,g2,g3,g4⟩:=hd;have N9:wr d (DV.lf .un undef).er (λs=>(δ s).er)=some (Dn (Jl d.kl d.d λs=>(δ s).er) d.d .un):=(by simp[wr]);obtain⟨next,F',LS,KJ,X,Z⟩:=q.wr (D:=.lf .un undef) (Ff:=λ_=>False) g2 g3 (λ_ _=>rfl) (λ_ _ _=>rfl) (λ_ h=>h) (λs x H=>(q.ok s).FQ x H) (.lf _ _ _ rfl (λ_ h=>h)) (λ_ _ _ h=>h) (.lf _ _ trivial) N9;refine U _ _ ⟨S,next,F',?_,?_,?_,KJ,LS,M.trans (Nx.less λx H=>(Z x H).elim (λh=>h) False.elim),L⟩ t
   . rw[B];simpa[Act.put]using hn
   . rw[B];simpa[Act.put]using z
   . intro s;rw[B,Ja a d.d undef g4 s,X s];split
     . rfl
     . exact r s
 cases O with
 |none=>
  have e:o.guard=none:=by
   cases ho:o.guard with
   |none=>rfl
   |some g=>rw[ho]at c;simp[Lo]at c
  have hw:Region.wanted o (yielded ops a.tmps)=true:=by simp[Region.wanted,e]
  rw[AAb hw];exact .inl (T i)
 |some g=>
  obtain⟨s,l⟩:=g;simp only[gdP]at i;obtain⟨j,e,E,N⟩:∃j,o.guard=some (j,l)/\(ops[j]?).bind (·.dst)=some s/\s<n:=by
   cases ho:o.guard with
   |none=>rw[ho]at c;simp[Lo]at c
   |some g=>obtain⟨j,b⟩:=g;rw[ho]at c;simp only[Lo,AAT,AAh,AAl]at c;exact⟨j,by rw[c.1.2],c.1.1,c.2⟩
  have V:yielded ops a.tmps j=match a.tmps.getD s undef with| .bool b=>some b|_=>none:=by obtain⟨S,δ,Fr,hn,_⟩:=h;have u:s<a.tmps.size:=(by rw[hn];exact N);unfold yielded;rw[E];simp only[AAS,ABa u,AAn,ABf];cases a.tmps[s]<;>rfl
  have p:a.tmps.getD s undef=match σ s with| .sc v=>v| .un=>undef|_=>a.tmps.getD s undef:=by
   obtain⟨S,δ,Fr,hn,z,r,rfl,q,_⟩:=h;simp only;cases u:(δ s).er with
   |sc v=>rw[r s];exact(q.leaf u rfl).2.1.1
   |un=>rw[r s];exact(q.leaf u rfl).2.1
   |_=>rfl
  split at i
  . rename_i b C;rw[C]at p;simp only at p;have f:Region.wanted o (yielded ops a.tmps)=(some b==some l):=(by simp only[Region.wanted,e,V,p]);split at i
    . rename_i m;subst m;rw[AAb (by rw[f];simp)];exact .inl (T i)
    . rename_i m;rw[AAa (by rw[f];simp[m])];exact skip i
  . rename_i C;rw[C]at p;simp only at p;have f:Region.wanted o (yielded ops a.tmps)=false:=(by simp only[Region.wanted,e,V,p];rfl);rw[AAa (by rw[f];simp)];exact skip i
  . exact i.elim
theorem Is(l:X4 w0 F R)(h:Rel G n w0 F R a w σ)(f:Hl P G n ops o io=true)(g:Jo P G io K σ)(Q:Exit->Act->World->Prop){i:Nat}(hi:ops[i]? =some o):
 wpOp P ops Q i (λj w'=>∃σ',Rel G n w0 F R j w' σ'/\K σ') a w:=by
 have d:=f;simp only[Hl,AAT]at d;exact Qc h d.1.1 d.1.2 (A:=EE P G io K) Q (λm=>Yh l h f m Q) (λ_ _ r k=>⟨_,r,k⟩) g hi
def MN(P:iz)(G:Gi)(n:Nat)(ops:Array Oper):List Oper->List BD->Bool
 |[],[]=>true
 |o::os,io::Ce=>Hl P G n ops o io&&MN P G n ops os Ce
 |_,_=>false
theorem rH(q:X4 w0 F R)(Q:Exit->Act->World->Prop)(r:∀a w σ,Rel G n w0 F R a w σ->K σ->Q .normal a w)(c:jG):
 ∀(k:Nat){a:Act}{w:ja}{σ:Sg},Rel G n w0 F R a w σ->MN P G n ops (ops.toList.drop k) c=true->O0 P G c K σ->wpOps P ops Q (List.range' k (ops.size-k)) a w:=by
 induction c with
 |nil=>
  intro k a w σ h b i;have l:ops.toList.drop k=[]:=by cases hd:ops.toList.drop k with|nil=>rfl|cons o os=>rw[hd]at b;simp[MN]at b
  have m:ops.size<=k:=by simpa using l
  rw[show ops.size-k=0 from by omega];exact r a w σ h i
 |cons io c ih=>
  intro k a w σ h b i;cases hd:ops.toList.drop k with
  |nil=>rw[hd]at b;simp[MN]at b
  |cons o os=>rw[hd]at b;simp only[MN,AAT]at b;have l:k<ops.size:=(by have:(ops.toList.drop k).length=os.length+1:=(by rw[hd];rfl);simp at this;omega);have s:ops[k]? =some o:=(by have:(ops.toList.drop k)[0]? =some o:=(by rw[hd];rfl);simpa using this);have g:ops.toList.drop (k+1)=os:=(by have:(ops.toList.drop k).drop 1=os:=(by rw[hd];rfl);rw[List.drop_drop]at this;exact this);rw[show ops.size-k=(ops.size-(k+1))+1 from by omega,List.range'_succ,wpOps_cons];refine wpOp_mono ?_ (Is q h b.1 i Q s);rintro t w' ⟨σ',p,f⟩;exact ih (k+1) p (by rw[g];exact b.2) f
end
variable{H:kw}{s:Nat}
section
variable{w w':ja}{S S':iu}{G:Gi}{δ:ji}{Fr:iy}{P:iz}
theorem P4(d:Nat)(t e:jo)(a:ABu Addr)(n c:Nat)(h:P.underlying t=some (.slice e)):(Op.equalIn (d+1) t (.slice a n c) (.slice none 0 0)).run P w= .ok a.isNone w:=by have b:(underlying t).run P w= .ok (.slice e) w:=run_underlying h w;cases a<;>simp[Op.equalIn,b]
theorem pG(t e:jo)(a:ABu Addr)(n c:Nat)(h:P.underlying t=some (.slice e)):(binOp .eql t (.slice a n c) (.slice none 0 0)).run P w= .ok (.bool a.isNone) w:=by simp only[binOp];have:(Op.equal t (.slice a n c) (.slice none 0 0)).run P w= .ok a.isNone w:=P4 9999 t e a n c h;simp[this]
theorem pH(t e:jo)(a:ABu Addr)(n c:Nat)(h:P.underlying t=some (.slice e)):(binOp .neq t (.slice a n c) (.slice none 0 0)).run P w= .ok (.bool (!a.isNone)) w:=by simp only[binOp];have:(Op.equal t (.slice a n c) (.slice none 0 0)).run P w= .ok a.isNone w:=P4 9999 t e a n c h;simp[this]
def sK(P:iz)(o:Op)(neg:Bool)(y:Ar):Bool:=match o with
 | .binOp op t x (.const (.slice none 0 0)) _=>(match op with| .eql=> !neg| .neq=>neg|_=>false)&&(match P.underlying t with|some (.slice _)=>true|_=>false)&&Cc x y
 |_=>false
theorem uH(h:Rel G n w0 F R a w σ){d:D3}(j:sK P o.op b x=true)(jH:D5 G n o.dst (some d)=true)(V:hd σ x=some (out,H))(i:rowsOf out=some rows)(hK:∀g:Bool,(g=true->rows=[])->C2 (some d) (.sc (.bool (if b=true then !g else g))) K σ)(Q:Exit->Act->World->Prop):
 o.wp P a w (λa' w'=>∃σ',Rel G n w0 F R a' w' σ'/\K σ') Q:=by
 obtain⟨S,δ,Fr,hn,EF,O,rfl,p,Er,B⟩:=h;unfold sK at j;split at j
 . rename_i op t x' u X;simp only[AAT]at j;obtain⟨⟨q,N⟩,h3⟩:=j;obtain⟨Z,M⟩:=Aq h3 O;obtain⟨e,T⟩:∃e,P.underlying t=some (.slice e):=by
    split at N
    . exact⟨_,‹_›⟩
    . cases N
   -- the slice's own value
   obtain⟨f,l,c,m,tS⟩:∃f l c,DL δ x= .slice f l c/\(f.isNone=true->rows=[]):=by
    obtain⟨g1,g2⟩:=p.wZ Z V;cases out with
    |own g k rows'=>
     cases g with
     |true=>simp[rowsOf]at i
     |false=>
      simp only[rowsOf,AAU]at i;subst i;obtain⟨Au,J,e1,z,_⟩:=g1 _ _ _ rfl;generalize DL δ x=v at z;cases z with
      |nil=>exact⟨none,0,0,rfl,λ_=>by rw[<- e1];rfl⟩
      |own _ _ _ g c arr E Fs _ L W Ee Md hvv hr pl m LR hF=>exact⟨_,_,_,by simp[KW];exact⟨rfl,rfl,rfl⟩,ak⟩
    |sl e' k rows'=>
     simp only[rowsOf,AAU]at i;subst i;obtain⟨s,r,lK⟩:=p.hdSl Z V;have I:=g2 _ _ _ rfl ⟨s,r,lK⟩;generalize DL δ x=v at I;cases I with
     |nil=>exact⟨_,_,_,rfl,λ_=>rfl⟩
     |sl=>exact⟨_,_,_,rfl,ak⟩
    |_=>simp[rowsOf]at i
   have L:(execOp a.eval o).run P w= .ok (.value (.bool (if b=true then !f.isNone else f.isNone))) w:=by
    have U:∀op,(eqGuard op t x' (.const (.slice none 0 0)) (.slice f l c) (.slice none 0 0)).run P w= .ok () w:=(by intro op;cases op<;>simp[eqGuard]);have C:a.eval (.const (.slice none 0 0))= .slice none 0 0:=rfl;cases op<;>simp only[AAd]at q
    . have:b=false:=(by simpa using q);subst this;simp only[execOp,X,M,m,C,Sem.run_bind,U,Result.andThen_ok,pG t e f l c T,Sem.run_pure,AAd,AAk]
    . subst q;simp only[execOp,X,M,m,C,Sem.run_bind,U,Result.andThen_ok,pH t e f l c T,Sem.run_pure,AAy]
   have W:=hK f.isNone tS;have pl:=Ec jH hn;unfold Oper.wp;rw[L,Oper.upon_value];exact Mo (S2:=S) (D:=.lf (.sc (.bool (if b=true then !f.isNone else f.isNone))) (.bool (if b=true then !f.isNone else f.isNone))) (FD:=λ_=>False) p hn EF O pl ak (λ_ _=>rfl) B (λ_ h=>h) (λ_ h=>.inl h) B (.lf _ _ _ ⟨rfl,rfl⟩ (λ_ h=>h)) (λ_ h=>h.elim) (.lf _ _ trivial) Er rfl rfl rfl (AAv _) W
 . cases j
theorem r9(h:St G w S δ Fr)(rs:j9):∀{vs:jj}{f:i5},vs.length=rs.length->(∀(i:Nat) r p u,rs[i]? =some (r,p)->vs[i]? =some u->∃bx k rows,Ax (δ r) p=some (.own u bx k rows))->zJ (λs=>(δ s).er) rs=some f->
 ∃c:List DV,c.map DV.er=f/\c.map DV.A0=vs/\∀D∈c,Ok w (λx=>S x\/BN Fr x) D (λ_=>False):=by
 induction rs with
 |nil=>
  intro vs f g _ b;cases vs with
  |nil=>simp only[zJ,AAU]at b;subst b;exact⟨[],rfl,rfl,ak⟩
  |cons=>simp at g
 |cons x rs ih=>
  obtain⟨r,p⟩:=x;intro vs f g l b;cases vs with
  |nil=>simp at g
  |cons v vs=>
   simp only[zJ]at b;split at b
   . rename_i a m n o;simp only[AAU]at b;subst b;obtain⟨bx,k,rows,q⟩:=l 0 r p v rfl rfl;obtain⟨D,y,z,B⟩:=Ka h (d:=.lf (.al r p) v) (F:=λ_=>False) (.lf _ _ _ trivial (λ_ h=>h)) (λ_ h=>h.elim) (.lf _ _ ⟨bx,k,rows,q⟩) (by simpa using n);obtain⟨c,C,E,H⟩:=ih (by simpa using g) (λi r p u hi t=>l (i+1) r p u (by simpa using hi) (by simpa using t)) o;refine⟨D::c,by simp[y,C],by simpa[E]using z,?_⟩;intro e j;rcases AAr.1 j with rfl|j
     . exact B
     . exact H e j
   . cases b
def sD(P:iz)(o:Op)(f:Nat)(y:Ar)(ys:j7):Bool:=match o with
 | .call c=>(match c.callee with
  | .value x=>Cc x y&&Gk c.args.toList ys&&(match P.funcs[f]? with|some fn=>fn.body.isSome&&fn.name != "runtime.NumGoroutine" |none=>false)
  |_=>false)
 |_=>false
theorem AAD(d:i6):∀{vs:jj},vs.length=d.length->(∀(i:Nat) b u,d[i]? =some b->vs[i]? =some u->qX w S b u)->
 ∃c:List DV,c.map DV.er=d.map .fp/\c.map DV.A0=vs/\∀D∈c,Ok w (λx=>S x\/U x) D (λ_=>False):=by
 induction d with
 |nil=>intro vs e _;exact⟨[],rfl,by simpa using(List.length_eq_zero_iff.1 e).symm,ak⟩
 |cons b d ih=>
  intro vs e h
  match vs,e,h with
  |u::vs,e,h=>
   obtain⟨c,g,j,k⟩:=ih (vs:=vs) (by simpa using e) (λi b u hi l=>h (i+1) b u (by simpa using hi) (by simpa using l));refine⟨.lf (.fp b) u::c,by simp[g],by simp[j],λD f=> ?_⟩;rcases AAr.1 f with rfl|f
   . exact .lf _ _ _ (Hh.mono (a:=.fp b) (h 0 b u rfl rfl) (λ_ _=>rfl) (λ_ h=>.inl h)) (λ_ h=>h)
   . exact k D f
theorem mZ(hG:X4 w0 F R){z:Func}{c:Call}(hn:a.tmps.size=n)(T:a.defers=[])(ha:Rd δ a)(H:St G w S δ Fr)(I:Nx w0 F R w S (BN Fr))(p:∀b,S b->b<w.heap.size)(hd:I9 G a o dst)(ho:o.op= .call c)(X:c.callee= .value N)(O:a.eval N= .func (.func f) #[] vs.toArray)(hf:P.funcs[f]? =some z)(g:z.body.isSome=true)(B:(z.name != "runtime.NumGoroutine")=true)(p1:l.map DV.er=outs2)(p2:l.map DV.A0=c.args.toList.map a.eval++vs)(p3:∀D∈l,Ok w (λx=>S x\/BN Fr x) D (λ_=>False))(W:Says P f outs2 out)(j:Q9 0 out=some res)(hK:C2 dst res K (λs=>(δ s).er))(Q:Exit->Act->World->Prop):o.wp P a w (λa' w'=>∃σ',Rel G n w0 F R a' w' σ'/\K σ') Q:=by
 have Z:=hG.now I;have V:=W w (λx=>S x\/BN Fr x) l (λ_=>False) (Z.mono λ_ h=>.inl h) p1 (BK.2 (CZ p3)) (by
  rintro b (g|⟨s,C⟩)
  . exact p b g
  . exact(H.ok s).lt b C)
 simp only[Q9]at j;split at j
 . rename_i U;simp only[AAU]at j;have M:=Y0 U;unfold Oper.wp;rw[run_clo ho X O hf g B,Oper.upon_enter,<- p2];refine V.mono ?_;rintro e w' ⟨r,os,S',F',rfl,t,hoe,hoa,y,i,NL,wW,Lr,Y6⟩;obtain⟨J,Fb,L,_,_,SB⟩:=BK.1 y;have q:∀x,J x->w.heap.size<=x:=λx E=>(Y6 x ((SB x).2 (.inl E))).resolve_left id;have Qd:Ok w' S r J:=UM L (by rw[t];exact M) (λx E C=>by have:=p x C;have:=q x E;omega);simp only;exact Mo (S2:=S) H hn T ha hd (t.trans j) (λb g=>i.block b g id) p (λ_ h=>h) (λ_ h=>.inl h) (λb g=>ABP (p b g) i.size) Qd q (UL L (by rw[t];exact M)) I i.os i.tape i.output i.size hK
 . cases j
theorem zO(hG:X4 w0 F R)(h:Rel G n w0 F R a w σ)(i:sD P o.op f x args=true)(jH:D5 G n o.dst dst=true)(b:cloA σ f x args=some outs2)(I2:Says P f outs2 out)(FW:Q9 0 out=some res)(hK:C2 dst res K σ)(Q:Exit->Act->World->Prop):
 o.wp P a w (λa' w'=>∃σ',Rel G n w0 F R a' w' σ'/\K σ') Q:=by
 obtain⟨S,δ,Fr,hn,EF,E,rfl,p,X,DA⟩:=h;have hd:=Ec jH hn;have NM:=hG.now X;unfold sD at i;split at i
 . rename_i c ho;split at i
   . rename_i x0 Ls;simp only[AAT]at i;obtain⟨⟨h1,h2⟩,r⟩:=i;split at r
     . rename_i fn hf;simp only[AAT]at r;obtain⟨hx,ex⟩:=Aq h1 E;obtain⟨vs,C,q,u,y,z⟩:∃(vs:jj)(C:jl),DL δ x= .func (.func f) #[] vs.toArray/\C.map DV.er=outs2/\C.map DV.A0=c.args.toList.map a.eval++vs/\∀D∈C,Ok w (λx=>S x\/BN Fr x) D (λ_=>False):=by
        unfold cloA at b;split at b
        . rename_i J rs g;split at b
          . rename_i e;subst e;split at b
            . rename_i I bs k N;simp only[AAU]at b;subst b;obtain⟨vs,q,l,m⟩:Nz δ (.cl J rs) (DL δ x):=by
               cases x with
               |t s=>exact(p.leaf g rfl).2.2
               |c c0=>obtain⟨D0,O⟩:=hx;simp only[ar]at g;subst g;simp[I5]at O
              obtain⟨L,u,y,z⟩:=Mg p E args h2 k;obtain⟨Ds2,H,T,V⟩:=r9 p rs l m N;exact⟨vs,L++Ds2,q,by simp[u,H],by simp[y,T],λD M=>(AAo.1 M).elim (z D) (V D)⟩
            . cases b
          . cases b
        . rename_i J Z g;split at b
          . rename_i e;subst e;split at b
            . rename_i I k;simp only[AAU]at b;subst b;obtain⟨vs,q,l,m⟩:Hh w S (.YA J Z) (DL δ x):=by
               cases x with
               |t s=>exact(p.leaf g rfl).2.1
               |c c0=>obtain⟨D0,O⟩:=hx;simp only[ar]at g;subst g;simp[I5]at O
              obtain⟨L,u,y,z⟩:=Mg p E args h2 k;obtain⟨Ds2,H,T,V⟩:=AAD (U:=BN Fr) Z l m;exact⟨vs,L++Ds2,q,by simp[u,H],by simp[y,T],λD M=>(AAo.1 M).elim (z D) (V D)⟩
            . cases b
          . cases b
        . cases b
       exact mZ hG hn EF E p X DA hd ho Ls (by rw[ex,q]) hf r.1 r.2 u y z I2 FW hK Q
     . cases r
   . cases i
 . cases i
def sE(o:Op)(y:Ar)(ys:j7):Bool:=match o with
 | .call c=>(match c.callee with
  | .value x=>Cc x y&&Gk c.args.toList ys
  |_=>false)
 |_=>false
theorem zP(D:X4 w0 j F)(h:Rel G n w0 j F a w σ)(b:sE o.op x args=true)(J:D5 G n o.dst dst=true)(e:clvP P dst x args K σ)(Q:Exit->Act->World->Prop):o.wp P a w (λz w'=>∃σ',Rel G n w0 j F z w' σ'/\K σ') Q:=by
 obtain⟨S,δ,Fr,hn,q,l,rfl,i,r,p⟩:=h;have hd:=Ec J hn;unfold clvP at e;split at e
 . rename_i f va vb B H s;obtain⟨rfl,rfl,g,O,u,e⟩:=e;split at e
   . rename_i v t;unfold sE at b;split at b
     . rename_i c k;split at b
       . rename_i U y;simp only[AAT]at b;obtain⟨I,C⟩:=Aq b.1 l;unfold fnOK at g;split at g
         . rename_i T E;simp only[AAT]at g;obtain⟨R,L,M,N⟩:=Mg i l args b.2 s;exact mZ D (vs:=[]) hn q l i r p hd k y (by rw[C];exact(i.FV I H).1) E g.1 g.2 L (by simpa using M) N u t e Q
         . cases g
       . cases b
     . cases b
   . exact e.elim
 . exact e.elim
def sC(P:iz)(o:Op)(n s:Nat):Bool:=match o with
 | .box t (.tmp s')=>s==s'&&HI P t==some n
 |_=>false
theorem zH(h:Rel G n w0 F R a w σ){d:D3}(f:sC P o.op m s=true)(W:D5 G n o.dst (some d)=true)(V:σ s= .agg outs2)(O:outs2.length=m)(M:∀B:List Value,B.length=m->C2 (some d) (.vb s 0 B) K σ)(Q:Exit->Act->World->Prop):
 o.wp P a w (λL w'=>∃σ',Rel G n w0 F R L w' σ'/\K σ') Q:=by
 obtain⟨S,δ,Fr,hn,E,z,rfl,k,q,l⟩:=h;have hd:=Ec W hn;unfold sC at f;split at f
 . rename_i t X T;simp only[AAT,AAh]at f;obtain⟨rfl,_⟩:=f;obtain⟨ds,J,r⟩:=RX (k.ok s) V;have p:(δ s).A0= .agg (ds.map DV.A0).toArray:=(by rw[J];simp);have H:a.eval (.tmp s)= .agg (ds.map DV.A0).toArray:=(by simp only[Act.eval];rw[z s,p]);have g:(ds.map DV.A0).length=m:=(by rw[<- O,<- r];simp);have U:(execOp a.eval o).run P w= .ok (.value (.pointer (some ⟨w.heap.size,0,none⟩))) (w.alloc (.cells (ds.map DV.A0).toArray t)):=(by simp only[execOp,T,H,Sem.run_bind,xN,Result.andThen_ok,Sem.run_pure,Value.cells]);unfold Oper.wp;rw[U,Oper.upon_value];have I:(w.alloc (.cells (ds.map DV.A0).toArray t)).heap.size=w.heap.size+1:=(by show(w.heap.push _).size=_;exact Array.size_push _);have i:∀b,(S b\/b=w.heap.size)->b<(w.alloc (.cells (ds.map DV.A0).toArray t)).heap.size:=by
    intro b c;rw[I];rcases c with c|c
    . have:=l b c;omega
    . omega
   have:=Mo (w':=w.alloc (.cells (ds.map DV.A0).toArray t)) (S2:=λx=>S x\/x=w.heap.size) (D:=.lf (.vb s 0 (ds.map DV.A0)) (.pointer (some ⟨w.heap.size,0,none⟩))) (FD:=λ_=>False) (v:=.vb s 0 (ds.map DV.A0)) (K:=K) k hn E z hd ak
    (λb c=>alloc_old w _ b c) l (λ_ h=>.inl h) (λb c=>c.imp id (λe=>ah)) i
    (.lf _ _ _ ⟨w.heap.size,rfl,.inr rfl,λj u N=>by simp only[World.cell?,dY];simpa using N⟩ (λ_ h=>h)) (λ_ h=>h.elim) (.lf _ _ p) q rfl rfl rfl ah (M _ g)
   simpa using this
 . cases f
def sI(P:iz)(o:Op)(g n:Nat):Bool:=match o with
 | .load t (.global g')=>g==g'&&HI P t==some n&&KL P t==some true
 |_=>false
theorem AAO(O:X4 w0 F R)(h:Rel G n w0 F R a w σ){d:D3}(f:sI P o.op k m=true)(jH:D5 G n o.dst (some d)=true)(c:nJ k m=some B)(l:C2 (some d) (.agg (B.map .sc)) K σ)(Q:Exit->Act->World->Prop):
 o.wp P a w (λL w'=>∃σ',Rel G n w0 F R L w' σ'/\K σ') Q:=by
 obtain⟨S,δ,Fr,hn,I,T,rfl,H,u,s⟩:=h;have J:=O.now u;have hd:=Ec jH hn;unfold nJ at c;split at c
 . rename_i x C;split at c
   . rename_i z;obtain rfl:=AAW c;have tQ:=ABn C;have p:x.1=k:=(by have:=List.find?_some C;simpa using this);obtain⟨_,arr,E,fz,U,g⟩:=J x tQ;unfold sI at f;split at f
     . rename_i t g' W;simp only[AAT,AAh]at f;obtain⟨⟨rfl,M⟩,N⟩:=f;have r:=MC (P:=P) (w:=w) (b:=k) (off:=0) (vs:=x.2) M N (.inl rfl) z.1 (by
        intro j v V
        have:=g j v V;simp only[World.cell?];rw[<- p,U];simpa using this)
       simp only[AAy]at r;have X:(execOp a.eval o).run P w= .ok (.value (.agg x.2.toArray)) w:=(by simp only[execOp,W,Act.eval,Instr.loadAt,Instr.sureAddr,Sem.run_bind,Sem.run_pure,Result.andThen_ok,r]);unfold Oper.wp;rw[X,Oper.upon_value];have y:∀D∈x.2.map (λv=>DV.lf (.sc v) v),Ok w S D (λ_=>False)/\Dr δ D:=by intro D e;obtain⟨v,Z,rfl⟩:=ABh.1 e;exact⟨.lf _ _ _ ⟨rfl,AAY.1 z.2 v Z⟩ (λ_ h=>h),.lf _ _ trivial⟩
       have:=Mo (S2:=S) (D:=.agg (x.2.map λv=>DV.lf (.sc v) v)) (FD:=λ_=>False) (v:=.agg (x.2.map .sc)) (K:=K) H hn I T hd (by simp[Function.comp_def]) (λ_ _=>rfl) s (λ_ h=>h) (λ_ h=>.inl h) s (CN.2 (CZ λD e=>(y D e).1)) (λ_ h=>h.elim) (.agg _ λi D e=>(y D (AAg e)).2) u rfl rfl rfl (AAv _) l;simpa[Function.comp_def]using this
     . cases f
   . cases c
 . cases c
end
section
variable{G:Gi}{A:iu}{σ σ' τ τ':Sg}
structure Ag (G:Gi) (A:Nat->Prop) (σ σ':Sg):Prop where
 eq:∀s,A s->σ' s=σ s
 ri:∀s,A s->GL (G.HA s) (σ s)=true
structure Mv (G:Gi) (A:Nat->Prop) (σ σ' τ τ':Sg):Prop where
 ag:Ag G A τ τ'
 off:∀s,¬A s->τ' s=σ' s/\τ s=σ s
structure Cl (G:Gi) (A:Nat->Prop) (s:Nat):Prop where
 own:A s
 Pm:∀x∈G.Pm s,A x
 rt:∀r∈G.HA s,A r/\∀x∈G.Pm r,A x
def vU(G:Gi)(A:iu):Ar->Prop
 | .t s=>Cl G A s
 | .c a=>GL [] a=true
def Mv.refl(h:Ag G A σ σ'):Mv G A σ σ' σ σ':=⟨h,λ_ _=>⟨rfl,rfl⟩⟩
def Mv.trans{d a:Sg}(h:Mv G A σ σ' τ τ')(c:Mv G A τ τ' d a):Mv G A σ σ' d a:=
 ⟨c.ag,λs b=>⟨(c.off s b).1.trans (h.off s b).1,(c.off s b).2.trans (h.off s b).2⟩⟩
theorem PZ(L:jh)(d:Nat):∀(a:AV),GL L a=true->GL L (Dv d a)=true
 | .al r p,h=>by
  rw[ZQ];split
  all_goals simp_all
 | .Lm r p i j k,h=>by
  rw[Vu];split
  all_goals simp_all
 | .agg cs,h=>by rw[K6,AAY]at h;rw[killr_agg,K6,ABR,AAY];intro c e;exact PZ L d c (h c e)
 | .BZ cs,h=>by rw[Pa,AAY]at h;rw[killr_tup,Pa,ABR,AAY];intro c e;exact PZ L d c (h c e)
 | .sc _,_=>ak
 | .sl ..,_=>ak
 | .own ..,_=>ak
 | .fp _,_=>ak
 | .dead,_=>ak
 | .un,_=>ak
 | .YA ..,_=>am
 | .vb s o us,h=>by
  rw[ZR];split
  all_goals simp_all
 | .cl f rs,h=>by
  rw[Uc];split
  . exact h
  . simp
 | .cb f vs b ss,h=>by
  rw[Ub];split
  all_goals simp_all
theorem YL(p:i4):∀{t x a:AV},put t p x=some a->GL L t=true->GL L x=true->GL L a=true:=by
 induction p with
 |nil=>
  intro t x a h _ g;have:a=x:=by cases t<;>simp[put]at h<;>exact h.symm
  simp_all
 |cons s p ih=>
  obtain⟨i,j,k⟩:=s;intro t x a h d g;cases t with
  |own b k rows=>
   simp only[put]at h;split at h
   . split at h
     . split at h
       . cases h;simp
       . cases h
     . cases h
   . cases h
  |agg cs=>
   simp only[put]at h;split at h
   . rename_i c f;split at h
     . rename_i c' e;cases h;rw[K6,AAY]at d |-;grind
     . cases h
   . cases h
  |BZ cs=>
   simp only[put]at h;split at h
   . rename_i c f;split at h
     . rename_i c' e;cases h;rw[Pa,AAY]at d |-;grind
     . cases h
   . cases h
  |_=>simp[put]at h
theorem Ag.kup(h:Ag G A σ σ'){t:AV}(f:A r)(d:∀x∈G.Pm r,A x)(g:GL (G.HA r) t=true):Mv G A σ σ' (Dn (KY G r σ) r t) (Dn (KY G r σ') r t):=by
 refine⟨⟨λs a=> ?_,λs a=> ?_⟩,λs a=> ?_⟩
 . simp only[Dn,KY,h.eq s a]
 . simp only[Dn,KY];split
   . simp_all
   . split
     . exact PZ _ _ _ (h.ri s a)
     . exact h.ri s a
 . have b:s≠r:=λe=>a (e▸f);have c:s∉G.Pm r:=λe=>a (d s e);simp[Dn,KY,b,c]
theorem Ag.up(h:Ag G A σ σ')(c:A r)(d:GL (G.HA r) out=true):Mv G A σ σ' (Dn σ r out) (Dn σ' r out):=by
 refine⟨⟨λs a=> ?_,λs a=> ?_⟩,λs a=> ?_⟩
 . simp only[Dn,h.eq s a]
 . simp only[Dn];split
   . simp_all
   . exact h.ri s a
 . have b:s≠r:=λe=>a (e▸c);simp[Dn,b]
theorem Ag.kupn(h:Ag G A σ σ')(n:Nat)(f:A r)(d:∀x∈G.Pm r,A x)(g:GL (G.HA r) out=true):Mv G A σ σ' (Dn (GJ G n r σ) r out) (Dn (GJ G n r σ') r out):=by
 refine⟨⟨λs a=> ?_,λs a=> ?_⟩,λs a=> ?_⟩
 . simp only[Dn,GJ,h.eq s a]
 . simp only[Dn,GJ];split
   . simp_all
   . split
     . exact Rk _ _ _ _ (h.ri s a)
     . exact h.ri s a
 . have b:s≠r:=λe=>a (e▸f);have c:s∉G.Pm r:=λe=>a (d s e);simp[Dn,GJ,b,c]
theorem YN(h:Ag G A σ σ')(c:A r)(d:∀x∈G.Pm r,A x)(a:dN G r p σ=some (out,τ)):∃τ',dN G r p σ'=some (out,τ')/\Mv G A σ σ' τ τ':=by
 unfold dN at a |-;rw[h.eq r c];split at a
 . rename_i b k rows f;split at a
   . rename_i t e;cases a;exact⟨_,rfl,h.kupn _ c d (YL p e (h.ri r c) ak)⟩
   . cases a
 . cases a
theorem UO(h:Ag G A σ σ')(c:A r)(d:∀x∈G.Pm r,A x)(a:SA G r p σ=some (out,τ)):∃τ',SA G r p σ'=some (out,τ')/\Mv G A σ σ' τ τ':=by
 unfold SA at a |-;rw[h.eq r c];split at a
 . rename_i b k rows f;split at a
   . rename_i t e;cases a;refine⟨_,rfl,h.kup c d (YL p e (h.ri r c) ?_)⟩;cases b<;>simp
   . cases a
 . cases a
theorem tkL_loc(c:i5):∀{σ σ' τ:Sg}{l:i5},Ag G A σ σ'->(∀r p,AV.al r p∈c->A r/\∀x∈G.Pm r,A x)->qQ G c σ=some (l,τ)->∃τ',qQ G c σ'=some (l,τ')/\Mv G A σ σ' τ τ':=by
 induction c with
 |nil=>intro σ σ' τ l h _ b;simp only[qQ,AAU,AAj]at b |-;obtain⟨rfl,rfl⟩:=b;exact⟨σ',⟨rfl,rfl⟩,.refl h⟩
 |cons a c ih=>
  intro σ σ' τ l h g b;have i:∀r p,AV.al r p∈c->A r/\∀x∈G.Pm r,A x:=λr p t=>g r p (by simp[t]);have f:(∀r p,a≠ .al r p)->∃τ',qQ G (a::c) σ'=some (l,τ')/\Mv G A σ σ' τ τ':=by
   intro u;have e:∀σ,qQ G (a::c) σ=if GN a=true then(match qQ G c σ with|some (l,τ)=>some (a::l,τ)|none=>none)else none:=by intro σ;cases a<;>first|rfl|simp_all
   rw[e]at b |-;split at b
   . grind
   . cases b
  cases a with
  |al r p=>
   obtain⟨v,s⟩:=g r p ak;simp only[qQ]at b |-;split at b
   . rename_i n w o;obtain⟨z,j,g2⟩:=YN h v s o;rw[j];simp only;split at b
     . rename_i l' y q;cases b;obtain⟨d,k,m⟩:=ih g2.ag i q;exact⟨d,by rw[k],g2.trans m⟩
     . cases b
   . cases b
  |_=>simp_all
theorem RJ(h:Ag G A σ σ')(u:vU G A x)(d:tk G x σ=some (out,τ)):∃τ',tk G x σ'=some (out,τ')/\Mv G A σ σ' τ τ':=by
 cases x with
 |c a=>simp only[tk,AAU,AAj]at d |-;obtain⟨rfl,rfl⟩:=d;exact⟨σ',⟨rfl,rfl⟩,.refl h⟩
 |t s=>
  have e:Cl G A s:=u;have q:=h.eq s e.own;have f:=h.ri s e.own;simp only[tk]at d |-;rw[q];cases hv:σ s with
  |al r p=>rw[hv]at d f;simp only[K7,AAu]at f;obtain⟨g,o⟩:=e.rt r f;exact YN h g o d
  |own b k rows=>rw[hv]at d;cases d;exact⟨_,rfl,h.kup e.own e.Pm ak⟩
  |agg cs=>
   rw[hv]at d f;simp only at d |-;split at d
   . rename_i i;cases d;rw[AAb i];exact⟨σ',rfl,.refl h⟩
   . rename_i i;rw[AAa i];split at d
     . rename_i l w g;cases d;have m:=h.kup (t:=.dead) e.own e.Pm ak;obtain⟨τ',n,g2⟩:=tkL_loc cs m.ag (by
        intro r p j;rw[K6,AAY]at f
        have:=f _ j;simp only[K7,AAu]at this;exact e.rt r this) g
       exact⟨τ',by rw[n],m.trans g2⟩
     . cases d
  |sc=>rw[hv]at d;cases d;exact⟨σ',rfl,.refl h⟩
  |sl=>rw[hv]at d;cases d;exact⟨σ',rfl,.refl h⟩
  |Lm=>rw[hv]at d;cases d;exact⟨σ',rfl,.refl h⟩
  |fp=>rw[hv]at d;cases d;exact⟨σ',rfl,.refl h⟩
  |_=>simp_all
theorem vJ(c:j7):∀{σ σ' τ:Sg}{l:i5},Ag G A σ σ'->(∀x∈c,vU G A x)->OJ G c σ=some (l,τ)->∃τ',OJ G c σ'=some (l,τ')/\Mv G A σ σ' τ τ':=by
 induction c with
 |nil=>intro σ σ' τ l h _ b;simp only[OJ,AAU,AAj]at b |-;obtain⟨rfl,rfl⟩:=b;exact⟨σ',⟨rfl,rfl⟩,.refl h⟩
 |cons x c ih=>
  intro σ σ' τ l h e b;simp only[OJ]at b |-;split at b
  . rename_i a n j;obtain⟨p,f,g2⟩:=RJ h (e x ak) j;rw[f];simp only;split at b
    . rename_i l' o k;cases b;obtain⟨d,g,i⟩:=ih g2.ag (λy m=>e y (by simp[m])) k;exact⟨d,by rw[g],g2.trans i⟩
    . cases b
  . cases b
theorem tkRaw_loc(c:j7):∀{σ σ' τ:Sg}{l:i5},Ag G A σ σ'->(∀x∈c,vU G A x)->S7 G c σ=some (l,τ)->∃τ',S7 G c σ'=some (l,τ')/\Mv G A σ σ' τ τ':=by
 induction c with
 |nil=>intro σ σ' τ l h _ b;simp only[S7,AAU,AAj]at b |-;obtain⟨rfl,rfl⟩:=b;exact⟨σ',⟨rfl,rfl⟩,.refl h⟩
 |cons x c ih=>
  intro σ σ' τ l h e b;simp only[S7]at b |-;split at b
  . rename_i a n j;obtain⟨p,f,g2⟩:=RJ h (e x ak) j;rw[f];simp only;split at b
    . rename_i l' o k;cases b;obtain⟨d,g,i⟩:=ih g2.ag (λy m=>e y (by simp[m])) k;exact⟨d,by rw[g],g2.trans i⟩
    . cases b
  . cases b
theorem bldL_loc(c:mr):∀{σ σ' τ:Sg}{e l:i5},Ag G A σ σ'->(∀p∈c,vU G A p.2.2)->XJ G c e σ=some (l,τ)->∃τ',XJ G c e σ'=some (l,τ')/\Mv G A σ σ' τ τ':=by
 induction c with
 |nil=>intro σ σ' τ e l h _ b;simp only[XJ,AAU,AAj]at b |-;obtain⟨rfl,rfl⟩:=b;exact⟨σ',⟨rfl,rfl⟩,.refl h⟩
 |cons p c ih=>
  obtain⟨off,n,x⟩:=p;intro σ σ' τ e l h f b;simp only[XJ]at b |-;split at b
  . rename_i a q k;obtain⟨r,g,g2⟩:=RJ h (f _ (ABT ..)) k;rw[g];simp only;split at b
    . rename_i m;rw[AAb m];obtain⟨d,i,j⟩:=ih g2.ag (λy o=>f y (by simp[o])) b;exact⟨d,i,g2.trans j⟩
    . cases b
  . cases b
theorem bslL_loc(k:Nat)(c:nr):∀{σ σ' τ:Sg}{e l:i6},Ag G A σ σ'->(∀p∈c,vU G A p.2)->XK G k c e σ=some (l,τ)->∃τ',XK G k c e σ'=some (l,τ')/\Mv G A σ σ' τ τ':=by
 induction c with
 |nil=>intro σ σ' τ e l h _ b;simp only[XK,AAU,AAj]at b |-;obtain⟨rfl,rfl⟩:=b;exact⟨σ',⟨rfl,rfl⟩,.refl h⟩
 |cons p c ih=>
  obtain⟨i,x⟩:=p;intro σ σ' τ e l h f b;simp only[XK]at b |-;split at b
  . rename_i a r n;obtain⟨s,g,g2⟩:=RJ h (f _ (ABT ..)) n;rw[g];simp only;split at b
    . rename_i o;rw[AAb o];obtain⟨d,j,m⟩:=ih g2.ag (λy q=>f y (by simp[q])) b;exact⟨d,j,g2.trans m⟩
    . cases b
  . cases b
theorem appY_loc(h:Ag G A σ σ')(o:vU G A y)(d:Yd G k y σ=some (rows,τ)):∃τ',Yd G k y σ'=some (rows,τ')/\Mv G A σ σ' τ τ':=by
 cases y with
 |c a=>
  simp only[Yd]at d |-;split at d
  . cases d;exact⟨σ',rfl,.refl h⟩
  . cases d
 |t s=>
  have f:Cl G A s:=o;have n:=h.eq s f.own;have g:=h.ri s f.own;simp only[Yd]at d |-;rw[n];cases hv:σ s with
  |own b k' rows'=>
   rw[hv]at d;cases b with
   |true=>cases d
   |false=>
    simp only at d |-;split at d
    . rename_i i;cases d;rw[AAb i];exact⟨_,rfl,h.kup f.own f.Pm ak⟩
    . cases d
  |sl e k' rows'=>
   rw[hv]at d;simp only at d |-;split at d
   . rename_i i;cases d;rw[AAb i];exact⟨_,rfl,.refl h⟩
   . cases d
  |al r p=>
   rw[hv]at d g;simp only[K7,AAu]at g;obtain⟨j,l⟩:=f.rt r g;simp only at d |-;split at d
   . rename_i m;obtain⟨q,u,g2⟩:=UO h j l m;grind
   . cases d
  |_=>simp_all
theorem mK(h:Ag G A σ σ')(o:vU G A x)(d:XH G k x σ=some (out,τ)):∃τ',XH G k x σ'=some (out,τ')/\Mv G A σ σ' τ τ':=by
 cases x with
 |c a=>
  simp only[XH]at d |-;split at d
  . cases d;exact⟨σ',rfl,.refl h⟩
  . cases d
 |t s=>
  have f:Cl G A s:=o;have n:=h.eq s f.own;have g:=h.ri s f.own;simp only[XH]at d |-;rw[n];cases hv:σ s with
  |own b k' rows'=>
   rw[hv]at d;cases b with
   |true=>cases d
   |false=>
    simp only at d |-;split at d
    . rename_i i;cases d;rw[AAb i];exact⟨_,rfl,h.kup f.own f.Pm ak⟩
    . cases d
  |sl e k' rows'=>
   rw[hv]at d;cases e with
   |false=>cases d
   |true=>
    simp only at d |-;split at d
    . rename_i i;cases d;rw[AAb i];exact⟨_,rfl,.refl h⟩
    . cases d
  |al r p=>
   rw[hv]at d g;simp only[K7,AAu]at g;obtain⟨j,l⟩:=f.rt r g;simp only at d |-;split at d
   . rename_i m;obtain⟨q,u,g2⟩:=YN h j l m;grind
   . cases d
  |_=>simp_all
end
section
variable{G:Gi}{A:iu}{σ σ' τ τ':Sg}{P:iz}
def WU(G:Gi)(A:iu):Ar->Prop
 | .t s=>A s/\∀r∈G.HA s,A r
 | .c a=>GL [] a=true
def Cl.look(h:Cl G A s):WU G A (.t s):=⟨h.own,λr a=>(h.rt r a).1⟩
theorem vU.look(h:vU G A x):WU G A x:=by
 cases x with
 |t s=>exact Cl.look h
 |c=>exact h
theorem Ag.ar(h:Ag G A σ σ')(a:WU G A x):ar σ' x=ar σ x:=by
 cases x with
 |t s=>exact h.eq s a.1
 |c=>rfl
theorem Ag.root(h:Ag G A σ σ')(a:WU G A (.t s))(b:σ s= .al r p):A r:=by have:=h.ri s a.1;rw[b]at this;simp only[K7,AAu]at this;exact a.2 r this
theorem Ag.rootAdr(h:Ag G A σ σ')(a:WU G A (.t s))(b:σ s= .Lm r p n m k):A r:=by have:=h.ri s a.1;rw[b]at this;simp only[YK,AAu]at this;exact a.2 r this
theorem Ag.hd(h:Ag G A σ σ')(a:WU G A x):hd σ' x=hd σ x:=by
 cases x with
 |c=>rfl
 |t s=>
  unfold Abs.hd;simp only;rw[h.eq s a.1];cases hs:σ s with
  |al r p=>simp only;rw[h.eq r (h.root a hs)]
  |_=>rfl
theorem Ag.ER(h:Ag G A σ σ')(a:WU G A x):ER σ' x=ER σ x:=by
 cases x with
 |c=>rfl
 |t s=>
  unfold Abs.ER;simp only;rw[h.eq s a.1];cases hs:σ s with
  |al r p=>simp only;rw[h.eq r (h.root a hs)]
  |own b k rows=>grind
  |_=>rfl
theorem Ag.Oy(h:Ag G A σ σ')(d:WU G A x)(a:Abs.ER σ x=some (r,p,n,m,k)):A r:=by
 cases x with
 |c=>cases a
 |t s=>
  unfold Abs.ER at a;simp only at a;cases hs:σ s with
  |al r' p'=>
   rw[hs]at a;simp only at a;split at a
   . cases a;exact h.root d hs
   . cases a
  |Lm r' p' i' j' k'=>rw[hs]at a;cases a;exact h.rootAdr d hs
  |own b k' rows=>rw[hs]at a;cases b<;>cases a;exact d.1
  |_=>simp_all
theorem Ag.Og(h:Ag G A σ σ')(a:∀y,lo'=some y->WU G A y)(d:Nat):Og σ' lo' d=Og σ lo' d:=by
 cases lo' with
 |none=>rfl
 |some y=>simp only[Abs.Og];rw[h.ar (a y rfl)]
theorem Ag.mxI(h:Ag G A σ σ')(a:∀y,lo'=some y->WU G A y)(d:Nat):mxI σ' lo' d=mxI σ lo' d:=by
 cases lo' with
 |none=>rfl
 |some y=>simp only[Abs.mxI];rw[h.Og a]
def reads:bH->List Ar
 | .cp x=>[x]
 | .pick c a b=>[c,a,b]
 | .ld _ _ a=>[a]
 | .Wc _ x=>[x]
 | .fld _ _ _ x=>[x]
 | .ZG _ x i=>[x,i]
 | .aad _ _ x i=>[x,i]
 | .idx _ _ _ x i=>[x,i]
 | .bin _ x y=>[x,y]
 | .beq _ x y=>[x,y]
 | .un _ x=>[x]
 | .cvt _ x=>[x]
 | .mm _ x y=>[x,y]
 | .len x=>[x]
 | .dM x=>[x]
 | .pX x i=>[x,i]
 | .pW _ _ x y=>[x,y]
 | .ext x _=>[x]
 | .flk x _=>[x]
 | .mk _ _ _ l c=>[l,c]
 | .I6 x=>[x]
 | .std x=>[x]
 | .mkf _ xs=>xs
 | .ZX a=>[a]
 | .nW r _ _ _ i=>[.t r,i]
 | .slc _ _ _ lo hi mx=>lo.toList++hi.toList++mx.toList
 | .call _ args m=>if m=1\/m=3\/m=4 then[]else args
 | .Vx _ pre _ _ post=>pre++post
 |_=>[]
def bk{p:Prop}(h:p:=by simp[reads]):p:=h
def takes:bH->List Ar
 | .mv x=>[x]
 | .fz x=>[x]
 | .bx _ x=>[x]
 | .TK _ ps=>ps.map (·.2.2)
 | .OR _ _ ps=>ps.map (·.2)
 | .st _ a v=>[a,v]
 | .YM a v=>[a,v]
 | .app _ _ x y=>[x,y]
 | .slc _ _ x _ _ _=>[x]
 | .call _ args m=>if m=1\/m=3\/m=4 then args else[]
 | .Vx _ _ x _ _=>[x]
 |_=>[]
def bL{p:Prop}(h:p:=by simp[takes]):p:=h
theorem Ag.valOf(h:Ag G A σ σ')(o:bH)(d:∀x∈reads o,WU G A x):valOf o σ'=valOf o σ:=by
 cases o with
 |cp x=>
  cases x with
  |c=>rfl
  |t s=>simp only[Abs.valOf];rw[h.eq s (d (.t s) bk).1]
 |pick c a b=>have u:=h.ar (d c bk);have w:=h.ar (d a bk);have B:=h.ar (d b bk);simp only[Abs.valOf];grind
 |ld agg n a=>
  cases a with
  |c=>rfl
  |t s=>
   have e:=d (.t s) bk;simp only[Abs.valOf];rw[h.eq s e.1];cases hs:σ s with
   |fp=>rfl
   |cb=>rfl
   |vb q o us=>have z:A q:=(by have:=h.ri s e.1;rw[hs]at this;simp only[rin_vb,AAu]at this;exact e.2 q this);simp only;rw[h.eq q z]
   |_=>
    simp only;rw[h.ER e];cases ha:Abs.ER σ (.t s)with
    |none=>rfl
    |some q=>obtain⟨r,p,i,j,k⟩:=q;simp only;rw[h.eq r (h.Oy e ha)]
 |Wc off x=>
  cases x with
  |c=>rfl
  |t s=>have e:=d (.t s) bk;simp only[Abs.valOf];rw[h.eq s e.1,h.ER e]
 |fld agg off n x=>
  cases x with
  |c=>rfl
  |t s=>have e:=d (.t s) bk;simp only[Abs.valOf];rw[h.eq s e.1]
 |ZG k x i=>simp only[Abs.valOf];rw[h.hd (d x bk),h.ar (d i bk)]
 |aad len k x i=>
  cases x with
  |c=>rfl
  |t s=>
   have e:=d (.t s) bk;simp only[Abs.valOf];rw[h.ar (d i bk)];cases rL (Abs.ar σ i)with
   |none=>rfl
   |some n=>simp only;rw[h.eq s e.1,h.ER e]
 |idx agg len k x i=>
  cases x with
  |c=>rfl
  |t s=>
   have e:=d (.t s) bk;simp only[Abs.valOf];rw[h.ar (d i bk)];cases rL (Abs.ar σ i)with
   |none=>rfl
   |some n=>simp only;rw[h.eq s e.1]
 |bin op x y=>simp only[Abs.valOf];rw[h.ar (d x bk),h.ar (d y bk)]
 |beq op x y=>simp only[Abs.valOf];rw[h.ar (d x bk),h.ar (d y bk)]
 |un op x=>simp only[Abs.valOf];rw[h.ar (d x bk)]
 |cvt op x=>simp only[Abs.valOf];rw[h.ar (d x bk)]
 |mm mx x y=>simp only[Abs.valOf];rw[h.ar (d x bk),h.ar (d y bk)]
 |len x=>simp only[Abs.valOf];rw[h.hd (d x bk)]
 |dM x=>simp only[Abs.valOf];rw[h.ar (d x bk)]
 |pW neg kd x y=>simp only[Abs.valOf];rw[h.ar (d x bk),h.ar (d y bk)]
 |pX x y=>simp only[Abs.valOf];rw[h.ar (d x bk),h.ar (d y bk)]
 |ext x i=>
  cases x with
  |c=>rfl
  |t s=>simp only[Abs.valOf];rw[h.eq s (d (.t s) bk).1]
 |mkf f xs=>
  have key:∀l:List Ar,(∀x∈l,WU G A x)->XL σ' l=XL σ l:=by
   intro l;induction l with
   |nil=>intro _;rfl
   |cons x l ih=>
    intro e;have u:=e x ak;have w:=ih λy v=>e y (by simp[v]);cases x with
    |c=>rfl
    |t s=>
     simp only[XL];rw[h.eq s u.1,w];cases hs:σ s with
     |al r p=>cases XL σ l<;>first|rfl| (simp only;rw[h.eq r (h.root u hs)])
     |own b k rows=>grind
     |_=>simp_all
  simp only[Abs.valOf];have g:∀l:List Ar,(∀x∈l,WU G A x)->iD σ' l=iD σ l:=by
   intro l;induction l with
   |nil=>intro _;rfl
   |cons x l ih=>intro e;simp only[iD];rw[h.ar (e x ak),ih λy v=>e y (by simp[v])]
  rw[key xs (λx m=>d x (by simpa[reads]using m)),g xs (λx m=>d x (by simpa[reads]using m))]
 |fl=>rfl
 |flk x i=>
  cases x with
  |c=>rfl
  |t s=>simp only[Abs.valOf];rw[h.eq s (d (.t s) bk).1]
 |nW r off kb k i=>simp only[Abs.valOf];rw[h.eq r (d (.t r) bk).1,h.ar (d i bk)]
 |ZX a=>
  have e:=d a bk;simp only[Abs.valOf];rw[h.ER e];cases ha:Abs.ER σ a with
  |none=>rfl
  |some q=>obtain⟨r,p,i,j,k⟩:=q;simp only;rw[h.eq r (h.Oy e ha)]
 |I6 x=>
  have e:=d x bk;simp only[Abs.valOf];rw[h.ar e];cases x with
  |c a=>
   cases a with
   |al r p=>simp[WU]at e
   |own b k rows=>cases b<;>rfl
   |_=>rfl
  |t s=>
   simp only[Abs.ar];cases hs:σ s with
   |al r p=>simp only;rw[h.eq r (h.root e hs)]
   |own b k rows=>grind
   |_=>rfl
 |_=>rfl
variable{W:iu}
theorem Ud(kl:jh)(d:Nat)(σ:Sg)(s:Nat):Jl kl d σ s=if s∈kl then Dv d (σ s)else σ s:=by cases kl<;>simp[Jl]
def Ag.mono(h:Ag G R σ σ')(b:∀s,A s->R s):Ag G A σ σ':=⟨λs a=>h.eq s (b s a),λs a=>h.ri s (b s a)⟩
theorem Mv.wr{d:D3}{f:Sg}(h:Mv G W σ σ' τ τ')(hd:W d.d/\d.rs=G.HA d.d)(j:∀x∈d.kl,W x)(c:wr d out τ=some f):∃b,wr d out τ'=some b/\Mv G W σ σ' f b:=by
 unfold Abs.wr at c |-;split at c
 . rename_i k;cases c;rw[AAb k];refine⟨_,rfl,⟨λs a=> ?_,λs a=> ?_⟩,λs a=> ?_⟩
   . simp only[Dn,Ud,h.ag.eq s a]
   . simp only[Dn,Ud];split
     . simp_all
     . split
       . exact PZ _ _ _ (h.ag.ri s a)
       . exact h.ag.ri s a
   . have g:s≠d.d:=λe=>a (e▸hd.1);have i:s∉d.kl:=λe=>a (j s e);simp only[Dn,g,AAk,Ud,i];exact h.off s a
 . cases c
theorem xX(p:i4)(i k:Nat)(a:i5):∀{j:Nat}{t b:AV},stC p i k j a t=some b->GL L t=true->a.all GN=true->GL L b=true:=by
 induction a with
 |nil=>intro j t b h e _;simp only[stC,AAU]at h;simp_all
 |cons c a ih=>
  intro j t b h e d;simp only[ABF,AAT]at d;simp only[stC]at h;split at h
  . rename_i g f;exact ih h (YL _ f e (mT d.1)) d.2
  . cases h
def HasD(G:Gi)(W:iu)(d:ABu D3):Prop:=∀x,d=some x->(W x.d/\x.rs=G.HA x.d)/\∀y∈x.kl,W y
theorem eff_loc(h:Ag G R σ σ')(hWR:∀s,W s->R s){o:bH}(N:∀x∈takes o,vU G W x)(Q:∀x∈reads o,WU G R x)(hd:HasD G W dst)(f:G8 G o dst σ=some τ):
 ∃τ',G8 G o dst σ'=some τ'/\Mv G W σ σ' τ τ':=by
 have g:Ag G W σ σ':=h.mono hWR;have val:∀S,dst=some S->(match Abs.valOf o σ with|some v=>Abs.wr S v σ|none=>none)=some τ->∃τ',(match Abs.valOf o σ' with|some v=>Abs.wr S v σ'|none=>none)=some τ'/\Mv G W σ σ' τ τ':=by
  intro S T5 f;rw[h.valOf o Q];cases hv:Abs.valOf o σ with
  |none=>rw[hv]at f;cases f
  |some v=>rw[hv]at f;exact(Mv.refl g).wr (hd S T5).1 (hd S T5).2 f
 cases dst with
 |none=>
  cases o with
  |st n a v=>
   simp only[G8]at f |-;split at f
   . rename_i x w B;obtain⟨O,C,g2⟩:=RJ g (N v bL) B;rw[C];simp only;have F:=(N a bL).look;rw[g2.ag.ER F];split at f
     . rename_i r p i j k D;have E:W r:=g2.ag.Oy F D;have T:∀x∈G.Pm r,W x:=by
        have KB:=N a bL;cases a with
        |c=>cases D
        |t s=>
         have H:Cl G W s:=KB;simp only[Abs.ER]at D;have J:=g2.ag.ri s H.own;cases hs:w s with
         |al r' p'=>
          rw[hs]at D J;simp only at D;simp only[K7,AAu]at J;split at D
          . cases D;exact(H.rt _ J).2
          . cases D
         |Lm r' p' i' j' Z=>rw[hs]at D J;cases D;simp only[YK,AAu]at J;exact(H.rt _ J).2
         |own b Z rows=>rw[hs]at D;cases b<;>cases D;exact H.Pm
         |_=>rw[hs]at D;cases D
       rw[g2.ag.eq r E];split at f
       . rename_i b0 k0 rows CU;split at f
         . rename_i row FP;split at f
           . rename_i M;rw[AAb M];split at f
             . rename_i t CX;have XS:GL (G.HA r) t=true:=xX p i k _ CX (g2.ag.ri r E) M.2.1;split at f
               . rename_i V;cases f;rw[AAb V];exact⟨_,rfl,(g2.trans (g2.ag.up E XS))⟩
               . rename_i V;cases f;rw[AAa V];exact⟨_,rfl,(g2.trans (g2.ag.kup E T XS))⟩
             . cases f
           . cases f
         . cases f
       . cases f
     . cases f
   . cases f
  |YM a v=>
   have F:=(N a bL).look;simp only[G8]at f |-;rw[g.ar (N v bL).look,g.ER F];split at f
   . rename_i u hu;split at f
     . rename_i r p i j k D;have E:W r:=g.Oy F D;rw[g.eq r E];split at f
       . rename_i b0 k0 rows CU;split at f
         . rename_i row FP;split at f
           . rename_i u0 hc0;split at f
             . rename_i t CX;have XS:GL (G.HA r) t=true:=xX p i k [.sc u] (j:=j) (by simp only[stC];rw[CX]) (g.ri r E) (by simp[GN]);cases f;exact⟨_,rfl,g.up E XS⟩
             . cases f
           . cases f
         . cases f
       . cases f
     . cases f
   . cases f
  |std a=>
   simp only[G8]at f |-;have F:=Q a bk;rw[h.ER F];split at f
   . rename_i r p i j k D;rw[h.eq r (h.Oy F D)];split at f
     . cases f;exact⟨σ',rfl,Mv.refl g⟩
     . cases f
   . cases f
  |_=>simp[G8]at f
 |some dst=>
  obtain⟨L,K⟩:=hd dst rfl;cases o with
  |mv x=>
   simp only[G8]at f |-;split at f
   . rename_i v w B;obtain⟨O,C,g2⟩:=RJ g (N x bL) B;rw[C];exact g2.wr L K f
   . cases f
  |fz x=>
   cases x with
   |c=>simp[G8]at f
   |t s=>
    have H:Cl G W s:=N (.t s) bL;have J:=g.ri s H.own;simp only[G8]at f |-;rw[g.eq s H.own];cases hs:σ s with
    |al r p=>
     rw[hs]at f J;simp only[K7,AAu]at J;simp only at f |-;split at f
     . rename_i v w B;obtain⟨O,C,g2⟩:=UO g (H.rt r J).1 (H.rt r J).2 B;rw[C];exact g2.wr L K f
     . cases f
    |own b k rows=>
     rw[hs]at f;simp only at f |-;split at f
     . rename_i v w B;obtain⟨O,C,g2⟩:=UO g H.own H.Pm B;rw[C];exact g2.wr L K f
     . cases f
    |sc v=>rw[hs]at f;exact(Mv.refl g).wr L K f
    |sl e k rows=>rw[hs]at f;exact(Mv.refl g).wr L K f
    |_=>rw[hs]at f;cases f
  |bx n x=>
   simp only[G8]at f |-;split at f
   . rename_i v w B;obtain⟨O,C,g2⟩:=RJ g (N x bL) B;rw[C];simp only;split at f
     . rename_i M;rw[AAb M];exact g2.wr L K f
     . cases f
   . cases f
  |TK z ps=>
   simp only[G8]at f |-;split at f
   . rename_i v w B;obtain⟨O,C,g2⟩:=bldL_loc ps g (λp hp=>N _ (by simp only[takes,ABh];exact⟨p,hp,rfl⟩)) B;rw[C];exact g2.wr L K f
   . cases f
  |OR k z ps=>
   simp only[G8]at f |-;split at f
   . rename_i v w B;obtain⟨O,C,g2⟩:=bslL_loc k ps g (λp hp=>N _ (by simp only[takes,ABh];exact⟨p,hp,rfl⟩)) B;rw[C];exact g2.wr L K f
   . cases f
  |mk k bytes z l c=>
   simp only[G8]at f |-;rw[h.ar (Q l bk),h.ar (Q c bk)];split at f
   . rename_i l' c' B P;split at f
     . rename_i M;rw[AAb M];exact(Mv.refl g).wr L K f
     . cases f
   . cases f
  |slc k fr x lo hi mx=>
   have U:=N x bL;have hlo:∀y,lo=some y->WU G R y:=λy X=>Q y (by simp[reads,X]);have hhi:∀y,hi=some y->WU G R y:=λy X=>Q y (by simp[reads,X]);have hmx:∀y,mx=some y->WU G R y:=λy X=>Q y (by simp[reads,X]);simp only[G8]at f |-;rw[g.hd U.look];have eo:∀dst,Abs.Og σ' lo dst=Abs.Og σ lo dst:=h.Og hlo;have eh:∀dst,Abs.Og σ' hi dst=Abs.Og σ hi dst:=h.Og hhi;have em:∀dst,Abs.mxI σ' mx dst=Abs.mxI σ mx dst:=h.mxI hmx;simp only[eo,eh,em];split at f
   . rename_i e Z rows q I
     try rw[I]
     try simp only
     split at f
     . rename_i l hh B P
       try rw[B,P]
       try simp only
       split at f
       . rename_i rs m h3 h4
         try rw[h3,h4]
         try simp only
         split at f
         . rename_i M;rw[AAb M];exact(Mv.refl g).wr L K f
         . cases f
       . cases f
     . cases f
   . rename_i Z rows r p I;have Wi:W r/\∀x∈G.Pm r,W x:=by
      cases x with
      |c a=>cases a<;>cases I
      |t s=>
       have H:Cl G W s:=U;have J:=g.ri s H.own;simp only[Abs.hd]at I;cases hs:σ s with
       |al r' p'=>
        rw[hs]at I J;simp only[K7,AAu]at J;simp only at I;split at I
        . cases I;exact H.rt _ J
        . cases I
       |own b k rows=>rw[hs]at I;cases I;exact⟨H.own,H.Pm⟩
       |sl=>rw[hs]at I;cases I
       |_=>rw[hs]at I;cases I
     try rw[I]
     try simp only
     split at f
     . rename_i l hh B P
       try rw[B,P]
       try simp only
       split at f
       . rename_i rs m h3 h4
         try rw[h3,h4]
         try simp only
         split at f
         . rename_i M;rw[AAb M];split at f
           . rename_i hf;rw[AAb hf];split at f
             . rename_i v w h5;obtain⟨O,C,g2⟩:=UO g Wi.1 Wi.2 h5;rw[C];exact g2.wr L K f
             . cases f
           . rename_i hf;rw[AAa hf];split at f
             . rename_i V;rw[AAb V];split at f
               . rename_i v w h5;obtain⟨O,C,g2⟩:=YN g Wi.1 Wi.2 h5;rw[C];exact g2.wr L K f
               . cases f
             . cases f
         . cases f
       . cases f
     . cases f
   . cases f
  |app k bytes x y=>
   simp only[G8]at f |-;split at f
   . rename_i ys w B;obtain⟨O,C,g2⟩:=appY_loc g (N y bL) B;rw[C];simp only;split at f
     . rename_i b Z rows τ2 P;obtain⟨τ2',g3,g4⟩:=mK g2.ag (N x bL) P;rw[g3];simp only;split at f
       . rename_i M;rw[AAb M];exact(g2.trans g4).wr L K f
       . cases f
     . rename_i e Z rows τ2 P;obtain⟨τ2',g3,g4⟩:=mK g2.ag (N x bL) P;rw[g3];simp only;split at f
       . rename_i hq;rw[AAb hq];exact(g2.trans g4).wr L K f
       . rename_i hq;rw[AAa hq];split at f
         . rename_i M;rw[AAb M];exact(g2.trans g4).wr L K f
         . cases f
     . cases f
   . cases f
  |st=>simp[G8,Abs.valOf]at f
  |call=>simp[G8,Abs.valOf]at f
  |bad=>simp[G8,Abs.valOf]at f
  |_=>exact val dst rfl f
end
variable{W:iu}
section
variable{G:Gi}{A:iu}{σ σ' τ τ':Sg}{P:iz}
theorem Pe{τ:Sg}:C2 dst out K τ↔∃a,C2 dst out (· =a) τ/\K a:=by
 cases dst with
 |none=>simp[C2]
 |some dst=>simp only[C2];grind
theorem RZ:EE P G io K σ↔∃τ,EE P G io (· =τ) σ/\K τ:=by
 unfold EE;split
 . split
   . constructor
     . rintro⟨a,c,b⟩;split at b
       . obtain⟨e,h,g2⟩:=Pe.1 b;grind
       simp_all
     . rintro⟨e,⟨a,c,b⟩,f⟩;refine⟨a,c,?_⟩;split at b
       . rename_i v j;exact Pe.2 ⟨e,b,f⟩
       omega
   . simp
 . split
   . split
     . constructor
       . rintro⟨a,out,u,c,b,f,g,d⟩;split at d
         . obtain⟨e,h,g2⟩:=Pe.1 d;grind
         simp_all
       . rintro⟨e,⟨a,out,u,c,b,f,g,d⟩,i⟩;refine⟨a,out,u,c,b,f,g,?_⟩;split at d
         . exact Pe.2 ⟨e,d,i⟩
         omega
     . simp
   . simp
 grind
theorem FE:Jo P G io K σ↔∃τ,Jo P G io (· =τ) σ/\K τ:=by
 unfold Jo;split
 . exact RZ
 . split
   . split
     . exact RZ
     grind
   all_goals grind
theorem TF(a:jG):∀{σ:Sg}{K:iv},O0 P G a K σ->∃q:Nat->Sg,q 0=σ/\(∀i io,a[i]? =some io->Jo P G io (· =q (i+1)) (q i))/\K (q a.length):=by
 induction a with
 |nil=>intro σ K h;exact⟨λ_=>σ,rfl,ak,h⟩
 |cons o os ih=>
  intro σ K h;obtain⟨τ,e,c⟩:=FE.1 h;obtain⟨q,d,g2,b⟩:=ih c;refine⟨λi=>match i with|0=>σ|i+1=>q i,rfl,?_,b⟩
  grind
theorem Ag.Uz(h:Ag G A σ σ'){a:AV}(c:∀r p,a= .al r p->A r):Uz σ' a=Uz σ a:=by
 cases a with
 |al r p=>simp only[Abs.Uz];rw[h.eq r (c r p rfl)]
 |own b k rows=>cases b<;>first|rfl| (match rows with|[]=>rfl|[_]=>rfl|_::_::_=>rfl)
 |_=>rfl
theorem Ag.rdL(h:Ag G A σ σ')(b:i5):(∀r p,AV.al r p∈b->A r)->rdL σ' b=rdL σ b:=by
 induction b with
 |nil=>intro _;rfl
 |cons a b ih=>intro c;simp only[Abs.rdL];rw[h.Uz (a:=a) (λr p e=>c r p (by simp[e])),ih (λr p d=>c r p (by simp[d]))]
theorem Ag.lP(h:Ag G A σ σ')(d:WU G A x):lP σ' (Abs.ar σ' x)=lP σ (Abs.ar σ x):=by
 rw[h.ar d];cases x with
 |c a=>
  simp only[Abs.ar];cases a with
  |agg cs=>
   simp only[Abs.lP];rw[h.rdL cs (λr p g=>by
    have f:GL [] (.agg cs)=true:=d;rw[K6,AAY]at f
    have:=f _ g;simp at this)]
  |al r p=>have f:GL [] (.al r p)=true:=d;simp at f
  |own b k rows=>cases b<;>first|rfl| (match rows with|[]=>rfl|[_]=>rfl|_::_::_=>rfl)
  |_=>rfl
 |t s=>
  simp only[Abs.ar];cases hs:σ s with
  |agg cs=>
   simp only[Abs.lP];rw[h.rdL cs (λr p g=>by
    have:=h.ri s d.1;rw[hs,K6,AAY]at this
    have:=this _ g;simp only[K7,AAu]at this;exact d.2 r this)]
  |al r p=>simp only[Abs.lP];exact h.Uz (λi p' e=>by cases e;exact h.root d hs)
  |own b k rows=>cases b<;>first|rfl| (match rows with|[]=>rfl|[_]=>rfl|_::_::_=>rfl)
  |_=>rfl
theorem Ag.Js(h:Ag G A σ σ')(a:j7):(∀x∈a,WU G A x)->Js σ' a=Js σ a:=by
 induction a with
 |nil=>intro _;rfl
 |cons x a ih=>intro b;simp only[Abs.Js];rw[h.lP (b x ak),ih (λy c=>b y (by simp[c]))]
theorem Ag.Yo(h:Ag G A σ σ')(rs:j9):(∀x∈rs,A x.1)->Yo σ' rs=Yo σ rs:=by
 induction rs with
 |nil=>intro _;rfl
 |cons x rs ih=>obtain⟨r,p⟩:=x;intro b;simp only[Abs.Yo];rw[h.Uz (a:=.al r p) (λd p' e=>am),ih (λy c=>b y (by simp[c]))]
theorem tkLk_loc(g:j7):∀{σ σ' τ:Sg}{b:i5},Ag G A σ σ'->(∀x∈g,vU G A x)->Xz G g σ=some (b,τ)->∃τ',Xz G g σ'=some (b,τ')/\Mv G A σ σ' τ τ':=by
 induction g with
 |nil=>intro σ σ' τ b _ _ a;simp[Xz]at a
 |cons y g ih=>
  intro σ σ' τ b h m a;have k:=m y ak;cases g with
  |nil=>
   simp only[Xz]at a |-;rw[h.ar k.look];split at a
   . rename_i f rs j;have d:∀x∈rs,A x.1:=by
      intro x w;cases y with
      |c c0=>simp only[Abs.ar]at j;subst j;have z:GL [] (.cl f rs)=true:=k;simp_all
      |t s=>
       simp only[Abs.ar]at j;have e:Cl G A s:=k
       have:=h.ri s e.own;rw[j,rin_cl,AAY]at this;exact(e.rt x.1 aS).1
     rw[h.Yo rs d];split at a
     . rename_i D F;simp only[AAU,AAj]at a;obtain⟨rfl,rfl⟩:=a;exact⟨σ',rfl,Mv.refl h⟩
     . cases a
   . cases a
  |cons y2 g=>
   simp only[Xz]at a |-;split at a
   . rename_i v B r;obtain⟨E,o,g2⟩:=RJ h k r;rw[o];simp only;split at a
     . rename_i l C u;simp only[AAU,AAj]at a;obtain⟨rfl,rfl⟩:=a;obtain⟨i,p,q⟩:=ih g2.ag (λx n=>m x (by simp[n])) u;rw[p];exact⟨i,rfl,g2.trans q⟩
     . cases a
   . cases a
theorem gD{c:Sg}(h:Mv G W σ σ' τ τ')(hd:HasD G W dst)(b:C2 dst out (· =c) τ):∃a,C2 dst out (· =a) τ'/\Mv G W σ σ' c a:=by
 cases dst with
 |none=>cases b;exact⟨τ',rfl,h⟩
 |some dst=>
  simp only[C2]at b |-;split at b
  . rename_i x e;subst b;obtain⟨a,f,g2⟩:=h.wr (hd dst rfl).1 (hd dst rfl).2 e;simp_all
  simp_all
theorem Ag.rdF(h:Ag G A σ σ')(b:WU G A x):rdF σ' x=rdF σ x:=by
 cases x with
 |c a=>rfl
 |t s=>simp only[Abs.rdF];rw[h.eq s b.1]
theorem Ag.OD(h:Ag G A σ σ')(a:j7):(∀x∈a,WU G A x)->OD σ' a=OD σ a:=by
 induction a with
 |nil=>intro _;rfl
 |cons x a ih=>intro b;simp only[Abs.OD];rw[h.rdF (b x ak),ih (λy c=>b y (by simp[c]))]
theorem Ag.Qt(h:Ag G A σ σ')(i:vU G A x)(b:Qt σ x c=some (r,p)):Qt σ' x c=some (r,p)/\(∀n,Uf σ' x c n=Uf σ x c n)/\A r/\∀y∈G.Pm r,A y:=by
 cases x with
 |c a=>cases c<;>simp[Abs.Qt,plc]at b
 |t s=>
  have d:Cl G A s:=i;have f:=h.ri s d.own;have e:σ' s=σ s:=h.eq s d.own;have m:Abs.Qt σ' (.t s) c=Abs.Qt σ (.t s) c:=by cases c<;>simp only[Abs.Qt,plc,e]
  refine⟨am,λn=>by cases c<;>simp only[Uf,Abs.ar,e],?_⟩;cases c with
  |none=>
   simp only[Abs.Qt,plc]at b;split at b
   . rename_i k p' g;cases b;rw[g]at f;simp only[K7,AAu]at f;exact⟨(d.rt _ f).1,(d.rt _ f).2⟩
   . cases b;exact⟨d.own,d.Pm⟩
   . cases b
  |some j=>
   simp only[Abs.Qt]at b;split at b
   . rename_i l g;rw[g]at f;split at b
     . rename_i k p' o;cases b
       have:=(by rw[K6,AAY]at f;grind:GL (G.HA s) (.al r p)=true);simp only[K7,AAu]at this;exact⟨(d.rt _ this).1,(d.rt _ this).2⟩
     . cases b;exact⟨d.own,d.Pm⟩
     . cases b
   . cases b
theorem mN(h:Ag G R σ σ')(J:∀s,W s->R s)(B:∀x∈takes io.op,vU G W x)(F:∀x∈reads io.op,WU G R x)(hd:HasD G W io.dst)(a:EE P G io (· =τ) σ):
 ∃τ',EE P G io (· =τ') σ'/\Mv G W σ σ' τ τ':=by
 have j:Ag G W σ σ':=h.mono J;have C:∀op,io.op=op->(match G8 G op io.dst σ with|some L=>L=τ|none=>False)->∃τ',(match G8 G op io.dst σ' with|some L=>L=τ'|none=>False)/\Mv G W σ σ' τ τ':=by
  intro op n a;split at a
  . rename_i L hu;subst a;obtain⟨τ',i,g2⟩:=eff_loc h J (by rw[<- n];exact B) (by rw[<- n];exact F) hd hu;exact⟨τ',by rw[i],g2⟩
  . exact a.elim
 cases n:io.op with
 |call f args m=>
  unfold EE at a |-;rw[n]at a B F |-;simp only at a |-;split at a
  . rename_i H U d;obtain⟨D,O,I⟩:=a;have key:∃g,G6 G m args σ'=some (H,g)/\Mv G W σ σ' U g:=by
     by_cases S:m=1
     . subst S;simp only[G6]at d |-;obtain⟨g,i,g2⟩:=vJ args j (by simpa[takes]using B) d;exact⟨g,i,g2⟩
     . by_cases w:m=3
       . subst w;simp only[G6]at d |-;obtain⟨g,i,g2⟩:=tkRaw_loc args j (by simpa[takes]using B) d;exact⟨g,i,g2⟩
       by_cases z:m=4
       . subst z;simp only[G6]at d |-;obtain⟨g,i,g2⟩:=tkLk_loc args j (by simpa[takes]using B) d;exact⟨g,i,g2⟩
       have e:∀σ,G6 G m args σ=match Abs.Js σ args with|some l=>some (l,σ)|none=>none:=by
        intro σ;unfold G6;split
        . exact absurd rfl S
        . exact absurd rfl w
        . exact absurd rfl z
        . rfl
       rw[e]at d |-;rw[h.Js args (by simpa[reads,S,w,z]using F)];split at d
       . cases d;exact⟨σ',rfl,Mv.refl j⟩
       . cases d
    obtain⟨g,i,g2⟩:=key;rw[i];simp only;split at I
    . rename_i v hv;obtain⟨E,M,N⟩:=gD g2 hd I;exact⟨E,⟨D,O,by rw[hv];exact M⟩,N⟩
    . exact I.elim
  . exact a.elim
 |Vx f pre x c post=>
  unfold EE at a |-;rw[n]at a B F |-;simp only at a |-;split at a
  . rename_i r p H bs hp cE Z;obtain⟨e1,e2,q,K⟩:=j.Qt (B x bL) hp;rw[e1,h.OD pre (λy T=>F y (by simp[reads,T])),h.OD post (λy T=>F y (by simp[reads,T])),cE,Z];simp only[e2];rw[j.eq r q];split at a
    . rename_i b k rows hs;obtain⟨D,out,u,O,I,X,h4,Q⟩:=a;split at Q
      . rename_i t V;have XS:GL (G.HA r) t=true:=YL _ V (j.ri r q) (O2 X);obtain⟨E,M,N⟩:=gD (j.kupn _ q K XS) hd Q;exact⟨E,⟨D,out,u,O,I,X,h4,by rw[V];exact M⟩,N⟩
      . exact Q.elim
    . exact a.elim
  . exact a.elim
 |_=>unfold EE at a |-;rw[n]at a |-;exact C _ n a
theorem aop_loc(h:Ag G R σ σ')(c:∀s,W s->R s)(j:∀x∈takes io.op,vU G W x)(i:∀x∈reads io.op,WU G R x)(hd:HasD G W io.dst)(n:∀g,io.guard=some g->R g.1)(a:Jo P G io (· =τ) σ):
 ∃τ',Jo P G io (· =τ') σ'/\Mv G W σ σ' τ τ':=by
 have f:Ag G W σ σ':=h.mono c;have skip:(match io.dst with|some d=>Dn (Jl d.kl d.d σ) d.d .un=τ|none=>σ=τ)->∃τ',(match io.dst with|some d=>Dn (Jl d.kl d.d σ') d.d .un=τ'|none=>σ'=τ')/\Mv G W σ σ' τ τ':=by
  intro a;cases ON:io.dst with
  |none=>rw[ON]at a;subst a;exact⟨σ',rfl,Mv.refl f⟩
  |some d=>rw[ON]at a;subst a;obtain⟨l,m⟩:=hd d ON;have p:Abs.wr d .un σ=some (Dn (Jl d.kl d.d σ) d.d .un):=(by simp[Abs.wr]);obtain⟨r,t,g2⟩:=(Mv.refl f).wr l m p;have q:Abs.wr d .un σ'=some (Dn (Jl d.kl d.d σ') d.d .un):=(by simp[Abs.wr]);simp_all
 unfold Jo at a |-;cases hgd:io.guard with
 |none=>rw[hgd]at a;exact mN h c j i hd a
 |some g=>
  obtain⟨g,k⟩:=g;rw[hgd]at a;simp only at a |-;rw[h.eq g (n _ hgd)];split at a
  . rename_i b u;split at a
    . rename_i e;simp only[AAb e];exact mN h c j i hd a
    grind
  all_goals grind
end
section
variable{G:Gi}{P:iz}
def fX(G:Gi):Ar->List Nat
 | .t s=>s::G.Pm s++(G.HA s).flatMap (λr=>r::G.Pm r)
 | .c _=>[]
def Gy(G:Gi):Ar->List Nat
 | .t s=>s::G.HA s
 | .c _=>[]
def T4(G:Gi)(o:BD):List Nat:=(takes o.op).flatMap (fX G)++(match o.dst with|some d=>d.d::d.kl|none=>[])
def kI(G:Gi)(o:BD):List Nat:=T4 G o++(reads o.op).flatMap (Gy G)++(match o.guard with|some g=>[g.1]|none=>[])
def cOK:Ar->Bool
 | .t _=>true
 | .c a=>GL [] a
def N5(o:BD):Bool:=(takes o.op).all cOK&&(reads o.op).all cOK
theorem dZ(j:N5 io=true)(k:∀d,io.dst=some d->d.rs=G.HA d.d)(h:Ag G (· ∈kI G io) σ σ')(l:Jo P G io (· =τ) σ):∃f,Jo P G io (· =f) σ'/\Mv G (· ∈T4 G io) σ σ' τ f:=by
 simp only[N5,AAT,AAY]at j;refine aop_loc h (λs n=>by simp only[kI,AAo];exact .inl (.inl n)) ?_ ?_ ?_ ?_ l
 . intro x b;cases x with
   |c a=>exact j.1 _ b
   |t s=>
    have key:∀y∈fX G (.t s),y∈T4 G io:=λy e=>(by simp only[T4,AAo,List.mem_flatMap];exact .inl ⟨_,b,e⟩);refine⟨key _ (by simp[fX]),λx b=>key _ (by simp[fX,b]),λr i=>⟨key _ ?_,λx b=>key _ ?_⟩⟩
    . simp only[fX,ABE,AAr,AAo,List.mem_flatMap];exact .inr (.inr ⟨r,i,.inl rfl⟩)
    . simp only[fX,ABE,AAr,AAo,List.mem_flatMap];exact .inr (.inr ⟨r,i,.inr b⟩)
 . intro x b;cases x with
   |c a=>exact j.2 _ b
   |t s=>have key:∀y∈Gy G (.t s),y∈kI G io:=λy e=>(by simp only[kI,AAo,List.mem_flatMap];exact .inl (.inr ⟨_,b,e⟩));exact⟨key _ (by simp[Gy]),λr i=>key _ (by simp[Gy,i])⟩
 . intro d hd;refine⟨⟨?_,k d hd⟩,λy e=> ?_⟩
   . simp only[T4,hd,AAo];exact .inr (ABT ..)
   . simp only[T4,hd,AAo,AAr];exact .inr (.inr e)
 . intro g m;simp only[kI,m,AAo];exact .inr (ABT ..)
theorem aop_off(e:N5 io=true)(b:∀d,io.dst=some d->d.rs=G.HA d.d)(c:∀s,GL (G.HA s) (σ s)=true)(f:Jo P G io (· =τ) σ):(∀s,s∉T4 G io->τ s=σ s)/\∀s,GL (G.HA s) (τ s)=true:=by
 obtain⟨g,_,h⟩:=dZ e b (⟨λ_ _=>rfl,λs _=>c s⟩:Ag G (· ∈kI G io) σ σ) f;refine⟨λs a=>(h.off s a).2,λs=> ?_⟩;by_cases a:s∈T4 G io
 . exact h.ag.ri s a
 . rw[(h.off s a).2];exact c s
def GA(L:js)(W:nj)(s:Nat):Nat->Nat
 |0=>0
 |m+1=>if L m=true/\s∈W m then m+1 else GA L W s m
theorem ZT(L:js)(W:nj)(s m:Nat):GA L W s m<=m:=by
 induction m with
 |zero=>simp[GA]
 |succ m ih=>simp only[GA];split<;>omega
section
variable{q:Nat->Sg}{L L':js}{W R:nj}{n i:Nat}
theorem lastW_at(hi:L i=false)(o:i<n)(e:∀j s,j<n->s∉W j->q (j+1) s=q j s)(f:∀j s,j<i->s∈W j->s∈R i->L j=true)(d:∀j s,i<j->j<n->s∈W j->s∈R i->L j=true->L i=true)(c:s∈R i):q (GA L W s n) s=q i s:=by
 have:∀m,m<=n->q (GA L W s m) s=q (min m i) s:=by
  intro m;induction m with
  |zero=>intro _;simp[GA]
  |succ m ih=>
   intro p;simp only[GA];by_cases g:m<i
   . rw[show min (m+1) i=m+1 from by omega];by_cases a:s∈W m
     . rw[AAb ⟨f m s g a c,a⟩]
     . rw[AAa (λh=>a h.2),ih ah,show min m i=m from by omega,e m s ah a]
   . rw[AAa,ih ah,show min m i=i from by omega,show min (m+1) i=i from by omega];rintro⟨b,k⟩;by_cases l:m=i
     . subst l;rw[hi]at b;cases b
     . have:=d m s ah ah k c b;rw[hi]at this;cases this
 rw[this n (AAv _),show min n i=i from by omega]
theorem lastW_in(f:i<n)(c:∀j,L' j=(L j||j==i))(hi:L i=false)(e:∀j s,i<j->j<n->s∈W j->s∈W i->L j=true->L i=true)(d:s∈W i):GA L' W s n=i+1:=by
 have:∀m,i<m->m<=n->GA L' W s m=i+1:=by
  intro m;induction m with
  |zero=>intro h;omega
  |succ m ih=>
   intro l o;simp only[GA];by_cases a:m=i
   . subst a;rw[AAb ⟨by simp[c],d⟩]
   . rw[AAa,ih ah ah];rintro⟨b,g⟩;rw[c]at b;have k:L m=true:=by simpa[a]using b
     have:=e m s ah ah g d k;rw[hi]at this;cases this
 exact this n f (AAv _)
theorem lastW_out(a:∀j,L' j=(L j||j==i))(b:s∉W i)(m:Nat):GA L' W s m=GA L W s m:=by
 induction m with
 |zero=>rfl
 |succ m ih=>
  simp only[GA,ih,a];by_cases h:m=i
  . subst h;simp[b]
  . simp[h]
theorem lastW_all(a:∀j,j<n->L j=true)(b:∀j s,j<n->s∉W j->q (j+1) s=q j s)(s:Nat):∀m,m<=n->q (GA L W s m) s=q m s:=by
 intro m;induction m with
 |zero=>intro _;rfl
 |succ m ih=>
  intro c;simp only[GA];by_cases h:s∈W m
  . rw[AAb ⟨a m ah,h⟩]
  . rw[AAa (λx=>h x.2),ih ah,b m s ah h]
end
end
end Go.Abs
