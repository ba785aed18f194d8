/- A calculus of abstract states of Go memory, and that it is sound. -/
import Derived.Test.YtdojkofgkcmagaaGreatDoorCoreA
import Derived.Laws.MakeOwn
set_option linter.defProp false
set_option linter.unusedSimpArgs false
set_option linter.unusedVariables false
namespace Go.Abs
variable{a:Act}{o:Oper}{t e:TypeId}{g:dm}{l:dH}{d:Dp}{σ':Sg}{k n:Nat}{rs:dn}{ds:dr}{Q:iy}{u H:Operand}{x y:Ar}{i:TypeInfo}{v:Value}
section
variable{w w':World}{S S':de}{G:Gi}{δ:dy}{Fr:dh}{P:Program}
theorem Z6(b:gu)(a:List Value)(i off n:Nat)(v:Value)(c:List (Nat×Value))(vs:List Value)(j:b i=some (off,n))(f:v.cells=vs.toArray)(hn:vs.length=n)(k:off+n<=a.length):
 Instr.fill b a.toArray ((i,v)::c)=Instr.fill b (a.take off++vs++a.drop (off+vs.length)).toArray c:=by
 have h:(decide (v.cells.size≠n)||decide (off+v.cells.size>a.toArray.size))=false:=by simp[f,hn];omega
 have d:=fold_set vs off a.toArray an 0;simp only[Nat.add_zero]at d;rcases d with d|d
 . have:(v.cells.zipIdx.foldl (λg (x:Value×Nat)=>g.setIfInBounds (off+x.2) x.1) a.toArray)=(a.take off++vs++a.drop (off+vs.length)).toArray:=(by apply ABT;rw[f,<- d];have e:vs.toArray.zipIdx=vs.zipIdx.toArray:=(by simp);rw[e];simp);simp only[Instr.fill,j,h];simp only[AAM,AAT];exact ABZ (λz=>Instr.fill b z c) this
 . simp at d;omega
def Lc(place:gu):List (Nat×Operand)->List (Nat×Nat×Ar)->Bool
 |[],[]=>true
 | (i,x)::qs,(off,n,y)::ps=>(match place i with|some (o',n')=>o'==off&&n'==n|none=>false)&&CR x y&&Lc place qs ps
 |_,_=>false
theorem St.VS{b:gu}(L:gv):∀(l:List (Nat×Operand)) {δ:dy} {Fr:dh} {ds:dH} {Fd:de} {f:dm} {τ:Sg},St G w S δ Fr->Rd δ a->
 Lc b l L=true->JQ w S ds Fd->(∀s x,Fr s x->¬Fd x)->(ds.map DV.er).all FN=true->Abs.VS G L (ds.map DV.er) (λs=>(δ s).er)=some (f,τ)->
 ∃B N E J,St G w S B N/\(λs=>(B s).er)=τ/\(∀s,(B s).A0=(δ s).A0)/\JQ w S E J/\E.map DV.er=f/\Instr.fill b (ds.map DV.A0).toArray (l.map λ(i,x)=>(i,a.eval x))=some (E.map DV.A0).toArray/\
  (∀s x,N s x->¬J x)/\(∀x,BJ N x\/J x->BJ Fr x\/Fd x)/\f.all FN=true:=by
 induction L with
 |nil=>
  intro l δ Fr ds Fd f τ h Q d M K C g;cases l with
  |cons q l=>simp[Lc]at d
  |nil=>simp only[Abs.VS,AAC,AAQ]at g;obtain⟨rfl,rfl⟩:=g;exact⟨δ,Fr,ds,Fd,h,rfl,λ_=>rfl,M,rfl,by simp[Instr.fill],K,λx m=>m,C⟩
 |cons p L ih=>
  obtain⟨off,n,y⟩:=p;intro l δ Fr ds Fd f τ h Q d M K C g;cases l with
  |nil=>simp[Lc]at d
  |cons q l=>
   obtain⟨i,x⟩:=q;simp only[Lc,AAD]at d;obtain⟨⟨H,T⟩,R⟩:=d;have pL:b i=some (off,n):=by
    split at H
    . rename_i o' n' UI;simp only[AAD,AAR]at H;rw[UI,H.1,H.2]
    . cases H
   obtain⟨hy,Mp⟩:=Am T Q;simp only[Abs.VS]at g;split at g
   . rename_i v τ1 I;split at g
     . rename_i FQ;obtain⟨hn,Z,O⟩:=FQ;obtain⟨δ1,F1,D,Ff,e,JD,FP,T3⟩:=h.tk hy I;subst JD;subst FP;have V:=LR D e.ok.Kt;have hl:(cellsD D).length=n:=(by rw[<- hn,<- V];simp);have T4:=LZ e.ok O;have U:∀x,Fd x->¬Ff x:=(by intro x m hf;obtain⟨t,I⟩:=e.own x (.inr hf);exact K t x I m);have u:off+(cellsD D).length<=ds.length:=(by rw[hl];simpa using Z);obtain⟨F2,ZF,jO⟩:=Wf off M (NB e.ok) U u;have ML:∀s x,F1 s x->¬F2 x:=by
        intro s x m h2;rcases jO x h2 with o|o
        . obtain⟨t,I⟩:=e.own x (.inl ⟨s,m⟩);exact K t x I o
        . exact e.Lu s x m o
       have W:=qX ds (cellsD D) off;have j:((ds.take off++cellsD D++ds.drop (off+(cellsD D).length)).map DV.er).all FN=true:=by
        rw[AAH]at C O |-;intro c d;simp only[AAp,AAW]at d;rcases d with(d|d)|d
        . exact C c (by rw[ABV]at d;exact ABX d)
        . rw[V]at d;exact O c d
        . exact C c (by rw[List.map_drop]at d;exact List.mem_of_mem_drop d)
       rw[<- V]at g;rw[<- W]at g;obtain⟨X,F2',E,J,KF,RP,MJ,F,PM,XS,r,z,k⟩:=ih l e.st (λs=>(Q s).trans (e.A0 s).symm) R ZF ML j g;refine⟨X,F2',E,J,KF,RP,λs=>(MJ s).trans (e.A0 s),F,PM,?_,r,?_,k⟩
       . simp only[AAU];rw[Z6 b (ds.map DV.A0) i off n (a.eval x) _ ((cellsD D).map DV.A0) pL (by rw[Mp,<- T3];exact T4) (by simpa using hl) (by simpa using Z)];rw[<- XS];congr 2;simp[ABV,List.map_drop]
       . intro x m;rcases z x m with o|o
         . exact .inl (e.own x (.inl o))
         . rcases jO x o with P|P
           . exact .inr P
           . exact .inl (e.own x (.inr P))
     . cases g
   . cases g
theorem runs_bld(h:St G w S δ Fr)(k:Rd δ a){b:Array (Nat×Operand)}{f:gu}{r:gv}(hd:I5 G a o (some d))(L:o.op= .build t b)(N:XB g=some l)(j:g.all FN=true)(p:Lc f b.toList r=true)(M:∀c:Array Value,Instr.fill f (l.map DV.A0).toArray (b.toList.map λ(i,x)=>(i,a.eval x))=some c->(Instr.build t (b.map λ(i,x)=>(i,a.eval x))).run P w= .ok (.agg c) w)(m:GO G (.T2 g r) (some d) (λs=>(δ s).er)=some σ'):QS P G w S Fr a o σ':=by
 have z:l.map DV.er=g/\JQ w S l (λ_=>False):=by have:=Ib (w:=w) (S:=S) (δ:=δ) (.agg g) (.agg l) (by simp[Iy,N]);exact⟨by simpa using this.1,B4.1 this.2.1⟩
 simp only[GO]at m;split at m
 . rename_i T τ y;rw[<- z.1]at y j;obtain⟨Q,R,J,O,v,H,F,C,I,K,B,E,u⟩:=h.VS (a:=a) r b.toList k p z.2 (λ_ _ _ h=>h) j y;subst H;subst I;refine KC (D:=.agg J) (Ff:=O) v (λs=>(k s).trans (F s).symm) hd ?_ (λ_ _=>rfl) (λ_ _ _=>rfl) (λ_ h=>h) (λs x q=>(v.ok s).Et x q) (B4.2 C) B (.agg _ λi e hi=> ?_) (by simpa using m) (Nx.less ?_)
   . have:=M _ K;simp only[execOp,L,Sem.run_bind,this,Result.andThen_ok,Sem.run_pure,Jh]
   . exact RC (λa k=>by rw[AAH]at u;exact u a k) e (AAP hi)
   . intro x q;rcases E x q with n|n
     . exact n
     . exact n.elim
 . cases m
theorem Um{c:Type}{rows:List (List c)}{r:List c}(b:∀row∈rows,row.length=k)(hi:n<rows.length)(g:r.length=k):(rows.set n r).flatten=rows.flatten.take (n*k)++r++rows.flatten.drop (n*k+r.length):=by
 induction rows generalizing n with
 |nil=>simp at hi
 |cons x xs ih=>
  have a:=b x ak;cases n with
  |zero=>simp[g,<- a]
  |succ n=>simp only[List.set_cons_succ,List.flatten_cons];rw[ih (λrow d=>b row (by simp[d])) (by simpa using hi)];have e:(x++xs.flatten).take ((n+1)*k)=x++xs.flatten.take (n*k):=(by rw[show(n+1)*k=x.length+n*k from by rw[ABF,a];omega,List.take_length_add_append]);have f:(x++xs.flatten).drop ((n+1)*k+r.length)=xs.flatten.drop (n*k+r.length):=(by rw[show(n+1)*k+r.length=x.length+(n*k+r.length)from by rw[ABF,a];omega,List.drop_length_add_append]);rw[e,f];simp[ABG]
def Nl(k:Nat):List (Nat×Operand)->List (Nat×Ar)->Bool
 |[],[]=>true
 | (i,x)::qs,(j,y)::ps=>i==j&&CR x y&&Nl k qs ps
 |_,_=>false
theorem St.VU(K:iy):∀(d:List (Nat×Operand)) {δ:dy} {Fr:dh} {ds:dr} {Fd:de} {rs:dn} {τ:Sg},St G w S δ Fr->Rd δ a->
 Nl k d K=true->JQ w S ds.flatten Fd->(∀r∈ds,r.length=k)->(∀s x,Fr s x->¬Fd x)->Abs.VU G k K (ds.map (·.map DV.er)) (λs=>(δ s).er)=some (rs,τ)->
 ∃(u:dy)(M:dh)(g:dr)(I:de),St G w S u M/\(λs=>(u s).er)=τ/\(∀s,(u s).A0=(δ s).A0)/\JQ w S g.flatten I/\(∀r∈g,r.length=k)/\g.length=ds.length/\g.map (·.map DV.er)=rs/\
  Instr.fill (λi=>some (i*k,k)) (ds.flatten.map DV.A0).toArray (d.map λ(i,x)=>(i,a.eval x))=some (g.flatten.map DV.A0).toArray/\(∀s x,M s x->¬I x)/\(∀x,BJ M x\/I x->BJ Fr x\/Fd x):=by
 induction K with
 |nil=>
  intro d δ Fr ds Fd rs τ h O C L z J c;cases d with
  |cons q d=>simp[Nl]at C
  |nil=>simp only[Abs.VU,AAC,AAQ]at c;obtain⟨rfl,rfl⟩:=c;exact⟨δ,Fr,ds,Fd,h,rfl,λ_=>rfl,L,z,rfl,rfl,by simp[Instr.fill],J,λx e=>e⟩
 |cons p K ih=>
  obtain⟨j,y⟩:=p;intro d δ Fr ds Fd rs τ h O C L z J c;cases d with
  |nil=>simp[Nl]at C
  |cons q d=>
   obtain⟨i,x⟩:=q;simp only[Nl,AAD,AAR]at C;obtain⟨⟨rfl,Q⟩,P⟩:=C;obtain⟨hy,Mp⟩:=Am Q O;simp only[Abs.VU]at c;split at c
   . rename_i v τ1 H;split at c
     . rename_i FQ;obtain⟨hn,hi,IH⟩:=FQ;obtain⟨δ1,Z,D,Ff,b,JD,FP,T3⟩:=h.tk hy H;subst JD;subst FP;have W:=LR D b.ok.Kt;have B:(cellsD D).length=k:=(by rw[<- hn,<- W];simp);have T4:=LZ b.ok IH;have hi':i<ds.length:=(by simpa using hi);have R:∀x,Fd x->¬Ff x:=(by intro x e hf;obtain⟨t,H⟩:=b.own x (.inr hf);exact J t x H e);have m:i*k+(cellsD D).length<=ds.flatten.length:=(by rw[Dl z,B,<- ABF];exact AAw _ hi');obtain⟨F2,V,X⟩:=Wf (i*k) L (NB b.ok) R m;rw[<- Um z hi' B]at V;have ML:∀s x,Z s x->¬F2 x:=by
        intro s x e h2;rcases X x h2 with l|l
        . obtain⟨t,H⟩:=b.own x (.inl ⟨s,e⟩);exact J t x H l
        . exact b.Lu s x e l
       have XU:∀r∈ds.set i (cellsD D),r.length=k:=by
        intro r hr;rcases AAh hr with h|rfl
        . exact z r h
        . exact B
       rw[<- W]at c;rw[<- AA1 (f:=λx:List DV=>x.map DV.er)]at c;obtain⟨U,F2',g,I,KF,RP,MJ,F,T,E,PM,XS,n,o⟩:=ih d b.st (λs=>(O s).trans (b.A0 s).symm) P V XU ML c;refine⟨U,F2',g,I,KF,RP,λs=>(MJ s).trans (b.A0 s),F,T,by simpa using E,PM,?_,n,?_⟩
       . simp only[AAU];rw[Z6 _ (ds.flatten.map DV.A0) i (i*k) k (a.eval x) _ ((cellsD D).map DV.A0) rfl (by rw[Mp,<- T3];exact T4) (by simpa using B) (by rw[AAo];rw[B]at m;exact m)];rw[<- XS,Um z hi' B];congr 2;simp[ABV,List.map_drop]
       . intro x e;rcases o x e with l|l
         . exact .inl (b.own x (.inl l))
         . rcases X x l with N|N
           . exact .inr N
           . exact .inl (b.own x (.inr N))
     . cases c
   . cases c
def vX:List (List AV)->ABd (List (List DV))
 |[]=>some []
 |r::rs=>match XB r,vX rs with
  |some d,some ds=>some (d::ds)
  |_,_=>none
theorem oO(rs:dn)(ds:dr)(h:vX rs=some ds):ds.map (·.map DV.er)=rs/\JQ w S ds.flatten (λ_=>False):=by
 induction rs generalizing ds with
 |nil=>simp only[vX,AAC]at h;subst h;exact⟨rfl,λ_ h=>h⟩
 |cons r rs ih=>
  simp only[vX]at h;split at h
  . rename_i d a c e;obtain rfl:=AAG h;obtain⟨b,g2⟩:=ih a e
    have:=Ib (w:=w) (S:=S) (δ:=λ_=>default) (.agg r) (.agg d) (by simp[Iy,c]);refine⟨by simp[b];simpa using this.1,?_⟩;simp only[List.flatten_cons];exact(LX (B4.1 this.2.1) g2 (λ_ h=>h.elim)).congr λx=>ak
  . cases h
theorem runs_bsl(h:St G w S δ Fr)(M:∀b,S b->b<w.heap.size)(J:Rd δ a){f:Array (Nat×Operand)}(hd:I5 G a o (some d))(X:o.op= .buildSlice t n f)(hz:vX rs=some ds)(D:∀r∈rs,r.length=k)(F:rs.length=n)(B:Nl k f.toList Q=true)(C:∀g:Array Value,Instr.fill (λi=>some (i*k,k)) (ds.flatten.map DV.A0).toArray (f.toList.map λ(i,x)=>(i,a.eval x))=some g->
  (Instr.buildSlice t n (f.map λ(i,x)=>(i,a.eval x))).run P w= .ok (.slice (some ⟨w.heap.size,0,none⟩) n n) (w.alloc (.cells g e)))(v:GO G (.Nk k rs Q) (some d) (λs=>(δ s).er)=some σ'):QS P G w S Fr a o σ':=by
 obtain⟨m,q⟩:=oO (w:=w) (S:=S) rs ds hz;have p:∀r∈ds,r.length=k:=by
  intro r C
  have:=D (r.map DV.er) (by rw[<- m];exact ABH C);simpa using this
 have l:ds.length=n:=by rw[<- F,<- m];simp
 simp only[GO]at v;split at v
 . rename_i z τ K;rw[<- m]at K;obtain⟨δ',F',I,mO,O,U,T,H,L,j,V,W,N,R⟩:=h.VU (a:=a) Q f.toList J B q p (λ_ _ _ h=>h) K;subst U;subst V;refine YW (bx:=false) (k:=k) (c:=n) (rows:=I) (Fd:=mO) (arr:=(I.flatten.map DV.A0).toArray) (E:=e) O M (λs=>(J s).trans (T s).symm) hd ?_ H N L ?_ ?_ v ?_
   . have:=C _ W;simp only[execOp,X,Sem.run_bind,this,Result.andThen_ok,Sem.run_pure,JT,AAM,AAT,j,l]
   . simp only[AAM,AAT,List.size_toArray,AAo,Dl L,j,l];exact⟨trivial,AAe _⟩
   . intro len d hn;rw[List.getElem?_toArray,AAN,hn];rfl
   . intro x Z;rcases R x Z with y|y
     . exact y
     . exact y.elim
 . cases v
theorem RK(z:dm)(a:dH)(h:XB z=some a):a.map DV.er=z/\∀D∈a,Ok w S D (λ_=>False):=by
 obtain⟨f,g,_⟩:=Ib (w:=w) (S:=S) (δ:=λ_=>.lf .un undef) (.agg z) (.agg a) (by simp[Iy,h]);refine⟨by simpa using f,λD j=> ?_⟩;obtain⟨b,c,_,_,d⟩:=Je.1 (B4.1 g);obtain⟨i,hi⟩:=AAd j
 have:=c i D hi;have e:b i=λ_=>False:=funext λx=>propext ⟨λk=>(d x).2 ⟨i,k⟩,False.elim⟩;rwa [e]at this
theorem flat_rep{b:Type}(a:List b)(l:Nat):∀n,n<l*a.length->(List.replicate l a).flatten[n]? =a[n%a.length]? :=by
 induction l with
 |zero=>intro n h;omega
 |succ l ih=>
  intro n h;rw[List.replicate_succ,List.flatten_cons];by_cases hn:n<a.length
  . rw[AAg hn,Nat.mod_eq_of_lt hn]
  . rw[AAa ah,ih (n-a.length) (by rw[Nat.add_mul,Nat.one_mul]at h;omega),<- Nat.mod_eq_sub_mod ah]
theorem runs_mk(h:St G w S δ Fr)(C7:∀b,S b->b<w.heap.size)(zv:Rd δ a)(hd:I5 G a o (some d))(ho:o.op= .makeSlice t u H)(hu:P.underlying t=some (.slice e))(hi:P.info? e=some i)(O:i.zero=some v)(R:i.size=k)(B:i.bytes=n)(wX:0<n)(pH:0<k)(M:XB g=some l)(p:v.cells.toList=l.map DV.A0)(N:g.length=k)(X:CR u x=true)(I:CR H y=true)(z:GO G (.mk k n g x y) (some d) (λs=>(δ s).er)=some σ'):QS P G w S Fr a o σ':=by
 obtain⟨L,ex⟩:=Am X zv;obtain⟨hy,ey⟩:=Am I zv;simp only[GO]at z;split at z
 . rename_i f c J C;split at z
   . rename_i FQ;obtain⟨h0,QW,PO⟩:=FQ;obtain⟨kl,J⟩:=Ni J;obtain⟨kc,C⟩:=Ni C;obtain⟨el,_⟩:=h.Ew L J;obtain⟨ec,_⟩:=h.Ew hy C;have hr:c.toNat*n<=70368744177664:=(by simpa[Ap]using PO);have F:(c.toNat:Int)=c:=Int.toNat_of_nonneg ah;have T:c.toNat<=c.toNat*n:=Nat.le_mul_of_pos_right _ wX;have r:l.length=k:=(by have:=ABZ List.length (RK (w:=w) (S:=S) g l M).1;rw[AAo]at this;rw[this,N]);have Cg:=run_make (P:=P) w t e i v hu hi O kl kc f c h0 QW (by rw[B,<- F];have:(n:Int)*(c.toNat:Int)=((c.toNat*n:Nat):Int):=(by rw[AA6];simp);rw[this];omega) ah;have q:v.cells.size=k:=(by have:=ABZ List.length p;simp only[AAo,r]at this;simpa using this);have Q:(List.replicate f.toNat l).length=f.toNat:=ak;refine YW (bx:=false) (k:=k) (c:=c.toNat) (rows:=List.replicate f.toNat l) (Fd:=λ_=>False) (arr:=madeCells v.cells (c.toNat*i.size)) (E:=e) h C7 zv hd ?_ ?_ (λ_ _ _ h=>h) ?_ ?_ ?_ ?_ (λu L=>L.elim id False.elim)
     . simp only[execOp,ho,ex,ey,el,ec,Sem.run_bind,Cg,Result.andThen_ok,Sem.run_pure,JT,AAM,AAT,Q]
     . refine CN λD hD=> ?_;obtain⟨row,W,j⟩:=List.mem_flatten.1 hD;rw[List.eq_of_mem_replicate W]at j;exact(RK g l M).2 D j
     . intro row W;rw[List.eq_of_mem_replicate W,r]
     . simp only[AAM,AAT,size_madeCells,R,Q];exact⟨trivial,ah⟩
     . intro bytes D hn;have m:bytes<f.toNat*l.length:=(by have:=(AAE.1 hn).1;simpa using this);rw[flat_rep l f.toNat bytes m]at hn;have U:f.toNat*k<=c.toNat*k:=AAw _ ah;have K:bytes<c.toNat*i.size:=(by rw[R];rw[r]at m;omega);have V:bytes%k<k:=Nat.mod_lt _ pH;rw[r]at hn;have Z:v.cells[bytes%k]? =some D.A0:=(by rw[<- Array.getElem?_toList,p,AAN,hn];rfl);simp only[madeCells,Array.getElem?_map,Array.getElem?_range,AAL K,AAf,q];rw[getElem!_def,Z]
     . have:(List.replicate f.toNat l).map (·.map DV.er)=List.replicate f.toNat g:=(by rw[List.map_replicate,(RK (w:=w) (S:=S) g l M).1]);rw[this];exact z
   . cases z
 . cases z
end
variable{lo' hi' kD:ja}{r m f:Nat}{lo hi mx:ABd Value}{b:Bool}{rows:dn}{base:ABd Addr}{F:de}
section
variable{w w':World}{S S':de}{G:Gi}{δ:dy}{Fr:dh}{P:Program}
def Bd(v:ABd Value)(dflt n:Nat):Prop:=(v=none/\n=dflt)\/∃kk i,v=some (.int kk i)/\0<=i/\i.toNat=n
theorem St.bd(h:St G w S δ Fr)(f:Rd δ a){x:ABd Operand}(c:RH x lo'=true){dflt:Nat}(b:NQ (λs=>(δ s).er) lo' dflt=some n):Bd (x.map a.eval) dflt n/\(x=none↔lo'=none):=by
 unfold RH at c;split at c
 . simp only[NQ,AAC]at b;exact⟨.inl ⟨rfl,b.symm⟩,ak⟩
 . rename_i x lo';obtain⟨j,g⟩:=Am c f;simp only[NQ]at b;split at b
   . rename_i i hi;split at b
     . rename_i e;simp only[AAC]at b;obtain⟨k,hi⟩:=Ni hi;obtain⟨d,_⟩:=h.Ew j hi;exact⟨.inr ⟨k,i,by simp[g,d],e,b⟩,ak⟩
     . cases b
   . cases b
 . cases c
theorem Io{c:IntKind}{i:Int}{a:BoundsCode}(b:0<=i)(hn:i.toNat=n)(d:n<=k)(w:World):(Instr.sliceBound (.int c i) k a).run P w= .ok n w:=by
 have:i<=k:=ah
 simp[Instr.sliceBound,asIntOf,b,this,hn]
theorem eK{cap h:Nat}(u:P.underlying t=some (.slice e))(B:Ga P e=some k)(C:Bd lo 0 r)(z:Bd hi n h)(D:Bd mx cap m)(q:mx≠none->hi≠none)(p:r<=h)(o:h<=m)(l:m<=cap)(d:ABd Addr)(w:World):
 (Instr.sliceAt t (.slice d n cap) lo hi mx).run P w= .ok (.slice (if m=r then d else d.map (·.add (r*k))) (h-r) (m-r)) w:=by
 have y:(Instr.sliceBounds true n cap lo hi mx).run P w= .ok (r,h,m) w:=by
  rcases D with⟨rfl,rfl⟩|⟨I,G,rfl,i,j⟩<;>rcases z with⟨rfl,rfl⟩|⟨H,E,rfl,b,c⟩<;>rcases C with⟨rfl,rfl⟩|⟨kl,F,rfl,f,g⟩<;>
   first
    | (simp[Instr.sliceBounds,Io i j l,Io b c o,Io f g p];done)
    | (simp[Instr.sliceBounds,Io i j l,Io b c o];done)
    | (simp[Instr.sliceBounds,Io b c o,Io f g p];done)
    | (simp[Instr.sliceBounds,Io b c o];done)
    | (simp[Instr.sliceBounds,Io f g p];done)
    | (simp[Instr.sliceBounds];done)
    |exact absurd rfl (q ak)
 have:(Instr.sliceAt t (.slice d n cap) lo hi mx)=(do match <- underlying t with
  | .array len elem=>
   let a <- Instr.sureAddr (.slice d n cap)
   let(r,h,m) <- Instr.sliceBounds false len len lo hi mx
   let size <- sizeOf elem
   pure (.slice (some (if m=r then a else a.add (r*size))) (h-r) (m-r))
  |_=>Instr.slice t (.slice d n cap) lo hi mx):=rfl
 rw[this];simp only[Sem.run_bind,run_underlying u,Result.andThen_ok];have v:(Instr.slice t (.slice d n cap) lo hi mx)=(do
  match <- underlying t,(Value.slice d n cap)with
  | .string,.string s=>
   if mx.isSome then stuck "Slice: full slice of a string"
   let(r,h,_) <- Instr.sliceBounds false s.size s.size lo hi none
   pure (.string (s.extract r h))
  | .slice elem,.slice a n cap=>
   let(r,h,m) <- Instr.sliceBounds true n cap lo hi mx
   let size <- sizeOf elem
   pure (.slice (if m=r then a else a.map (·.add (r*size))) (h-r) (m-r))
  | .pointer arr,x=>
   let a <- asAddr x
   let .array len elem <- underlying arr|stuck "Slice: array type expected"
   let(r,h,m) <- Instr.sliceBounds false len len lo hi mx
   let size <- sizeOf elem
   pure (.slice (some (if m=r then a else a.add (r*size))) (h-r) (m-r))
  |_,_=>stuck "Slice: string, slice or pointer to array expected"):=rfl
 rw[v];simp only[Sem.run_bind,run_underlying u,Result.andThen_ok,y,run_sizeOf B,Sem.run_pure]
theorem Fz.cut{h:Nat}{x:Bool}(u:Fz w S (.sl b k rows) (.slice base n r))(y:f<=h)(t:h<=rows.length)(z:h<=m)(cap:x=true->m=h):
 Fz w S (.sl x k ((rows.drop f).take (h-f))) (.slice (if m=f then base else base.map (·.add (f*k))) (h-f) (m-f)):=by
 have d:((rows.drop f).take (h-f)).length=h-f:=an
 by_cases o:h=f
 . subst o;simp only[Nat.sub_self,List.take_zero];exact .nil x k _ _ (λp=>by have:=cap p;omega)
 . have v:m≠f:=ah;cases u with
   |nil=>simp at t;omega
   |sl _ _ _ e off c vs hxe QW hS hk hc hr=>
    simp only[v,AAT,AAf,Addr.add_lit];have l:∀i row,((rows.drop f).take (h-f))[i]? =some row->rows[f+i]? =some row:=by
     intro i row hi;rw[ABC]at hi;split at hi
     . simpa using hi
     . cases hi
    have key:Fz w S (.sl x k ((rows.drop f).take (h-f))) (.slice (some ⟨e,off+f*k,none⟩) ((rows.drop f).take (h-f)).length (m-f)):=by
     refine .sl x k _ e (off+f*k) (m-f) (λi j=>vs (f+i) j) (λp=>by have:=cap p;rw[d];omega) (by rw[d];omega) hS (λrow s=>hk row (List.mem_of_mem_drop (ABX s))) ?_ ?_
     . intro i j row a hi q
       have:=hc (f+i) j row a (l i row hi) q;rw[show off+f*k+(i*k+j)=off+((f+i)*k+j)from by rw[Nat.add_mul];omega];exact this
     . intro i j row a hi q;exact hr (f+i) j row a (l i row hi) q
    rw[d]at key;exact key
theorem Nq{h:Nat}(a:SX rows n h=some rs):n<=h/\h<=rows.length/\rs=(rows.drop n).take (h-n):=by
 unfold SX at a;split at a
 . rename_i b;exact⟨b.1,b.2,(AAG a).symm⟩
 . cases a
theorem St.bdM(h:St G w S δ Fr)(l:Rd δ a){x:ABd Operand}(e:RH x lo'=true){cap:Nat}(c:mxI (λs=>(δ s).er) lo' n=some m)(f:m=n)(g:n<=cap):
 ∃d,Bd (x.map a.eval) cap d/\n<=d/\d<=cap/\(lo'.isSome=true->d=n):=by
 cases lo' with
 |none=>
  cases x with
  |none=>exact⟨cap,.inl ⟨rfl,rfl⟩,g,AAe _,ak⟩
  |some x=>simp[RH]at e
 |some lo'=>
  obtain⟨b,_⟩:=h.bd l e (dflt:=0) (by simpa only[mxI]using c);subst f;cases x with
  |none=>simp[RH]at e
  |some x=>
   rcases b with⟨b,_⟩|⟨o,i,b,j,k⟩
   . simp at b
   . exact⟨m,.inr ⟨o,i,b,j,k⟩,AAe _,g,λ_=>rfl⟩
theorem lJ(h:St G w S δ Fr){a:Act}(z:Rd δ a){o:Oper}{t e:TypeId}{x:Operand}{lo hi mx:ABd Operand}{k:Nat}{y:Ar}{lo' hi' u:ja}{d:Dp}(hd:I5 G a o (some d))(ho:o.op= .slice t x lo hi mx)(hu:P.underlying t=some (.slice e))(hk:Ga P e=some k)(hc:CR x y=true)(ZE:RH lo lo'=true)(Mo:RH hi hi'=true)(T:RH mx u=true)(hmh:mx=none\/hi≠none){σ':Sg}(f:GO G (.slc k true y lo' hi' u) (some d) (λs=>(δ s).er)=some σ'):QS P G w S Fr a o σ':=by
 obtain⟨hy,O⟩:=Am hc z;have C:mx.map a.eval≠none->hi.map a.eval≠none:=by
  intro E L;rcases hmh with h3|h3
  . simp[h3]at E
  . simp at L;exact h3 L
 simp only[GO]at f;split at f
 . -- frozen already
   rename_i ee M rows pl X;split at f
   . rename_i l i J I;split at f
     . rename_i rs m j hm;split at f
       . rename_i FQ;obtain⟨rfl,n⟩:=FQ;obtain⟨E,L,rfl⟩:=Nq j;have K:=(h.sI hy X).2 _ _ _ rfl (h.hdSl hy X);obtain⟨g,cap,H⟩:=PD K;rw[H]at K O;have Q:rows.length<=cap:=by
          cases K with
          |nil=>simp
          |sl _ _ _ b off c vs hxe Q=>exact Q
         obtain⟨b1,_⟩:=h.bd z ZE J;obtain⟨b2,_⟩:=h.bd z Mo I;obtain⟨q,b3,R,g2,g3⟩:=h.bdM z T hm n (cap:=cap) ah;have Cg:=eK (P:=P) hu hk b1 b2 b3 C E R g2 g w;have W:=K.cut (m:=q) (x:=u.isSome) E L R g3;have Lw:(DV.lf (.sl u.isSome M ((rows.drop l).take (i-l))) (.slice (if q=l then g else g.map (·.add (l*M))) (i-l) (q-l))).er= .sl u.isSome M ((rows.drop l).take (i-l)):=ak
         refine KC (D:=.lf (.sl u.isSome M ((rows.drop l).take (i-l))) (.slice (if q=l then g else g.map (·.add (l*M))) (i-l) (q-l))) (Ff:=λ_=>False) h z hd ?_ (λ_ _=>rfl) (λ_ _ _=>rfl) (λ_ h=>h) (λs x B=>(h.ok s).Et x B)
          (.lf _ _ _ W (λ_ h=>h)) (λ_ _ _ h=>h) (.lf _ _ trivial) (by rw[Lw];exact f) (Nx.less λx B=>B.elim id False.elim)
         simp only[execOp,ho,O,Sem.run_bind,Cg,Result.andThen_ok,Sem.run_pure,KN]
       . cases f
     . cases f
   . cases f
 . -- frozen now
   rename_i M rows r p X;split at f
   . rename_i l i J I;split at f
     . rename_i rs m j hm;split at f
       . rename_i FQ;obtain⟨rfl,n⟩:=FQ;obtain⟨E,L,rfl⟩:=Nq j;simp only[AAi]at f;split at f
         . rename_i fr τ K;obtain⟨δ1,F1,Fo,v,bx,N,Ao,CP,JD,Dh,Bw,U,hfe,C9,D4,_⟩:=h.QT K;subst JD;obtain⟨Z,F,PL,Cm,UI⟩:=(h.sI hy X).1 _ _ _ rfl;have Kr:=UI r p rfl;rw[Bw]at Kr;simp only[AAC,DV.own.injEq]at Kr;obtain⟨rfl,rfl,rfl,rfl⟩:=Kr;have V:fr= .sl false N (rows.map (·.map JH)):=(by rw[hfe];simp only[Eg,Nu,PL]);rw[V]at U;obtain⟨g,cap,H⟩:=PD U;rw[H]at U O;have dK:(rows.map (·.map JH)).length=rows.length:=ak;have Q:rows.length<=cap:=by
            rw[<- dK];generalize rows.map (·.map JH)=rr at*;cases U with
            |nil=>simp
            |sl _ _ _ b off c vs hxe Q=>exact Q
           obtain⟨b1,_⟩:=h.bd z ZE J;obtain⟨b2,_⟩:=h.bd z Mo I;rw[dK]at O;obtain⟨q,b3,R,g2,g3⟩:=h.bdM z T hm n (cap:=cap) ah;have Cg:=eK (P:=P) hu hk b1 b2 b3 C E R g2 g w;have W:=U.cut (m:=q) (x:=u.isSome) E (by rw[dK];exact L) R g3;rw[<- List.map_drop,<- ABV]at W;have Lw:(DV.lf (.sl u.isSome N (((rows.drop l).take (i-l)).map (·.map JH))) (.slice (if q=l then g else g.map (·.add (l*N))) (i-l) (q-l))).er= .sl u.isSome N (((rows.drop l).take (i-l)).map (·.map JH)):=ak
           refine KC (S:=S) (S':=λx=>S x\/Fo x) (D:=.lf (.sl u.isSome N (((rows.drop l).take (i-l)).map (·.map JH))) (.slice (if q=l then g else g.map (·.add (l*N))) (i-l) (q-l))) (Ff:=λ_=>False) CP (λs=>(z s).trans (Dh s).symm) hd ?_ (λ_ _=>rfl) (λ_ _ _=>rfl) (λ_ h=>h) (λs x B=>(CP.ok s).Et x B)
            (.lf _ _ _ W (λ_ h=>h)) (λ_ _ _ h=>h) (.lf _ _ trivial) (by rw[Lw];exact f) ?_
           . simp only[execOp,ho,O,Sem.run_bind,Cg,Result.andThen_ok,Sem.run_pure,KN]
           . refine Nx.JH (λx B=>D4 x (B.imp (λh=>h.elim id False.elim) id)) λx B=> ?_;obtain⟨t,ht⟩:=D4 x (.inr B);exact(h.ok t).lt x ht
         . cases f
       . cases f
     . cases f
   . cases f
 . cases f
theorem Ok.front(h:Ok w S (.own v false k ds) F)(hn:n<=ds.length):
 ∃e c,v= .slice e ds.length c/\ds.length<=c/\(∀q:Nat,e.map (·.add (0*q))=e)/\∃o,Ok w S (.own (.slice e n c) false k (ds.take n)) o/\∀x,o x->F x:=by
 cases h with
 |nil _ _ hF=>simp only[ABK,Nat.le_zero]at hn;subst hn;exact⟨none,0,rfl,AAe _,λ_=>rfl,F,.nil k F hF,λ_ h=>h⟩
 |own _ _ _ b c arr E Fs _ hb hk D3 LJ hv hr hd Bg KE hF=>
  simp only[AAM,AAT]at D3;have a:(ds.take n).length=n:=an
  have get:∀i (row:dH),(ds.take n)[i]? =some row->ds[i]? =some row/\i<n:=by
   intro i row hi;rw[ABC]at hi;split at hi
   . exact⟨hi,bm⟩
   . cases hi
  have key:Ok w S (.own (JT false b (ds.take n).length c) false k (ds.take n)) (λx=>x=b\/∃i j,(i<n/\Fs i j x)):=by
   refine .own false k _ b c arr E (λi j x=>i<n/\Fs i j x) _ hb (λrow p=>hk row (ABX p)) (by simp only[AAM,AAT];omega) LJ ?_ ?_ (λi j s t x g l=>hd i j s t x g.2 l.2) ?_ (λi j h=>KE i j h.2) (λx=>ABb)
   . exactλi j row d hi m=>hv i j row d (get i row hi).1 m
   . intro i j row d hi m;obtain⟨f,g2⟩:=get i row hi;have:(λx=>i<n/\Fs i j x)=Fs i j:=funext λx=>propext ⟨λh=>h.2,λh=>⟨g2,h⟩⟩;rw[this];exact hr i j row d f m
   . rintro i j x ⟨g,l⟩;obtain⟨row,d,f,g2⟩:=Bg i j x l;exact⟨row,d,by rw[ABC,AAL g];exact f,g2⟩
  refine⟨some ⟨b,0,none⟩,c,by simp[JT],D3.2,λq=>by simp[Addr.add],λx=>x=b\/∃i j,(i<n/\Fs i j x),?_,λx r=>(hF x).2 (r.elim .inl λ⟨i,j,h⟩=>.inr ⟨i,j,h.2⟩)⟩;rw[a]at key;simpa[JT]using key
theorem yW(h:St G w S δ Fr)(i:Rd δ a){lo hi mx:ABd Operand}(hd:I5 G a o (some d))(ho:o.op= .slice t u lo hi mx)(hu:P.underlying t=some (.slice e))(hk:Ga P e=some k)(hc:CR u y=true)(ZE:RH lo lo'=true)(Mo:RH hi hi'=true)(U:RH mx kD=true)(z:mx=none\/hi≠none)(b:GO G (.slc k false y lo' hi' kD) (some d) (λs=>(δ s).er)=some σ'):QS P G w S Fr a o σ':=by
 obtain⟨hy,N⟩:=Am hc i;have hmh':mx.map a.eval≠none->hi.map a.eval≠none:=by
  intro O Q;rcases z with R|R
  . simp[R]at O
  . simp at Q;exact R Q
 by_cases E:∃ee k' rows pl,Abs.hd (λs=>(δ s).er) y=some (.sl ee k' rows,pl)
 . refine lJ h i hd ho hu hk hc ZE Mo U z ?_;obtain⟨ee,k',rows,pl,x⟩:=E;simp only[GO,x]at b |-;exact b
 simp only[GO]at b;split at b
 . rename_i x;exact absurd ⟨_,_,_,_,x⟩ E
 . rename_i k' rows r p x;split at b
   . rename_i l g X V;split at b
     . rename_i rs m q hm;split at b
       . rename_i FQ;obtain⟨rfl,hmeq⟩:=FQ;obtain⟨O,Q,rfl⟩:=Nq q;rw[AAK ak]at b;split at b
         . rename_i W;obtain⟨rfl,hmx⟩:=W;split at b
           . rename_i nn τ ht;obtain⟨δ1,F1,D,Ff,CP,JD,Dh,ZG,FP,⟨v,bx,I,K,rfl⟩,Bw,C9,D4,_⟩:=h.Zh ht;subst JD;obtain⟨J,F,PL,_,UI⟩:=(h.sI hy x).1 _ _ _ rfl;have M:=UI r p rfl;rw[Bw]at M;simp only[AAC,DV.own.injEq]at M;obtain⟨rfl,rfl,rfl,rfl⟩:=M;have dK:K.length=rows.length:=(by rw[<- PL];simp);obtain⟨f,c,hv,QW,j,F',C,o8⟩:=ZG.front (n:=g) ah;rw[hv]at N;have Z:kD=none:=(by simpa using hmx);subst Z;have B:mx=none:=(by cases mx<;>simp_all [RH]);subst B;obtain⟨b1,_⟩:=h.bd i ZE X;obtain⟨b2,_⟩:=h.bd i Mo V;rw[dK]at N;have L:=eK (P:=P) hu hk b1 b2 (mx:=none) (cap:=c) (m:=c) (.inl ⟨rfl,rfl⟩) ak O ah (AAe _) f w;have T:(if c=0 then f else f.map (·.add (0*I)))=f:=by
              split
              . rfl
              . exact j I
             rw[T,Nat.sub_zero,Nat.sub_zero]at L;have Lw:(DV.own (.slice f g c) false I (K.take g)).er= .own false I ((rows.drop 0).take (g-0)):=(by simp[<- PL,ABV]);refine KC (D:=.own (.slice f g c) false I (K.take g)) (Ff:=F') CP (λs=>(i s).trans (Dh s).symm) hd ?_ (λ_ _=>rfl) (λ_ _ _=>rfl) (λ_ h=>h) (λs u H=>(CP.ok s).Et u H)
              C (λs u H K4=>C9 s u H (o8 u K4)) (.own _ _ _ _) (by rw[Lw];exact b) (Nx.less λu H=>D4 u (H.imp id (o8 u)))
             simp only[execOp,ho,N,Option.map_none,Sem.run_bind,Option.map_none]at L |-;simp only[L,Result.andThen_ok,Sem.run_pure,Kf]
           . cases b
         . cases b
       . cases b
     . cases b
   . cases b
 . cases b
end
variable{D C new:DV}{bx:Bool}{row:dH}{z:Value}{arr:Array Value}{E:TypeId}{L:dF}{res:AV}
section
variable{w w':World}{S S':de}{G:Gi}{δ:dy}{Fr:dh}{P:Program}
theorem putD_sub(p:di){f:DV}(e:Au D p=some (.own v bx k ds))(h:ds[n]? =some row)(l:row[r]? =some f)(d:Di D (p++[(n,r,k)]) new=some C):
 Au C p=some (.own v bx k (ds.set n (row.set r new))):=by
 induction p generalizing D C with
 |nil=>simp only[Au,AAC]at e;subst e;simp only[List.nil_append,Di,h,l,AAC]at d;subst d;rfl
 |cons s p ih=>
  obtain⟨i0,j0,m⟩:=s;cases D with
  |lf a v=>simp[Au]at e
  |own hh b k1 Ja=>
   simp only[Au]at e;simp only[AAx,Di]at d;cases hi:Ja[i0]? with
   |none=>simp[hi]at e
   |some row1=>
    simp only[hi]at e d;cases hj:row1[j0]? with
    |none=>simp[hj]at e
    |some c=>
     simp only[hj]at e d;cases hc:Di c (p++[(n,r,k)]) new with
     |none=>simp[hc]at d
     |some c'=>simp only[hc,AAC]at d;subst d;simp only[Au,AAF (AAE.1 hi).1,AAF (AAE.1 hj).1];exact ih e hc
  |agg cs=>
   simp only[Au]at e;simp only[AAx,Di]at d;cases hj:cs[j0]? with
   |none=>simp[hj]at e
   |some c=>
    simp only[hj]at e d;cases hc:Di c (p++[(n,r,k)]) new with
    |none=>simp[hc]at d
    |some c'=>simp only[hc,AAC]at d;subst d;simp only[Au,AAF (AAE.1 hj).1];exact ih e hc
  |BQ cs=>
   simp only[Au]at e;simp only[AAx,Di]at d;cases hj:cs[j0]? with
   |none=>simp[hj]at e
   |some c=>
    simp only[hj]at e d;cases hc:Di c (p++[(n,r,k)]) new with
    |none=>simp[hc]at d
    |some c'=>simp only[hc,AAC]at d;subst d;simp only[Au,AAF (AAE.1 hj).1];exact ih e hc
theorem Pt{off:Nat}(a:w.heap[n]? =some (.cells arr E (0,0)))(f:arr[off]? =some z)(e:GJ v=true):(store ⟨n,off,none⟩ v).run P w= .ok () (w.setCell ⟨n,off,none⟩ v):=by
 have c:w.cell? ⟨n,off,none⟩=some z:=by simp[World.cell?,a,f]
 have d:w.frozen? ⟨n,off,none⟩=false:=by simp[World.frozen?,a]
 cases v<;>first
  |simp[GJ]at e;done
  |simp[store,Sem.run,c,d]
theorem Pd(h:Ok w S (.own v bx k ds) F)(a:Sf v=some n):F n/\∃arr E,w.heap[n]? =some (.cells arr E (0,0))/\∀(i j:Nat) row d,ds[i]? =some row->row[j]? =some d->arr[i*k+j]? =some d.A0:=by
 cases h with
 |nil=>simp[Sf]at a
 |own _ _ _ b' c arr E Fs _ sF hk D3 LJ hv hr hd Bg KE hF=>simp only[XP,AAC]at a;subst a;exact⟨(hF b').2 (.inl rfl),arr,E,sF,hv⟩
theorem gY(h:FN res=true):Fj L res=true:=by cases res<;>first| (simp;done)| (simp[FN]at h;done)
theorem bO(ds:dH):∀{w:World}{t:DV}{F Fd:de}{p:di}{v:Value}{bx:Bool}{k i j b:Nat}{rows:dr}{row:dH} {R:AV},Ok w S t F->Au t p=some (.own v bx k rows)->Sf v=some b->rows[i]? =some row->j+ds.length<=row.length->
 JQ w S ds Fd->(∀x,Fd x->¬F x)->(ds.map DV.er).all FN=true->stC p i k j (ds.map DV.er) t.er=some R->∀(m off:Nat),off+m=i*k+j->
 ∃(w':World)(s:DV)(N:de),(storeCells ⟨b,off,none⟩ (ds.map DV.A0) m).run P w= .ok () w'/\Ok w' S s N/\s.er=R/\s.A0=t.A0/\(∀x,N x->F x\/Fd x)/\(∀x,x≠b->w'.heap[x]? =w.heap[x]?)/\F b/\
  w'.os=w.os/\w'.tape=w.tape/\w'.output=w.output/\w'.heap.size=w.heap.size/\(∀δ,Dc δ t->Dc δ s)/\(∀L,Fj L t.er=true->Fj L s.er=true)/\
  ((((row.map DV.er).drop j).take ds.length).all C8=true->∀q v bx k rows,Au t q=some (.own v bx k rows)->∃e,Au s q=some (.own v bx k e)):=by
 induction ds with
 |nil=>intro w t F Fd p v bx k i j b rows row R h z I hi hj Cm M B u m off hm;simp only[AAm,stC,AAC]at u;obtain⟨F1,o,H⟩:=h.Au z;exact⟨w,t,F,by simp[storeCells],h,u,rfl,λx c=>.inl c,λ_ _=>rfl,H b (Pd o I).1,rfl,rfl,rfl,rfl,λ_ h=>h,λ_ h=>h,λ_ q v bx k rows Z=>⟨rows,Z⟩⟩
 |cons d ds ih=>
  intro w t F Fd p v bx k i j b rows row R h z I hi hj Cm M B u m off hm;obtain⟨Fa,Fb,hd,JJ,T,D⟩:=Cm;simp only[AA8]at hj;have K:j<row.length:=ah
  have hold:row[j]? =some row[j]:=AAJ K;obtain⟨Fn,V,W⟩:=h.Au z;obtain⟨Qt,arr,E,sF,QV⟩:=Pd V I;have f:=W b Qt;have LJ:¬S b:=h.Et b f;have O1:∀x,Fd x->x≠b:=by rintro x c rfl;exact M x c f
  have r:Ok (w.setCell ⟨b,i*k+j,none⟩ d.A0) S d Fa:=by refine hd.mono (λx c=>DL _ _ _ _ _ ?_) (λx c=>DL _ _ _ _ _ (O1 x ((D x).2 (.inl c)))) (λ_ h=>h) hd.Et;rintro rfl;exact LJ c
  obtain⟨t1,F1,G,jM,n,Jl,_⟩:=h.store p z hi hold I r (λx c=>M x ((D x).2 (.inl c)));simp only[AAU,stC]at u;split at u
  . rename_i t'' X;have xF:t1.er=t'':=(by obtain⟨t2,Q,g2⟩:=G5 d h.Kt X;rw[G]at Q;obtain rfl:=AAG Q;exact g2);subst xF;have hs1:=putD_sub p z hi hold G;have U:(rows.set i (row.set j d))[i]? =some (row.set j d):=AAF (AAE.1 hi).1;simp only[AAU,AAy,AAD]at B;have g:JQ (w.setCell ⟨b,i*k+j,none⟩ d.A0) S ds Fb:=(by refine JJ.mono (λx c=>DL _ _ _ _ _ ?_) (λx c=>DL _ _ _ _ _ (O1 x ((D x).2 (.inr c)))) (λ_ h=>h) (B4.2 JJ).Et;rintro rfl;exact LJ c);obtain⟨w',s,N,Cg,PN,J,Qv,Kr,XW,_,Q,g2,g3,g4,g5,g6,RQ⟩:=ih (off:=off) (m:=m+1) (j:=j+1) jM hs1 I U an g (by
     intro x c hx1;rcases n x hx1 with o|o
     . exact M x ((D x).2 (.inr c)) o
     . exact T x o c) B.2 u ah
    refine⟨w',s,N,?_,PN,J,Qv.trans Jl,?_,?_,f,Q,g2,g3,by rw[g4];simp,?_,?_,?_⟩
    . have Eu:=Pt (P:=P) (w:=w) (off:=i*k+j) (v:=d.A0) sF (QV i j row _ hi hold) (Kh hd B.1);simp only[AAU,storeCells,Sem.run_bind,Addr.add_lit,hm,Eu,Result.andThen_ok,Cg]
    . intro x c;rcases Kr x c with o|o
      . rcases n x o with H|H
        . exact .inl H
        . exact .inr ((D x).2 (.inl H))
      . exact .inr ((D x).2 (.inr o))
    . intro x c;rw[XW x c,DL _ _ _ _ _ c]
    . intro δ Gk;refine g5 δ (MZ _ G Gk ?_);exact RC (ds:=[d]) (by simpa using B.1) d ak
    . intro L hL;refine g6 L (Ll _ G hL ?_);exact gY B.1
    . intro O q v' fG k' e Z;have y:(row.map DV.er).drop j=(row[j]).er::(row.map DV.er).drop (j+1):=(by rw[AA7 (by simpa using K)];simp);rw[y]at O;simp only[AA8,List.take_succ_cons,AAy,AAD]at O;have jF:∃a v,row[j]= .lf a v:=by
       have hl:=(h.Kt.Au z);cases hl with
       |own _ _ _ _ hr=>
        have:=hr i j row _ hi hold;have C:=O.1;cases SE:row[j]with
        |lf a v=>exact⟨a,v,rfl⟩
        |own=>rw[SE]at C;simp[C8]at C
        |agg=>rw[SE]at C;simp[C8]at C
        |BQ=>rw[SE]at C;simp[C8]at C
      obtain⟨a0,v0,fI⟩:=jF;have l:Au t (p++[(i,j,k)])=some (.lf a0 v0):=(by rw[IV,z];simp[Au,hi,hold,fI]);obtain⟨Ja,hq1⟩:=Q8 _ G l ak ak ak q v' fG k' e Z;refine RQ ?_ q v' fG k' Ja hq1;rw[AA1,List.drop_set_of_lt ah];exact O.2
  . cases u
theorem tK(h:St G w S δ Fr)(X:Rd δ a)(hd:I5 G a o none)(ho:o.op= .store t H u)(hn:Ga P t=some n)(hc:CR H y=true)(Mo:CR u x=true)(f:GO G (.st n y x) none (λs=>(δ s).er)=some σ'):QS P G w S Fr a o σ':=by
 obtain⟨hy,Mp⟩:=Am hc X;obtain⟨hz,J⟩:=Am Mo X;simp only[GO]at f;split at f
 . rename_i v τ ht;obtain⟨l,C,D,Ff,d,JD,FP,T3⟩:=h.tk hz ht;subst JD;subst FP;split at f
   . rename_i r p i j k VW;cases y with
     |c c=>simp[EE]at VW
     |t s=>
      obtain⟨vh,bx,Ao,b,Fx,Bw,Z,hp,Cm,_⟩:=d.st.EE VW;split at f
      . rename_i fG k' rows xA;obtain⟨D',I,m⟩:=Dt (d.st.ok r).Kt xA;rw[Bw]at I;obtain rfl:=AAG I;simp only[Eg,AV.own.injEq]at m;obtain⟨rfl,rfl,rfl⟩:=m;split at f
        . rename_i row D1;rw[AAN,AAc]at D1;obtain⟨Im,hrD,rfl⟩:=D1;split at f
          . rename_i FQ;obtain⟨L,Q,hjn⟩:=FQ;split at f
            . rename_i t' CP;have hm:=LR D d.ok.Kt;have K:(cellsD D).length=n:=(by rw[<- L,<- hm];simp);have T4:=LZ d.ok Q;rw[<- hm]at CP Q;obtain⟨w',z,F,Cg,PN,B,U,Kr,V,T,g1,g2,g3,g4,g5,g6,RQ⟩:=bO (P:=P) (cellsD D) (d.st.ok r) Bw Z hrD (by rw[K];simpa using hjn) (NB d.ok) (λH g M=>d.Lu r H M g) Q CP 0 (i*k+j) rfl;have hS:∀H,S H->w'.heap[H]? =w.heap[H]? :=λH g=>V H (by rintro rfl;exact(d.st.ok r).Et _ T g);have hF:∀s,s≠r->∀H,C s H->w'.heap[H]? =w.heap[H]? :=λs hs H g=>V H (by rintro rfl;exact hs (d.st.Lu s r _ g T));have C9:∀s,s≠r->∀H,F H->¬C s H:=by
               intro s hs H g M;rcases Kr H g with W|W
               . exact hs (d.st.Lu s r H M W)
               . exact d.Lu s H M W
              have Uq:(execOp a.eval o).run P w= .ok .skip w':=(by have PQ:¬((C6 δ x).cells.size≠n):=(by rw[<- T3,T4];simp[K]);have hpt:C6 δ (.t s)= .pointer (some ⟨b,i*k+j,none⟩):=(by simp only[C6];rw[<- d.A0 s];exact hp);have G3:(C6 δ x).cells.toList=(cellsD D).map DV.A0:=(by rw[<- T3,T4]);simp only[execOp,ho,Mp,J,hpt,Instr.storeAt,Instr.sureAddr,storeVar,Sem.run_bind,Sem.run_pure,Result.andThen_ok,run_sizeOf hn,Sem.run_ite,PQ,AAT,G3,Cg]);have SF:∀(E:dy),(∀s,(E s).A0=(l s).A0)->Rd E (a.put o.dst undef):=(by intro E hδ s;have h0:o.dst=none:=hd;rw[h0];simp only[Act.put];rw[hδ,d.A0];exact X s);have Eh:∀R:Nat->Nat->Prop,(∀H,BJ R H->BJ C H\/Ff H)->Nx w S (BJ Fr) w' S (BJ R):=(by intro R N;refine⟨g1,g2,g3,ah,?_,λ_ h=>h,λ_ h=>.inl h,λK b Z=>by rw[g4];exact K b Z,λH g=>.inl (d.own H (N H g))⟩;intro H _ hU;refine V H ?_;rintro rfl;exact hU (d.own _ (.inl ⟨r,T⟩)));have N:∀H,BJ (DZ C r F) H->BJ C H\/Ff H:=by
               rintro H ⟨s,g⟩;by_cases e:s=r
               . subst e;rw[BM]at g;exact(Kr H g).imp (λh=>⟨s,h⟩) id
               . rw[Ba _ _ e]at g;exact .inl ⟨s,g⟩
              have q:Dc l z:=g5 l (d.st.al r);have ZI:Fj (G.Gv r) z.er=true:=g6 _ (d.st.rt r);split at f
              . rename_i IH;simp only[AAC]at f;subst f;refine⟨.skip,undef,w',S,DZ l r z,DZ C r F,Uq,.inr ⟨rfl,rfl⟩,SF _ ?_,?_,d.st.poke r z F hS hF PN C9 ZI q (RQ (by rw[K];exact IH)) U,Eh _ N⟩
                . intro O;by_cases e:O=r
                  . subst e;rw[BM,U]
                  . rw[Ba _ _ e]
                . funext O;by_cases e:O=r
                  . subst e;simp only[BM,B]
                  . simp only[Ba _ _ e]
              . simp only[AAC]at f;subst f;refine⟨.skip,undef,w',S,DZ (HE G r l) r z,DZ C r F,Uq,.inr ⟨rfl,rfl⟩,SF _ ?_,?_,d.st.set r z F hS hF (λ_ h=>h) (λs _ H g=>(d.st.ok s).Et H g) PN C9 ZI q,Eh _ N⟩
                . intro O;rw[Hf d.st];split
                  . rename_i e;rw[e,U]
                  . rfl
                . rw[IF d.st,B]
            . cases f
          . cases f
        . cases f
      . cases f
   . cases f
 . cases f
end
variable{vs B:List Value}{ty:TypeId}{τ:Sg}
section
variable{w w':World}{S S':de}{G:Gi}{δ:dy}{Fr:dh}{P:Program}
def Reads(w:World)(v:Value)(n:Nat)(vs:List Value):Prop:=(∃a c,v= .slice a 0 c/\n=0/\vs=[])\/∃b off c,v= .slice (some ⟨b,off,none⟩) n c/\∀(j:Nat) u,vs[j]? =some u->w.cell? ⟨b,off+j,none⟩=some u
theorem QM{size:Nat}(h:Reads w v n vs)(e:vs.length=n*size):(Builtin.firstCells size n v).run P w= .ok vs.toArray w:=by
 rcases h with⟨a,c,rfl,rfl,rfl⟩|⟨b,off,c,rfl,d⟩
 . cases a<;>simp[Builtin.firstCells,loadCells,loadCellsFrom]
 . exact run_firstCells_some (P:=P) w size n ⟨b,off,none⟩ n c vs e (λj u f=>by rw[Addr.add_lit];exact d j u f)
def Reads.drew(h:Reads w v n vs):Reads w.drew v n vs:=h
theorem Reads.len(h:Reads w v n vs):∃d c,v= .slice d n c:=by
 rcases h with⟨a,c,rfl,rfl,rfl⟩|⟨b,off,c,rfl,e⟩
 . exact⟨a,c,rfl⟩
 . exact⟨_,c,rfl⟩
theorem Tg(r:P.underlying t=some (.slice e))(hi:P.info? e=some i)(u:i.zero=some z)(s:Reads w (.slice base n k) n vs)(q:vs.length=n*i.size)(d:Reads w v m B)(hn:B.length=m*i.size)(p:k<n+m)(y:(n+m)*i.bytes<=70368744177664)(l:n+m<=9223372036854775807):
 (Builtin.append_ #[t,t] ty #[.slice base n k,v]).run P w= .ok (.slice (some ⟨w.heap.size,0,none⟩) (n+m) (grownCap w (n+m) k e)) (w.drew.alloc (.cells ((vs++B).toArray++Builtin.zeroCells z.cells (grownCap w (n+m) k e-(n+m))) e)):=by
 obtain⟨x,c,rfl⟩:=d.len;have j:¬(n+m<=k):=ah
 have g:¬(9223372036854775807<((n:Int)+(m:Int))):=ah
 have f:¬(281474976710656<Builtin.nextslicecap (n+m) k*i.bytes):=by have:=growslice_fits (bytes:=i.bytes) p ah;omega
 have o:=QM (P:=P) d.drew hn;have h:=QM (P:=P) s.drew q;simp[Builtin.append_,run_underlying r,sizeOf,typeInfo,zeroValue,hi,u,Builtin.lenOf,j,g,f,Question.forced,o,h,newRow,grownCap];congr 2;apply ABT;simp[ABG]
theorem eJ(p:P.underlying t=some (.slice e))(hi:P.info? e=some i)(f:w.heap[k]? =some (.cells arr E (0,0)))(j:Reads w v m vs)(hn:vs.length=m*i.size)(o:∀u∈vs,u.oneCell'=true)(g:n+m<=r)(q:n*i.size+vs.length<=arr.size):
 (Builtin.append_ #[t,t] ty #[.slice (some ⟨k,0,none⟩) n r,v]).run P w= .ok (.slice (some ⟨k,0,none⟩) (n+m) r) (w.setRow k (arr.toList.take (n*i.size)++vs++arr.toList.drop (n*i.size+vs.length)).toArray):=by
 obtain⟨d,c,rfl⟩:=j.len;have l:=QM (P:=P) j hn;have h:=run_storeCells_at P k (n*i.size) E vs 0 arr w f (by simpa using q) o;simp only[Nat.add_zero]at h;simp[Builtin.append_,run_underlying p,sizeOf,typeInfo,hi,Builtin.lenOf,g,l,Addr.add_lit,h]
theorem yG(h:GJ v=true):v.oneCell'=true:=by cases v<;>simp_all [GJ,Value.oneCell']
theorem RN(h:Fz w S (.sl b k rows) v):
 ∃ds:List (List DV),ds.map (·.map DV.er)=rows.map (·.map JM)/\(∀r∈ds,r.length=k)/\JQ w S ds.flatten (λ_=>False)/\Reads w v ds.length (ds.flatten.map DV.A0)/\ds.length=rows.length:=by
 cases h with
 |nil b k a c hx=>exact⟨[],ak,ak,λ_ h=>h,.inl ⟨a,c,rfl,rfl,rfl⟩,rfl⟩
 |sl b k rows x off c vs hx QW hS hk hc hr=>
  obtain⟨ds,g,o⟩:=LB rows (λi row (f:dH)=>f.map DV.er=row.map JM/\f.length=k/\(∀d∈f,Ok w S d (λ_=>False))/\∀(j:Nat) d,f[j]? =some d->w.cell? ⟨x,off+(i*k+j),none⟩=some d.A0) (by
   intro i row hi;obtain⟨t,g,JT⟩:=LB row (λj a (d:DV)=>d.er=JM a/\Ok w S d (λ_=>False)/\w.cell? ⟨x,off+(i*k+j),none⟩=some d.A0) (by intro j a m;obtain⟨D,p,B,C,_⟩:=XG (δ:=λ_=>default) (hr i j row a hi m);exact⟨D,p,C,by rw[B];exact hc i j row a hi m⟩);refine⟨t,?_,by rw[g];exact hk row (AAP hi),?_,?_⟩
   . exact map_mk g JT _ _ ak λj a d e E=>by simp[E,e.1]
   . intro d hd;obtain⟨j,m⟩:=AAd hd;obtain⟨a,_,e⟩:=mem_mk g JT j d m;exact e.2.1
   . intro j d hd;obtain⟨a,_,e⟩:=mem_mk g JT j d hd;exact e.2.2)
  have l:∀r∈ds,r.length=k:=by intro r q;obtain⟨i,hi⟩:=AAd q;obtain⟨c,_,e⟩:=mem_mk g o i r hi;exact e.2.1
  refine⟨ds,?_,l,CN ?_,.inr ⟨x,off,c,by rw[g],?_⟩,g⟩
  . exact map_mk g o _ _ ak λi row t e z=>by simp[z,e.1]
  . intro d hd;rw[List.mem_flatten]at hd;obtain⟨r,q,hd⟩:=hd;obtain⟨i,hi⟩:=AAd q;obtain⟨c,_,e⟩:=mem_mk g o i r hi;exact e.2.2.1 d hd
  . intro n u y;rw[AAN,AAc]at y;obtain⟨d,hd,rfl⟩:=y;have s:n<ds.length*k:=(by rw[<- Dl l];exact(AAE.1 hd).1);have F:0<k:=(Nat.eq_zero_or_pos k).elim (λh=>by subst h;simp at s) id;have hi:n/k<ds.length:=Nat.div_lt_of_lt_mul (by rw[AA6];exact s);have m:n%k<(ds[n/k]).length:=(by rw[l _ (AAS hi)];exact Nat.mod_lt _ F);have p:=Ko l (AAJ hi) (AAJ m);rw[AA6,Nat.div_add_mod,hd]at p;obtain rfl:=AAG p;obtain⟨c,_,e⟩:=mem_mk g o _ _ (AAJ hi)
    have:=e.2.2.2 _ _ (AAJ m);rw[show n/k*k+n%k=n from by rw[AA6];exact Nat.div_add_mod n k]at this;exact this
theorem UP(h:rows.all (·.all HP)=true):rows.map (·.map JM)=rows:=by
 rw[AAH]at h
 conv=>rhs;rw[<- List.map_id rows]
 apply List.map_congr_left;intro r d;have b:=h r d;rw[AAH]at b
 conv=>rhs;rw[id,<- List.map_id r]
 apply List.map_congr_left;intro a c
 have:=b a c;cases a<;>simp_all [HP,JM]
theorem Rh(h:JQ w S ds.flatten F)(a:(ds.map (·.map DV.er)).all (·.all FN)=true):∀d∈ds.flatten,GJ d.A0=true:=by
 intro d hd;obtain⟨e,b,_,_,_⟩:=Je.1 h;obtain⟨n,hn⟩:=AAd hd;refine Kh (b n d hn) ?_;rw[List.mem_flatten]at hd;obtain⟨r,c,hd⟩:=hd;rw[AAH]at a
 have:=a (r.map DV.er) (ABH c);rw[AAH]at this;exact this d.er (ABH hd)
theorem TJ(h:rows.all (·.all HP)=true):rows.all (·.all FN)=true:=by
 rw[AAH]at h |-;intro r c
 have:=h r c;rw[AAH]at this |-;intro a b
 have:=this a b;cases a<;>simp_all [HP,FN]
theorem bC(h:Ok w S (.own v false k ds) F):Reads w v ds.length (ds.flatten.map DV.A0)/\(∀r∈ds,r.length=k)/\∃a,JQ w S ds.flatten a/\∀x,a x->F x:=by
 rcases bB h with⟨rfl,_,rfl,e⟩|⟨b,c,arr,E,a,rfl,j,l,o,q,g,p,e,i⟩
 . exact⟨.inl ⟨none,0,rfl,rfl,rfl⟩,ak,λ_=>False,λ_ h=>h,λ_ h=>h.elim⟩
 . refine⟨.inr ⟨b,0,c,by simp[JT],?_⟩,l,a,g,λx m=>(e x).2 (.inr m)⟩;intro n u f;rw[AAN,AAc]at f;obtain⟨d,hd,rfl⟩:=f;simp[World.cell?,j,i n d hd]
theorem St.Wq(h:St G w S δ Fr)(hy:WY y)(a:Abs.Wq G k y (λs=>(δ s).er)=some (rows,τ)):
 ∃(S1:de)(g:dy)(l:dh)(j:dr)(z:de),St G w S1 g l/\(λs=>(g s).er)=τ/\(∀s,(g s).A0=(δ s).A0)/\j.map (·.map DV.er)=rows/\(∀r∈j,r.length=k)/\
  JQ w S1 j.flatten z/\Reads w (C6 δ y) j.length (j.flatten.map DV.A0)/\(∀d∈j.flatten,GJ d.A0=true)/\(∀s x,l s x->¬z x)/\Nx w S (BJ Fr) w S1 (λx=>BJ l x\/z x):=by
 cases y with
 |c c=>
  simp only[Abs.Wq]at a;split at a
  . rename_i kk;simp only[AAC,AAQ]at a;obtain⟨rfl,rfl⟩:=a;exact⟨S,δ,Fr,[],λ_=>False,h,rfl,λ_=>rfl,rfl,ak,λ_ h=>h,.inl ⟨none,0,by simp[C6,Iy],rfl,rfl⟩,ak,λ_ _ _ h=>h,Nx.less λx f=>f.elim id False.elim⟩
  . cases a
 |t s=>
  simp only[Abs.Wq]at a;cases hs:(δ s).er with
  |own b K M=>
   cases b with
   |true=>simp[hs]at a
   |false=>
    simp only[hs]at a;split at a
    . rename_i m;obtain⟨rfl,N⟩:=m;simp only[AAC,AAQ]at a;obtain⟨rfl,rfl⟩:=a;obtain⟨F,hd,J⟩:=h.Xr hs;have H:=h.ok s;rw[hd]at H;obtain⟨V,hk,Q,L,q⟩:=bC H;refine⟨S,_,_,F,Q,h.empty s,by rw[IF h];simp,?_,J,hk,L,V,Rh L (by rw[J];exact N),?_,Nx.less ?_⟩
      . intro t;rw[Hf h];split
        . rename_i e;rw[e];simp
        . rfl
      . intro t x f C;by_cases e:t=s
        . subst e;rw[BM]at f;exact f
        . rw[Ba _ _ e]at f;exact e (h.Lu t s x f (q x C))
      . rintro x (⟨t,f⟩|f)
        . by_cases e:t=s
          . subst e;rw[BM]at f;exact f.elim
          . rw[Ba _ _ e]at f;exact⟨t,f⟩
        . exact⟨s,q x f⟩
    . cases a
  |sl W K M=>
   simp only[hs]at a;split at a
   . rename_i m;obtain⟨rfl,n⟩:=m;simp only[AAC,AAQ]at a;obtain⟨rfl,rfl⟩:=a;obtain⟨ds,i,B,o,u,X⟩:=RN (h.leaf hs rfl).2.1;rw[UP n]at i;exact⟨S,δ,Fr,ds,λ_=>False,h,rfl,λ_=>rfl,i,B,o,u,Rh o (by rw[i];exact TJ n),λ_ _ _ h=>h,Nx.less λx f=>f.elim id False.elim⟩
   . cases a
  |al r p=>
   simp only[hs]at a;split at a
   . rename_i W K M τ' U;split at a
     . rename_i m;obtain⟨rfl,n⟩:=m;simp only[AAC,AAQ]at a;obtain⟨rfl,rfl⟩:=a;obtain⟨g,l,Fo,v,bx,kk,F,O,T,P,q,C,Z,C9,I,_⟩:=h.QT U;obtain⟨_,_,R⟩:=h.leaf hs rfl;obtain⟨fG,k2,E,D⟩:=R;rw[q]at D;simp only[AAC,DV.own.injEq]at D;obtain⟨ds,i,B,o,u,X⟩:=RN C;rw[UP n]at i;refine⟨_,g,l,ds,λ_=>False,O,T,P,i,B,o,by rw[D.1]at u;exact u,Rh o (by rw[i];exact TJ n),λ_ _ _ h=>h,Nx.JH ?_ ?_⟩
       . intro x f;exact I x (f.imp (λh=>h.elim id False.elim) id)
       . intro x f;obtain⟨t,ht⟩:=I x (.inr f);exact(h.ok t).lt x ht
     . cases a
   . cases a
  |_=>simp[hs]at a
theorem St.VQ(h:St G w S δ Fr)(d:WY x)(a:Abs.VQ G k x (λs=>(δ s).er)=some (res,τ)):
 (∃rows,res= .own false k rows/\∃(f:dy)(i:dh)(g:dr)(Ff:de),St G w S f i/\(λs=>(f s).er)=τ/\(∀s,(f s).A0=(δ s).A0)/\g.map (·.map DV.er)=rows/\Ok w S (.own (C6 δ x) false k g) Ff/\
  (∀s x,i s x->¬Ff x)/\(∀x,BJ i x\/Ff x->BJ Fr x))\/
 (∃rows,res= .sl true k rows/\τ=(λs=>(δ s).er)/\rows.all (·.all HP)=true/\Fz w S (.sl true k rows) (C6 δ x)):=by
 cases x with
 |c c=>
  simp only[Abs.VQ]at a;split at a
  . rename_i O;simp only[AAC,AAQ]at a;obtain⟨rfl,rfl⟩:=a;exact .inl ⟨[],rfl,δ,Fr,[],λ_=>False,h,rfl,λ_=>rfl,rfl,by simpa[C6,Iy]using Ok.nil k _ (λ_ h=>h),λ_ _ _ h=>h,λx d=>d.elim id False.elim⟩
  . cases a
 |t s=>
  simp only[Abs.VQ]at a;cases hs:(δ s).er with
  |own b y rows=>
   cases b with
   |true=>simp[hs]at a
   |false=>
    simp only[hs]at a;split at a
    . rename_i j;subst j;simp only[AAC,AAQ]at a;obtain⟨rfl,rfl⟩:=a;obtain⟨g,hd,m⟩:=h.Xr hs;have q:=h.ok s;rw[hd]at q;refine .inl ⟨rows,rfl,_,_,g,Fr s,h.empty s,by rw[IF h];simp,?_,m,by simpa[C6]using q,?_,?_⟩
      . intro t;rw[Hf h];split
        . rename_i e;rw[e];simp
        . rfl
      . intro t x d M;by_cases e:t=s
        . subst e;rw[BM]at d;exact d
        . rw[Ba _ _ e]at d;exact e (h.Lu t s x d M)
      . rintro x (⟨t,d⟩|d)
        . by_cases e:t=s
          . subst e;rw[BM]at d;exact d.elim
          . rw[Ba _ _ e]at d;exact⟨t,d⟩
        . exact⟨s,d⟩
    . cases a
  |sl ee y rows=>
   cases ee with
   |false=>simp[hs]at a
   |true=>
    simp only[hs]at a;split at a
    . rename_i H;obtain⟨rfl,K⟩:=H;simp only[AAC,AAQ]at a;obtain⟨rfl,rfl⟩:=a;exact .inr ⟨rows,rfl,rfl,K,(h.leaf hs rfl).2.1⟩
    . cases a
  |al r p=>
   simp only[hs]at a;split at a
   . rename_i y rows P N;split at a
     . rename_i j;subst j;simp only[AAC,AAQ]at a;obtain⟨rfl,rfl⟩:=a;obtain⟨f,i,D,Ff,C,J,F,L,u,⟨v,bx,O,g,rfl⟩,z,B,E,_,_⟩:=h.Zh N;simp only[Eg,AV.own.injEq]at u;obtain⟨rfl,rfl,m⟩:=u;obtain⟨_,_,I⟩:=h.leaf hs rfl;obtain⟨Q,R,o,l⟩:=I;rw[z]at l;simp only[AAC,DV.own.injEq]at l;exact .inl ⟨rows,rfl,f,i,g,Ff,C,J,F,m,by rw[show C6 δ (.t s)=v from l.1.symm];exact L,B,E⟩
     . cases a
   . cases a
  |_=>simp[hs]at a
end
variable{I:dy}
section
variable{w w':World}{S S':de}{G:Gi}{δ:dy}{Fr:dh}{P:Program}
theorem YV{U1:de}{p:dh}{rows:dr}{Fd:de}(h:St G w F I p)(l:∀b,F b->b<w.heap.size)(H:Rd I a)(hd:I5 G a o (some d))(K:(execOp a.eval o).run P w= .ok (.value (.slice (some ⟨w.heap.size,0,none⟩) rows.length n)) w')(j:w'.heap=w.heap.push (.cells arr E))(r:w'.os=w.os)(v:w'.tape=w.tape)(t:w'.output=w.output)(m:JQ w F rows.flatten Fd)(B:∀s x,p s x->¬Fd x)(g:∀row∈rows,row.length=k)(C:n*k=arr.size/\rows.length<=n)(L:∀(c:Nat) d,rows.flatten[c]? =some d->arr[c]? =some d.A0)(S1:wr d (.own false k (rows.map (·.map DV.er))) (λs=>(I s).er)=some σ')(y:∀x,BJ p x\/Fd x->U1 x)(i:Nx w S (BJ Fr) w F U1):QS P G w S Fr a o σ':=by
 have z:=(B4.2 m).lt;have q:=(B4.2 m).Et;have hold:∀b,b<w.heap.size->w'.heap[b]? =w.heap[b]? :=λb e=>by rw[j,Array.getElem?_push,AAK ah]
 have N:w'.heap[w.heap.size]? =some (.cells arr E (0,0)):=by rw[j];simp
 have M:Ok w' F (.own (JT false w.heap.size rows.length n) false k rows) (λx=>x=w.heap.size\/Fd x):=by refine qB N g (by simpa using C) (λu=>by have:=l _ u;omega) ?_ (λu=>by have:=z _ u;omega) L;exact m.mono (λb e=>hold b (l b e)) (λb e=>hold b (z b e)) (λ_ h=>h) q
 refine KC (D:=.own (JT false w.heap.size rows.length n) false k rows) h H hd (by simpa[JT]using K) (λb e=>hold b (l b e)) (λs x f=>hold x ((h.ok s).lt x f)) (λ_ h=>h) (λs x f=>(h.ok s).Et x f) M ?_ (.own _ _ _ _) (by simpa using S1) ?_
 . rintro s x f (rfl|hf)
   . have:=(h.ok s).lt _ f;omega
   . exact B s x f hf
 . refine i.trans ⟨r,v,t,by rw[j];simp,λb e _=>hold b e,λ_ h=>h,λ_ h=>.inl h,λJ b e=>by rw[j];have:=J b e;simp;omega,?_⟩;rintro x (f|rfl|f)
   . exact .inl (y x (.inl f))
   . exact .inr (AAe _)
   . exact .inl (y x (.inr f))
theorem Th(f:P.underlying t=some (.slice e))(hi:P.info? e=some i){c:Nat}(a:n<=c)(b:Reads w v 0 []):
 (Builtin.append_ #[t,t] ty #[.slice base n c,v]).run P w= .ok (.slice base n c) w:=by
 obtain⟨g,c',rfl⟩:=b.len;have d:=QM (P:=P) (size:=i.size) b ak;cases base<;>simp[Builtin.append_,run_underlying f,sizeOf,typeInfo,hi,Builtin.lenOf,d,a,storeCells]
theorem XK(e:z.cells.size=k)(c:vs.length=n*k)(d:B.length=m*k)(f:n+m<=r):r*k=((vs++B).toArray++Builtin.zeroCells z.cells (r-(n+m))).size:=by simp only[Array.size_append,List.size_toArray,AAr,size_zeroCells,c,d,e,<- Nat.add_mul];congr 1;omega
theorem fz_weak(h:Fz w S (.sl b k rows) v):Fz w S (.sl false k rows) v:=by
 cases h with
 |nil _ _ a c _=>exact .nil _ _ _ _ (λh=>nomatch h)
 |sl _ _ _ x off c vs _ QW hS hk hc hr=>exact .sl _ _ _ _ _ _ _ (λh=>nomatch h) QW hS hk hc hr
theorem runs_app(h:St G w S δ Fr)(C7:∀b,S b->b<w.heap.size)(ha:Rd δ a){c:Call}(hd:I5 G a o (some d))(ho:o.op= .call c)(Lz:c.callee= .builtin .append)(Fv:c.args= #[u,H])(hty:c.argTypes= #[t,t])(hu:P.underlying t=some (.slice e))(hi:P.info? e=some i)(PQ:i.size=k)(hby:i.bytes=r)(wX:0<r)(hz:i.zero=some z)(hzk:z.cells.size=k)(hc:CR u x=true)(Mo:CR H y=true)(B:GO G (.app k r x y) (some d) (λs=>(δ s).er)=some σ'):QS P G w S Fr a o σ':=by
 obtain⟨g,Mp⟩:=Am hc ha;obtain⟨hy,hev2⟩:=Am Mo ha;subst PQ;subst hby;have Uq:∀bytes w',(Builtin.append_ #[t,t] o.type #[C6 δ x,C6 δ y]).run P w= .ok bytes w'->(execOp a.eval o).run P w= .ok (.value bytes) w':=by intro bytes w' hr;simp only[execOp,ho,resolve,Lz,Fv,hty,invoke,builtin,Sem.run_bind,Sem.run_pure,Result.andThen_ok,List.map_toArray,AAU,AAm,Mp,hev2,hr]
 simp only[GO]at B;split at B
 . rename_i ys τ hY;obtain⟨S1,δ1,F1,j,V,Eu,XR,Jl,K,hyk,hyok,R,hypl,Q,xC⟩:=h.Wq hy hY;subst XR;have N:=xC.lt C7;have hav:C6 δ1 x=C6 δ x:=(by cases x<;>simp[C6,Jl]);have v:j.length=ys.length:=(by rw[<- K];simp);split at B
   . -- a node
     rename_i b' k' rows τ' hX;split at B
     . rename_i PO;rcases Eu.VQ g hX with⟨K0,hn,δ2,F2,f,Ff,KF,RP,MJ,hrm,Cm,ML,KJ⟩|⟨_,hn,_⟩
       . simp only[AV.own.injEq]at hn;obtain⟨rfl,rfl,rfl⟩:=hn;subst RP;have dK:f.length=rows.length:=(by rw[<- hrm];simp);have ha2:Rd δ2 a:=λs=>(ha s).trans ((MJ s).trans (Jl s)).symm;simp only[Ap,AAV]at PO;rw[<- dK,<- v]at PO;have h63:f.length+j.length<=9223372036854775807:=(by have:=Nat.le_mul_of_pos_right (f.length+j.length) wX;omega);rw[hav]at Cm;obtain⟨hxr,hxk,Fc',hxok',Kr⟩:=bC Cm;have O:(f.flatten.map DV.A0).length=f.length*i.size:=(by rw[AAo,Dl hxk]);have F:(j.flatten.map DV.A0).length=j.length*i.size:=(by rw[AAo,Dl hyk]);have X:∀x,BJ F2 x\/Ff x->¬V x:=(by intro x g hfy;obtain⟨s,hs⟩:=KJ x g;exact Q s x hs hfy);have sN:(f++j).map (·.map DV.er)=rows++ys:=(by rw[AAp,hrm,K]);have hkk:∀bytes∈f++j,bytes.length=i.size:=by
          intro bytes hr;rcases AAW.1 hr with l|l
          . exact hxk bytes l
          . exact hyk bytes l
         have hU:Nx w S (BJ Fr) w S1 (λx=>BJ F1 x\/V x):=xC;have IH:∀U,(∀x,U x->Ff x)->JQ w S1 f.flatten U->JQ w S1 (f++j).flatten (λx=>U x\/V x):=(by intro U Bw xD;rw[List.flatten_append];exact LX xD hyok (λx g=>X x (.inr (Bw x g))));have grow:∀(base:ABd Addr)(n Ov:Nat),C6 δ x= .slice base n Ov->n=f.length->Ov<f.length+j.length->QS P G w S Fr a o σ':=by
          intro base n Ov J hn T;subst hn;rw[J]at hxr;have M:=Tg (P:=P) (ty:=o.type) hu hi hz hxr O R F T PO h63;have mF:=grownCap_ge w (f.length+j.length) Ov e;obtain⟨W1,m⟩:∃W1,W1=w.drew.alloc (.cells ((f.flatten.map DV.A0++j.flatten.map DV.A0).toArray++Builtin.zeroCells z.cells (grownCap w (f.length+j.length) Ov e-(f.length+j.length))) e):=⟨_,rfl⟩;rw[<- m]at M;refine YV (w':=W1) (Fr:=Fr) (U1:=λx=>BJ F1 x\/V x) (rows:=f++j) (Fd:=λx=>Fc' x\/V x) (arr:=(f.flatten.map DV.A0++j.flatten.map DV.A0).toArray++Builtin.zeroCells z.cells (grownCap w (f.length+j.length) Ov e-(f.length+j.length))) (E:=e) KF N ha2 hd
           (by rw[AAr];exact Uq _ _ (by rw[J];exact M)) (by rw[m];rfl) (by rw[m];rfl) (by rw[m];rfl) (by rw[m];rfl) (IH Fc' Kr hxok') ?_ hkk ⟨XK hzk O F mF,by simpa using mF⟩ ?_ (by rw[sN];exact B) ?_ hU
          . rintro s x g (l|l)
            . exact ML s x g (Kr x l)
            . exact X x (.inl ⟨s,g⟩) l
          . intro n d hn;rw[List.flatten_append]at hn;have T:n<(f.flatten++j.flatten).length:=(AAE.1 hn).1;rw[Array.getElem?_append_left (by rw[List.size_toArray,AAr,AAo,AAo,<- AAr];exact T),List.getElem?_toArray,<- AAp,AAN,hn];rfl
          . rintro x (g|l|l)
            . exact .inl (KJ x (.inl g))
            . exact .inl (KJ x (.inr (Kr x l)))
            . exact .inr l
         rcases bB Cm with⟨J,_,hr0,hF0⟩|⟨b,cc,arr,E,U,J,hb,hk,D3,hS,xD,KE,hF,QV⟩
         . subst hr0;by_cases hm:j.length=0
           . have hy0:j=[]:=List.eq_nil_of_length_eq_zero hm;subst hy0;have M:=Th (P:=P) (w:=w) (ty:=o.type) hu hi (base:=none) (n:=0) (c:=0) (AAe 0) (by simpa using R);have hys:ys=[]:=(by rw[<- K];rfl);have xE:rows=[]:=(by rw[<- hrm];rfl);subst hys;subst xE;refine KC (D:=.own (.slice none 0 0) false i.size []) (Ff:=λ_=>False) KF ha2 hd (by simpa using Uq _ _ (by rw[J];exact M)) (λ_ _=>rfl) (λ_ _ _=>rfl) (λ_ h=>h) (λs x g=>(KF.ok s).Et x g) (.nil _ _ (λ_ h=>h)) (λ_ _ _ h=>h) (.own _ _ _ _) (by simpa using B) ?_;exact hU.trans (Nx.less λx g=>.inl (KJ x (.inl (g.elim id False.elim))))
           . exact grow none 0 0 J rfl ah
         . by_cases wZ:f.length+j.length<=cc
           . -- room
             simp only[AAM,AAT]at D3;have hsz2:f.length*i.size+(j.flatten.map DV.A0).length<=arr.size:=(by rw[F,<- D3.1,<- Nat.add_mul];exact AAw _ wZ);have M:=eJ (P:=P) (ty:=o.type) hu hi hb R F (by intro q hq;obtain⟨dd,Lw,rfl⟩:=ABO.1 hq;exact yG (hypl dd Lw)) wZ hsz2;generalize C:w.setRow b (arr.toList.take (f.length*i.size)++j.flatten.map DV.A0++arr.toList.drop (f.length*i.size+(j.flatten.map DV.A0).length)).toArray=w1 at M;have Z:w1.heap[b]? =some (.cells (arr.toList.take (f.length*i.size)++j.flatten.map DV.A0++arr.toList.drop (f.length*i.size+(j.flatten.map DV.A0).length)).toArray E (0,0)):=(by rw[<- C];exact setRow_heap w b arr _ E _ hb);have VY:∀x,x≠b->w1.heap[x]? =w.heap[x]? :=λx g=>(by rw[<- C];exact setRow_other w b x _ g);have p:Ff b:=(hF b).2 (.inl rfl);have hFc:∀x,U x->Ff x:=λx g=>(hF x).2 (.inr g);have hnb:∀x,U x\/V x->x≠b:=by
              rintro x (l|l) rfl
              . exact KE l
              . exact X x (.inr p) l
             have I:=IH U hFc xD;have jI:Ok w1 S1 (.own (JT false b (f++j).length cc) false i.size (f++j)) (λx=>x=b\/(U x\/V x)):=by
              refine qB Z hkk ?_ hS (I.mono (λx g=>VY x (by rintro rfl;exact hS g)) (λx g=>VY x (hnb x g)) (λ_ h=>h) (B4.2 I).Et) (λg=>hnb b g rfl) ?_
              . simp only[AAM,AAT,List.size_toArray,AAr,List.length_take,List.length_drop,Array.length_toList];refine⟨?_,by simpa using wZ⟩;rw[D3.1];omega
              . intro n d hn;rw[List.flatten_append]at hn;have hxl':f.flatten.length=f.length*i.size:=Dl hxk;rw[List.getElem?_toArray];have T:n<(f.flatten++j.flatten).length:=(AAE.1 hn).1;have htl:(arr.toList.take (f.length*i.size)).length=f.flatten.length:=(by have e0:arr.toList.length=arr.size:=Array.length_toList;rw[hxl',List.length_take];exact Nat.min_eq_left (by omega));rw[AAg (by rw[AAr,htl,AAo];simpa using T)];by_cases Eh:n<f.flatten.length
                . rw[AAg ah]at hn |-;rw[ABC,AAL ah]
                  have:=QV n d hn;simpa using this
                . rw[AAa ah]at hn |-;rw[htl,AAN,hn];rfl
             refine KC (D:=.own (JT false b (f++j).length cc) false i.size (f++j)) (S1:=S1) (S':=S1) KF ha2 hd (by simpa[JT]using Uq _ _ (by rw[J];simpa[JT]using M)) (λx g=>VY x (by rintro rfl;exact hS g))
              (λs x g=>VY x (by rintro rfl;exact ML s x g p)) (λ_ h=>h) (λs x g=>(KF.ok s).Et x g) jI ?_ (.own _ _ _ _) (by rw[Eg,sN];exact B) ?_
             . rintro s x g (rfl|l|l)
               . exact ML s x g p
               . exact ML s x g (hFc x l)
               . exact X x (.inl ⟨s,g⟩) l
             . refine hU.trans ⟨by rw[<- C];rfl,by rw[<- C];rfl,by rw[<- C];rfl,by rw[<- C];simp[World.setRow],?_,λ_ h=>h,λ_ h=>.inl h,λhl q hq=>by have:=hl q hq;rw[<- C];simpa[World.setRow]using this,?_⟩
               . intro x _ hUx;refine VY x ?_;rintro rfl;exact hUx (.inl (KJ x (.inr p)))
               . rintro x (g|rfl|l|l)
                 . exact .inl (.inl (KJ x (.inl g)))
                 . exact .inl (.inl (KJ x (.inr p)))
                 . exact .inl (.inl (KJ x (.inr (hFc x l))))
                 . exact .inl (.inr l)
           . exact grow _ _ cc (by rw[J];rfl) rfl ah
       . cases hn
     . cases B
   . -- a frozen slice without room
     rename_i e0 k0 rows τ' hX;rcases Eu.VQ g hX with⟨_,hn,_⟩|⟨K0,hn,hτ,UI,Nc⟩
     . cases hn
     . simp only[AV.sl.injEq]at hn;obtain⟨rfl,rfl,rfl⟩:=hn;subst hτ;rw[hav]at Nc;have Qu:Rd δ1 a:=λs=>(ha s).trans (Jl s).symm;obtain⟨ad,cap,J⟩:=PD Nc;have W:cap=rows.length:=by
        rw[J]at Nc;cases Nc with
        |nil _ _ _ _ g=>exact g rfl
        |sl _ _ _ _ _ _ _ g=>exact g rfl
       subst W;split at B
       . -- nothing to append
         rename_i hem;obtain rfl:=List.isEmpty_iff.1 hem;have hy0:j=[]:=List.eq_nil_of_length_eq_zero (by rw[v];rfl);subst hy0;have M:=Th (P:=P) (w:=w) (ty:=o.type) hu hi (base:=ad) (n:=rows.length) (c:=rows.length) (AAe _) (by simpa using R);refine KC (D:=.lf (.sl false i.size rows) (.slice ad rows.length rows.length)) (Ff:=λ_=>False) (S1:=S1) (S':=S1) Eu Qu hd (by simpa using Uq _ _ (by rw[J];exact M)) (λ_ _=>rfl) (λ_ _ _=>rfl) (λ_ h=>h) (λs x g=>(Eu.ok s).Et x g) (.lf _ _ _ (by rw[<- J];exact fz_weak Nc) (λ_ h=>h)) (λ_ _ _ h=>h) (.lf _ _ trivial) (by rw[EY];exact B) ?_;exact xC.trans (Nx.less λx g=>.inl (g.elim id False.elim))
       . rename_i O1;obtain⟨y0,L,rfl⟩:∃y0 L,ys=y0::L:=by
          cases ys with
          |nil=>exact absurd rfl O1
          |cons y0 L=>exact⟨y0,L,rfl⟩
         split at B
         . rename_i PO;simp only[Ap,AAV]at PO;obtain⟨f,l,h2,h3,h4,h5⟩:=RN Nc;rw[UP UI]at l;have hyl1:j.length=(y0::L).length:=v;rw[<- h5,<- hyl1]at PO;have h63:f.length+j.length<=9223372036854775807:=(by have:=Nat.le_mul_of_pos_right (f.length+j.length) wX;omega);have O:(f.flatten.map DV.A0).length=f.length*i.size:=(by rw[AAo,Dl h2]);have F:(j.flatten.map DV.A0).length=j.length*i.size:=(by rw[AAo,Dl hyk]);rw[J,<- h5]at h4;have T:f.length<f.length+j.length:=(by rw[hyl1];simp);have M:=Tg (P:=P) (ty:=o.type) hu hi hz h4 O R F T PO h63;have mF:=grownCap_ge w (f.length+j.length) f.length e;obtain⟨W1,m⟩:∃W1,W1=w.drew.alloc (.cells ((f.flatten.map DV.A0++j.flatten.map DV.A0).toArray++Builtin.zeroCells z.cells (grownCap w (f.length+j.length) f.length e-(f.length+j.length))) e):=⟨_,rfl⟩;rw[<- m]at M;have sN:(f++j).map (·.map DV.er)=rows++y0::L:=(by rw[AAp,l,K]);refine YV (w':=W1) (Fr:=Fr) (U1:=λx=>BJ F1 x\/V x) (rows:=f++j) (Fd:=λx=>False\/V x) (arr:=(f.flatten.map DV.A0++j.flatten.map DV.A0).toArray++Builtin.zeroCells z.cells (grownCap w (f.length+j.length) f.length e-(f.length+j.length))) (E:=e) Eu N Qu hd
            (by rw[AAr];exact Uq _ _ (by rw[J,<- h5];exact M)) (by rw[m];rfl) (by rw[m];rfl) (by rw[m];rfl) (by rw[m];rfl) (by rw[List.flatten_append];exact LX h3 hyok (λ_ h=>h.elim)) ?_ ?_ ⟨XK hzk O F mF,by simpa using mF⟩ ?_ (by rw[sN];exact B) ?_ xC
           . rintro s x g (l|l)
             . exact l
             . exact Q s x g l
           . intro bytes hr;rcases AAW.1 hr with l|l
             . exact h2 bytes l
             . exact hyk bytes l
           . intro n d hn;rw[List.flatten_append]at hn;have T:n<(f.flatten++j.flatten).length:=(AAE.1 hn).1;rw[Array.getElem?_append_left (by rw[List.size_toArray,AAr,AAo,AAo,<- AAr];exact T),List.getElem?_toArray,<- AAp,AAN,hn];rfl
           . rintro x (g|l|l)
             . exact .inl g
             . exact l.elim
             . exact .inr l
         . cases B
   . cases B
 . cases B
end
variable{dst:dD}
section
variable{w w':World}{S S':de}{G:Gi}{δ:dy}{Fr:dh}{P:Program}
def placeOf(P:Program)(t:TypeId):Nat->ABd (Nat×Nat):=λi=>match P.underlying t with
 |some (.struct fs)=>match fs[i]? with
  |some f=>match Ga P f.type with
   |some n=>some (f.offset,n)
   |none=>none
  |none=>none
 |some (.array _ e)=>match Ga P e with
  |some k=>some (i*k,k)
  |none=>none
 |_=>none
def eN(P:Program)(t:TypeId):Bool:=match P.underlying t with
 |some (.struct fs)=>fs.toList.all λf=>(Ga P f.type).isSome
 |some (.array _ e)=>(Ga P e).isSome
 |_=>false
def eF(zc:Array Value)(n:Nat):List Value:=((Array.range n).map (zc[· %zc.size]!)).toList
def JR(P:Program):Op->Yv->Bool
 | .move x,.cp y=>CR x y
 | .assign x,.mv y=>CR x y
 | .assign x,.cp y=>CR x y
 | .pick c a b,.pick c' a' b'=>CR c c'&&CR a a'&&CR b b'
 | .alloc t,.bx n (.c z)=>Ga P t==some n&&(match(P.info? t).bind (·.zero),Iy z with|some v,some D=>tS v D.A0|_,_=>false)
 | .box t x,.bx n y=>Ga P t==some n&&CR x y
 | .build t parts,.T2 z ps=>(match(P.info? t).bind (·.zero),XB z with
  |some v,some zd=>Tk v.cells.toList (zd.map DV.A0)&&z.all FN&&eN P t&&Lc (placeOf P t) parts.toList ps
  |_,_=>false)
 | .buildSlice t len parts,.Nk k z ps=>(match P.underlying t with
  |some (.slice e)=>Ga P e==some k&&decide (len*k<=16777216)&&(match(P.info? e).bind (·.zero),vX z with
   |some v,some zd=>Tk (eF (if len*k=0 then #[]else v.cells) (len*k)) (zd.flatten.map DV.A0)&&z.length==len&&z.all (·.length==k)&&Nl k parts.toList ps
   |_,_=>false)
  |_=>false)
 | .load t a,.ld g n b=>Ga P t==some n&&JK P t==some g&&(g||n==1)&&CR a b
 | .store t a x,.st n b y=>Ga P t==some n&&CR a b&&CR x y
 | .fieldAddr t x f,.Ul off y=>(match P.underlying t with
  |some (.struct fs)=>match fs[f]? with
   |some fd=>fd.offset==off&&(match Ga P fd.type with|some n=>n != 0|none=>false)
   |none=>false
  |_=>false)&&CR x y
 | .indexAddr t x i,.WX k y j=>(match P.underlying t with|some (.slice e)=>Ga P e==some k|_=>false)&&CR x y&&CR i j
 | .indexAddr t x i,.aad len k y j=>(match P.underlying t with|some (.array n e)=>n==len&&Ga P e==some k|_=>false)&&CR x y&&CR i j
 | .makeSlice t x y,.mk k bytes z x' y'=>(match P.underlying t with
  |some (.slice e)=>match P.info? e with
   |some i=>i.size==k&&i.bytes==bytes&&decide (0<bytes)&&decide (0<k)&&z.length==k&&(match i.zero,XB z with|some v,some zd=>Tk v.cells.toList (zd.map DV.A0)|_,_=>false)
   |none=>false
  |_=>false)&&CR x x'&&CR y y'
 | .field t x f,.fld agg off n y=>(match P.underlying t with
  |some (.struct fs)=>match fs[f]? with
   |some fd=>fd.offset==off&&Ga P fd.type==some n&&JK P fd.type==some agg&&(agg||n==1)
   |none=>false
  |_=>false)&&CR x y
 | .index t x i,.idx agg len k y j=>(match P.underlying t with|some (.array n e)=>n==len&&Ga P e==some k&&JK P e==some agg&&(agg||k==1)|_=>false)&&CR x y&&CR i j
 | .index t x i,.lS y j=>(match P.underlying t with|some .string=>true|_=>false)&&CR x y&&CR i j
 | .binOp op _ x y _,.bin op' x' y'=>decide (op=op')&&CR x x'&&CR y y'
 | .binOp op t x y _,.beq neg x' y'=>decide (op=if neg=true then .neq else .eql)&&(match P.underlying t with|some .bool=>true|_=>false)&&CR x x'&&CR y y'
 | .binOp op t x y _,.lR neg kd x' y'=>decide (op=if neg=true then .neq else .eql)&&oJ P t kd&&CR x x'&&CR y y'
 | .load t a,.Xn b=>Ga P t==some 1&&JK P t==some false&&CR a b
 | .store t a x,.WU b y=>Ga P t==some 1&&CR a b&&CR x y
 | .nilCheck x,.Jp y=>CR x y
 | .makeFunc (.func f) first cM,.mkf f' ys=>f==f'&&first.isEmpty&&Gj cM.toList ys
 | .unOp op _ x,.un op' y=>decide (op=op')&&CR x y
 | .convert s d x,.cvt k y=>(match P.underlying s,P.underlying d with|some (.int _),some (.int k')=>decide (k=k')|_,_=>false)&&CR x y
 | .call c,.len y=>(match c.callee,c.args.toList,c.argTypes.toList with
  | .builtin .len,[x],[t]=>(match P.underlying t with|some (.slice _)=>true|_=>false)&&CR x y
  |_,_,_=>false)
 | .call c,.Zc y=>(match c.callee,c.args.toList,c.argTypes.toList with
  | .builtin .len,[x],[t]=>(match P.underlying t with|some .string=>true|_=>false)&&CR x y
  |_,_,_=>false)
 | .call c,.mm mx x y=>(match c.callee,c.args.toList with
  | .builtin b,[u,v]=>(match b,mx with| .max,true=>true| .min,false=>true|_,_=>false)&&CR u x&&CR v y
  |_,_=>false)
 | .call c,.app k bytes x y=>(match c.callee,c.args.toList,c.argTypes.toList with
  | .builtin .append,[u,v],[t,t']=>t==t'&&(match P.underlying t with
   |some (.slice e)=>match P.info? e with
    |some i=>i.size==k&&i.bytes==bytes&&decide (0<bytes)&&(match i.zero with|some z=>z.cells.size==k|none=>false)
    |none=>false
   |_=>false)&&CR u x&&CR v y
  |_,_,_=>false)
 | .slice t x lo hi mx,.slc k fr y lo' hi' kD=>(match P.underlying t with|some (.slice e)=>Ga P e==some k|_=>false)&&(mx.isNone||hi.isSome)&&CR x y&&RH lo lo'&&RH hi hi'&&RH mx kD
 | .extract x i,.ext y j=>decide (i=j)&&CR x y
 |_,.bad=>true
 |_,_=>false
theorem arr2{b:Type}{a:Array b}{x y:b}(h:a.toList=[x,y]):a= #[x,y]:=by apply ABT;simpa using h
theorem run_mapM{c d:Type}(l:List c)(f:c->Sem d)(g:c->d)(h:∀a∈l,(f a).run P w= .ok (g a) w):(l.mapM f).run P w= .ok (l.map g) w:=by
 induction l with
 |nil=>simp
 |cons a l ih=>have e:=h a ak;have i:=ih (λb j=>h b (by simp[j]));simp[List.mapM_cons,e,i]
theorem run_build{b:Array (Nat×Value)}(hi:P.info? t=some i)(p:i.zero=some v)(c:eN P t=true)(a:Array Value)(l:Instr.fill (placeOf P t) v.cells b.toList=some a):
 (Instr.build t b).run P w= .ok (.agg a) w:=by
 unfold eN at c;split at c
 . rename_i g h;have q:(g.mapM (m:=Sem) λ(f:Field)=>Prod.mk f.offset <$> sizeOf f.type).run P w= .ok (g.map λf=>(f.offset,(Ga P f.type).getD 0)) w:=by
    rw[Array.mapM_eq_mapM_toList]
    have:=run_mapM (P:=P) (w:=w) g.toList (λ(f:Field)=>(Prod.mk f.offset <$> sizeOf f.type:Sem (Nat×Nat))) (λf=>(f.offset,(Ga P f.type).getD 0)) (by
     intro f d;rw[AAH]at c
     have:=c f d;obtain⟨n,hn⟩:=Option.isSome_iff_exists.1 this;simp[run_sizeOf hn,hn])
    simp only[Sem.run_map,this,Result.andThen_ok];congr 1;apply ABT;simp
   have j:(λi=>Option.map (λ(f:Field)=>(f.offset,(Ga P f.type).getD 0)) g[i]?)=placeOf P t:=by
    funext i;simp only[placeOf,h];cases d:g[i]? with
    |none=>rfl
    |some f=>
     rw[AAH]at c
     have:=c f (by rw[Array.mem_toList_iff];exact Array.mem_of_getElem? d);obtain⟨n,hn⟩:=Option.isSome_iff_exists.1 this;simp[hn]
   simp only[Instr.build,zeroValue,typeInfo,Sem.run_bind,run_underlying h];simp[program,Sem.run,hi,p,q];rw[j,l];simp
 . rename_i n e h;obtain⟨k,o⟩:=Option.isSome_iff_exists.1 c;have j:(λi=>some (i*k,k))=placeOf P t:=(by funext i;simp[placeOf,h,o]);simp only[Instr.build,zeroValue,typeInfo,Sem.run_bind,run_underlying h];simp[program,Sem.run,hi,p,run_sizeOf o];rw[j,l];simp
 . cases c
theorem YT{b:Array (Nat×Value)}(h:P.underlying t=some (.slice e))(g:Ga P e=some k)(j:n*k<=16777216)(hi:P.info? e=some i)(l:i.zero=some v)(a:Array Value)(c:Instr.fill (λi=>some (i*k,k)) (eF (if n*k=0 then #[]else v.cells) (n*k)).toArray b.toList=some a):
 (Instr.buildSlice t n b).run P w= .ok (.slice (some ⟨w.heap.size,0,none⟩) n n) (w.alloc (.cells a e)):=by
 have f:¬(16777216<n*k):=ah
 simp only[eF,Array.toArray_toList]at c;by_cases d:n*k=0
 . simp only[d,AAi]at c;simp[Instr.buildSlice,run_underlying h,run_sizeOf g,d];simp at c;rw[c];simp[newRow]
 . simp only[d,AAT]at c;simp[Instr.buildSlice,run_underlying h,run_sizeOf g,d,f,zeroValue,typeInfo,hi,l];rw[c];simp[newRow]
theorem UO{c:Type}[BEq c][LawfulBEq c]{a:ABd c}{b:c}(h:(a==some b)=true):a=some b:=by simpa using h
theorem op_sound(h:St G w S δ Fr)(W:∀b,S b->b<w.heap.size)(E:Rd δ a){io:Yv}(hd:I5 G a o dst)(l:JR P o.op io=true)(H:GO G io dst (λs=>(δ s).er)=some σ'):QS P G w S Fr a o σ':=by
 have val:∀{v:AV},(∀{dst},GO G io (some dst) (λs=>(δ s).er)=(match valOf io (λs=>(δ s).er)with|some v=>wr dst v (λs=>(δ s).er)|none=>none))->(GO G io none (λs=>(δ s).er)=none)->
  (∀v,valOf io (λs=>(δ s).er)=some v->Gives P w S δ a o v)->QS P G w S Fr a o σ':=by
  intro _ m C F;cases dst with
  |none=>rw[C]at H;cases H
  |some dst=>
   rw[m]at H;split at H
   . rename_i v B;exact ZZ h E hd (F v B) H
   . cases H
 have O:∀{io:Yv},(GO G io none (λs=>(δ s).er)=none)->GO G io dst (λs=>(δ s).er)=some σ'->∃M,dst=some M:=by
  intro io m C;cases dst with
  |none=>rw[m]at C;cases C
  |some dst=>exact⟨dst,rfl⟩
 unfold JR at l;split at l
 . rename_i x y p;exact val (v:=.dead) rfl rfl λv B=>Sd h E (.inl p) l B
 . rename_i x y p;obtain⟨M,rfl⟩:=O rfl H;exact runs_mv h E hd p l H
 . rename_i x y p;exact val (v:=.dead) rfl rfl λv B=>Sd h E (.inr p) l B
 . rename_i c x y c' Z y' p;simp only[AAD]at l;exact val (v:=.dead) rfl rfl λv B=>o0 h E p l.1.1 l.1.2 l.2 B
 . rename_i t n z p;simp only[AAD]at l;obtain⟨m,C⟩:=l;split at C
   . rename_i v D B hD;obtain⟨i,hi,N⟩:=Option.bind_eq_some_iff.1 B;obtain⟨M,rfl⟩:=O rfl H;refine tJ (t:=t) (y:=.c z) h W E hd ⟨D,hD⟩ ?_ H
     have:=yV (P:=P) t i v hi N w;simp only[execOp,p,Sem.run_bind,this,Result.andThen_ok,Sem.run_pure,C6,hD,lL C]
   . cases C
 . rename_i t x n y p;simp only[AAD]at l;obtain⟨hy,Mp⟩:=Am l.2 E;obtain⟨M,rfl⟩:=O rfl H;refine tJ (t:=t) h W E hd hy ?_ H;simp only[execOp,p,Sem.run_bind,tH,Result.andThen_ok,Sem.run_pure,Mp]
 . rename_i t V z ps p;split at l
   . rename_i v zd B N;simp only[AAD]at l;obtain⟨⟨⟨m,C⟩,F⟩,Q⟩:=l;obtain⟨i,hi,U⟩:=Option.bind_eq_some_iff.1 B;obtain⟨M,rfl⟩:=O rfl H;refine runs_bld h E hd p N C Q (λJ T=> ?_) H;refine run_build hi U F J ?_
     have:=Pu m;have e:v.cells=(zd.map DV.A0).toArray:=(by apply ABT;simpa using this);rw[e];simpa using T
   . cases l
 . rename_i t len V k z ps p;split at l
   . rename_i e I;simp only[AAD,AAV]at l;obtain⟨⟨m,C⟩,F⟩:=l;split at F
     . rename_i v zd B N;simp only[AAD,AAR]at F;obtain⟨⟨⟨L,g2⟩,K⟩,R⟩:=F;obtain⟨i,hi,U⟩:=Option.bind_eq_some_iff.1 B;obtain⟨M,rfl⟩:=O rfl H;refine runs_bsl (e:=e) h W E hd p N (λr hr=>by rw[AAH]at K;simpa using K r hr) g2 R (λJ T=> ?_) H;refine YT I (UO m) C hi U J ?_;rw[Pu L];simpa using T
     . cases F
   . cases l
 . rename_i t x g n y p;simp only[AAD,AAk,AAR]at l;exact val (v:=.dead) rfl rfl λv B=>Se h E p l.1.1.1 l.1.1.2 l.1.2 l.2 B
 . rename_i t x u n y z p;simp only[AAD,AAR]at l;cases dst with
   |some dst=>simp[GO,valOf]at H
   |none=>exact tK h E hd p l.1.1 l.1.2 l.2 H
 . rename_i t x f off y p;simp only[AAD]at l;obtain⟨m,C⟩:=l;split at m
   . rename_i fs I;split at m
     . rename_i fd T;simp only[AAD,AAR]at m;obtain⟨L,g2⟩:=m;split at g2
       . rename_i n hn;simp only[bne_iff_ne]at g2;exact val (v:=.dead) rfl rfl λv B=>aB h E p I T L hn g2 C B
       . cases g2
     . cases m
   . cases m
 . rename_i t x i k y j p;simp only[AAD]at l;obtain⟨⟨m,C⟩,F⟩:=l;split at m
   . rename_i e I;exact val (v:=.dead) rfl rfl λv B=>aC h E p I (UO m) C F B
   . cases m
 . rename_i t x i len k y j p;simp only[AAD]at l;obtain⟨⟨m,C⟩,F⟩:=l;split at m
   . rename_i n e I;simp only[AAD,AAR]at m;obtain⟨rfl,g2⟩:=m;exact val (v:=.dead) rfl rfl λv B=>wH h E p I g2 C F B
   . cases m
 . rename_i t x y k bytes z Z y' p;simp only[AAD]at l;obtain⟨⟨m,C⟩,F⟩:=l;split at m
   . rename_i e I;split at m
     . rename_i i hi;simp only[AAD,AAR,AAV]at m;obtain⟨⟨⟨⟨⟨L,g2⟩,K⟩,R⟩,g5⟩,g6⟩:=m;split at g6
       . rename_i v zd B N;obtain⟨M,rfl⟩:=O rfl H;exact runs_mk h W E hd p I hi B L g2 K R N (Pu g6) g5 C F H
       . cases g6
     . cases m
   . cases m
 . rename_i t x f agg off n y p;simp only[AAD]at l;obtain⟨m,C⟩:=l;split at m
   . rename_i fs I;split at m
     . rename_i fd T;simp only[AAD,AAR,AAk]at m;obtain⟨⟨⟨L,g2⟩,K⟩,R⟩:=m;exact val (v:=.dead) rfl rfl λv B=>wN h E p I T L g2 K R C B
     . cases m
   . cases m
 . rename_i t x i agg len k y j p;simp only[AAD]at l;obtain⟨⟨m,C⟩,F⟩:=l;split at m
   . rename_i n e I;simp only[AAD,AAR,AAk]at m;obtain⟨⟨⟨rfl,g2⟩,K⟩,R⟩:=m;exact val (v:=.dead) rfl rfl λv B=>wQ h E p I g2 K R C F B
   . cases m
 . rename_i t x i y j p;simp only[AAD]at l;obtain⟨⟨m,C⟩,F⟩:=l;split at m
   . rename_i I;exact val (v:=.dead) rfl rfl λv B=>o5 h E p I C F B
   . cases m
 . rename_i op t x y u op' Z y' p;simp only[AAD,AAV]at l;obtain⟨⟨rfl,C⟩,F⟩:=l;exact val (v:=.dead) rfl rfl λv B=>wJ h E p C F B
 . rename_i op t x y u neg Z y' p;simp only[AAD,AAV]at l;obtain⟨⟨⟨m,C⟩,F⟩,Q⟩:=l;split at C
   . rename_i I;exact val (v:=.dead) rfl rfl λv B=>wI h E p m I F Q B
   . cases C
 . rename_i op t x y u neg kd Z y' p;simp only[AAD,AAV]at l;obtain⟨⟨⟨m,C⟩,F⟩,Q⟩:=l;exact val (v:=.dead) rfl rfl λv B=>o4 h E p m C F Q B
 . rename_i t x y p;simp only[AAD,AAR]at l;exact val (v:=.dead) rfl rfl λv B=>Se h E p l.1.1 l.1.2 (.inr rfl) l.2 (lda_ld B)
 . rename_i t x u y z p;simp only[AAD,AAR]at l;cases dst with
   |some dst=>simp[GO,valOf]at H
   |none=>exact tK h E hd p l.1.1 l.1.2 l.2 (sts_st H)
 . rename_i x y p;exact val (v:=.dead) rfl rfl λv B=>oZ h E p l B
 . rename_i f first cM f' ys p
   simp only[AAD,AAR]at l;obtain⟨⟨rfl,m⟩,C⟩:=l;exact val (v:=.dead) rfl rfl λv B=>aD h E p (by simpa using m) C B
 . rename_i op t x op' y p;simp only[AAD,AAV]at l;obtain⟨rfl,C⟩:=l;exact val (v:=.dead) rfl rfl λv B=>gives_un h E p C B
 . rename_i s t x k y p;simp only[AAD]at l;obtain⟨m,C⟩:=l;split at m
   . rename_i k0 k' hs ht;simp only[AAV]at m;subst m;exact val (v:=.dead) rfl rfl λv B=>wK h E p hs ht C B
   . cases m
 . rename_i c y p;split at l
   . rename_i x t L g2 K;simp only[AAD]at l;obtain⟨m,C⟩:=l;split at m
     . rename_i e I;exact val (v:=.dead) rfl rfl λv B=>wR h E p L g2 K ⟨e,I⟩ C B
     . cases m
   . cases l
 . rename_i c y p;split at l
   . rename_i x t L g2 K;simp only[AAD]at l;obtain⟨m,C⟩:=l;split at m
     . rename_i I;exact val (v:=.dead) rfl rfl λv B=>o6 h E p L g2 K I C B
     . cases m
   . cases l
 . rename_i c mx x y p;split at l
   . rename_i b u v Lz Fv;simp only[AAD]at l;obtain⟨⟨m,C⟩,F⟩:=l;have hb:b=(if mx=true then .max else .min):=by
      split at m
      . rfl
      . rfl
      . cases m
     exact val (v:=.dead) rfl rfl λv B=>gives_mm h E p (by rw[Lz,hb]) Fv C F B
   . cases l
 . rename_i c k bytes x y p;split at l
   . rename_i u v t t' L g2 K;simp only[AAD,AAR]at l;obtain⟨⟨⟨rfl,m⟩,C⟩,F⟩:=l;split at m
     . rename_i e I;split at m
       . rename_i i hi;simp only[AAD,AAR,AAV]at m;obtain⟨⟨⟨k1,k2⟩,k3⟩,X⟩:=m;split at X
         . rename_i z N;simp only[AAR]at X;obtain⟨M,rfl⟩:=O rfl H;exact runs_app h W E hd p L (arr2 g2) (arr2 K) I hi k1 k2 k3 N X C F H
         . cases X
       . cases m
     . cases m
   . cases l
 . rename_i t x lo hi mx k fr y lo' hi' kD p;simp only[AAD,AAk,AA0]at l;obtain⟨⟨⟨⟨⟨m,C⟩,F⟩,Q⟩,h5⟩,h6⟩:=l;split at m
   . rename_i e I;obtain⟨M,rfl⟩:=O rfl H;cases fr with
     |true=>exact lJ h E hd p I (UO m) F Q h5 h6 (C.imp id (by intro q hq;simp[hq]at q)) H
     |false=>exact yW h E hd p I (UO m) F Q h5 h6 (C.imp id (by intro q hq;simp[hq]at q)) H
   . cases m
 . rename_i x i y j p;simp only[AAD,AAV]at l;obtain⟨rfl,C⟩:=l;exact val (v:=.dead) rfl rfl λv B=>wM h E p C B
 . cases dst<;>simp[GO,valOf]at H
 . cases l
end
variable{w0:World}{R W q U0:de}{M:Op}{args:ek}{K:dg}{out:AV}{O:Exit->Act->World->Prop}{σ:Sg}{io:BP}
section
variable{w w':World}{S S':de}{G:Gi}{δ:dy}{Fr:dh}{P:Program}
def Rel(G:Gi)(n:Nat)(w0:World)(S0 U0:de)(a:Act)(w:World)(σ:Sg):Prop:=
 ∃(S:de)(δ:dy)(F:dh),a.tmps.size=n/\a.defers=[]/\Rd δ a/\(λs=>(δ s).er)=σ/\St G w S δ F/\Nx w0 S0 U0 w S (BJ F)/\(∀b,S b->b<w.heap.size)
def Y2(w0:World)(S0 U0:de):Prop:=GI w0 S0/\∀b,S0 b->¬U0 b/\b<w0.heap.size
def GI.mono(h:GI w S)(c:∀b,S b->S' b):GI w S':=λx a=>⟨c _ (h x a).1,(h x a).2⟩
theorem Y2.now(e:Y2 w0 F R)(a:Nx w0 F R w S W):GI w S:=by intro x k;obtain⟨d,arr,E,fz,g,h⟩:=e.1 x k;obtain⟨i,j⟩:=e.2 _ d;exact⟨a.sub _ d,arr,E,fz,by rw[a.block _ j i];exact g,h⟩
theorem JZ(h:St G w S δ Fr){d:DV}(hd:Ok w S d F)(Q:∀x,F x->BJ Fr x)(P:Dc δ d){a:AV}(f:TL (λs=>(δ s).er) d.er=some a):
 ∃D,D.er=a/\D.A0=d.A0/\Ok w (λx=>S x\/BJ Fr x) D (λ_=>False):=by
 have B:∀(b:AV)(v:Value),Fz w (λx=>S x\/BJ Fr x) b v->C8 b=true->(∀t,b≠ .fp t)->(b≠ .un)->∃D:DV,D.er=b/\D.A0=v/\Ok w (λx=>S x\/BJ Fr x) D (λ_=>False):=by
  intro b v m g L N;refine⟨.lf b v,ak,ak,.lf _ _ _ ?_ (λ_ h=>h)⟩;cases b with
  |sc u=>cases m with|sc _ M=>exact⟨rfl,M⟩
  |sl=>exact m
  |dead=>trivial
  |cl=>trivial
  |vb=>cases m
  |oT=>cases m
  |al=>trivial
  |Kk=>trivial
  |fp t=>exact absurd rfl (L t)
  |un=>exact absurd rfl N
  |own=>simp[C8]at g
  |agg=>simp[C8]at g
  |BQ=>simp[C8]at g
 have T:∀{D:DV}{z:de}{k:Nat}{row:dm},Ok w S D z->(∀x,z x->BJ Fr x)->D.er= .own true k [row]->∃y,y.er= .fp (row.map JH)/\y.A0=D.A0/\Ok w (λx=>S x\/BJ Fr x) y (λ_=>False):=by
  intro D z k row l O i;refine⟨.lf (.fp (row.map JH)) D.A0,ak,ak,.lf _ _ _ ?_ (λ_ h=>h)⟩;cases l with
  |lf b v _ ha _=>simp only[EY]at i;subst i;exact ha.elim
  |nil=>simp at i
  |agg=>simp at i
  |BQ=>simp at i
  |own bx R rows b c arr E Fs _ hb hk D3 LJ hv dI Lw Bg KE o8=>
   simp only[Eg,AV.own.injEq]at i;obtain⟨rfl,rfl,H⟩:=i;refine⟨b,0,by simp[JT],.inr (O b ((o8 b).2 (.inl rfl))),λj a I=> ?_⟩
   match rows,H with
   |[Im],H=>
    simp only[AAU,AAm,List.cons.injEq,and_true]at H;subst H;simp only[List.map_map,AAN]at I;cases hjd:Im[j]? with
    |none=>simp[hjd]at I
    |some d=>
     simp only[hjd,AAf,AAC,Function.comp]at I;subst I;refine⟨d.A0,?_,?_⟩
     . have:=hv 0 j Im d rfl hjd;simp only[World.cell?,hb];simpa using this
     . exact(dI 0 j Im d rfl hjd).freeze.mono (λ_ _=>rfl) (λx n=>n.imp id (λm=>O x ((o8 x).2 (.inr ⟨0,j,m⟩))))
 cases hd with
 |lf b v _ ha o8=>
  simp only[EY]at f;cases b with
  |sc u=>simp only[TL,AAC]at f;subst f;obtain⟨rfl,M⟩:=ha;exact B _ _ (.sc _ M) rfl ak ak
  |sl e k rows=>
   simp only[TL,AAC]at f;subst f;have m:Fz w (λx=>S x\/BJ Fr x) (.sl false k rows) v:=by
    have K:Fz w (λx=>S x\/BJ Fr x) (.sl e k rows) v:=Fz.mono ha (λ_ _=>rfl) (λ_ h=>.inl h);cases K with
    |nil x k a c n=>exact .nil _ _ _ _ ak
    |sl x k rows b off c vs n QW hS hk hc f=>exact .sl _ _ _ b off c vs ak QW hS hk hc f
   exact B _ _ m rfl ak ak
  |al r p=>
   simp only[TL]at f;split at f
   . rename_i k rows hn;simp only[AAC]at f;cases P with
     |lf _ _ g=>obtain⟨bx,R,q,g⟩:=g;obtain⟨D,C,i⟩:=Dt (h.ok r).Kt hn;rw[g]at C;obtain rfl:=AAG C;obtain⟨z,l,J⟩:=(h.ok r).Au g;have o:=l.freeze;rw[i,f]at o;subst f;simp only[Nu]at o |-;exact B _ _ (o.mono (λ_ _=>rfl) (λx n=>n.imp id (λm=>⟨r,J x m⟩))) rfl ak ak
   . rename_i k row hn;simp only[AAC]at f;cases P with
     |lf _ _ g=>obtain⟨bx,R,q,g⟩:=g;obtain⟨D,C,i⟩:=Dt (h.ok r).Kt hn;rw[g]at C;obtain rfl:=AAG C;obtain⟨z,l,J⟩:=(h.ok r).Au g;subst f;obtain⟨y,U,V,W⟩:=T l (λx n=>⟨r,J x n⟩) i;exact⟨y,U,by simpa using V,W⟩
   . cases f
  |own=>exact ha.elim
  |fp t=>simp only[TL,AAC]at f;subst f;exact⟨.lf (.fp t) v,ak,ak,.lf _ _ _ (Hc.mono (a:=.fp t) ha (λ_ _=>rfl) (λ_ h=>.inl h)) (λ_ h=>h)⟩
  |_=>simp[TL]at f
 |nil k _ o8=>simp only[Eg,AAm,TL,AAC]at f;subst f;simp only[Nu,AAm];exact B _ _ (.nil false k none 0 ak) rfl ak ak
 |own bx k rows b c arr E Fs _ hb hk D3 LJ hv dI Lw Bg KE o8=>
  have l:=Ok.own bx k rows b c arr E Fs F hb hk D3 LJ hv dI Lw Bg KE o8;have o:=l.freeze;cases bx with
  |true=>
   simp only[Eg]at f
   match rows,f,l with
   |[row],f,l=>simp only[AAU,AAm,TL,AAC]at f;subst f;exact T (k:=k) l Q ak
   |[],f,_=>simp[TL]at f
   |_::_::_,f,_=>simp[TL]at f
  |false=>simp only[Eg,TL,AAC]at f;rw[Eg,f]at o;subst f;simp only[Nu]at o |-;exact B _ _ (o.mono (λ_ _=>rfl) (λx n=>n.imp id (Q x))) rfl ak ak
 |agg=>simp[TL]at f
 |BQ=>simp[TL]at f
theorem yN(h:St G w S δ Fr)(ds:dH):∀{l:dm},(∀d∈ds,∃F,Ok w S d F/\∀x,F x->BJ Fr x)->(∀d∈ds,Dc δ d)->rdL (λs=>(δ s).er) (ds.map DV.er)=some l->
 ∃b:List DV,b.map DV.er=l/\b.map DV.A0=ds.map DV.A0/\∀D∈b,Ok w (λx=>S x\/BJ Fr x) D (λ_=>False):=by
 induction ds with
 |nil=>intro l _ _ a;simp only[AAm,rdL,AAC]at a;simp_all
 |cons d ds ih=>
  intro l f g a;simp only[AAU,rdL]at a;split at a
  . rename_i x l' j k;simp only[AAC]at a;subst a;obtain⟨F,i,g2⟩:=f d ak;obtain⟨D,m,n,o⟩:=JZ h i g2 (g d ak) j;obtain⟨b,p,q,r⟩:=ih (λe c=>f e (by simp[c])) (λe c=>g e (by simp[c])) k;refine⟨D::b,bg,bg,?_⟩;simp_all
  . cases a
theorem bF(h:St G w S δ Fr)(hd:Ok w S D F)(j:∀x,F x->BJ Fr x)(g:Dc δ D)(f:kN (λs=>(δ s).er) D.er=some res):
 ∃d,d.er=res/\d.A0=D.A0/\Ok w (λx=>S x\/BJ Fr x) d (λ_=>False):=by
 cases Qw:D.er with
 |agg cs=>
  obtain⟨ds,rfl⟩:∃ds,D= .agg ds:=by
   have:=hd.Kt;cases D with
   |agg ds=>simp_all
   |lf c v=>cases this with|lf _ _ n=>simp at Qw;subst Qw;simp[C8]at n
   |own=>simp at Qw
   |BQ=>simp at Qw
  simp only[HM,kN]at f;split at f
  . rename_i l n;simp only[AAC]at f;subst f;cases hd with
    |agg _ Fs _ h1 h2 h3 h4=>
     cases g with
     |agg _ g=>obtain⟨o,t,u,y⟩:=yN h ds (λe m=>by obtain⟨i,hi⟩:=AAd m;exact⟨Fs i,h1 i e hi,λx q=>j x ((h4 x).2 ⟨i,q⟩)⟩) (λe m=>by obtain⟨i,hi⟩:=AAd m;grind) n;exact⟨.agg o,by simp[t],by simp[u],B4.2 (CN y)⟩
  . cases f
 |al r p=>rw[Qw]at f;simp only[kN]at f;rw[<- Qw]at f;exact JZ h hd j g f
 |own b k rows=>rw[Qw]at f;simp only[kN]at f;rw[<- Qw]at f;exact JZ h hd j g f
 |sc v=>rw[Qw]at f;simp only[kN]at f;rw[<- Qw]at f;exact JZ h hd j g f
 |sl e k rows=>rw[Qw]at f;simp only[kN]at f;rw[<- Qw]at f;exact JZ h hd j g f
 |fp cs=>rw[Qw]at f;simp only[kN]at f;rw[<- Qw]at f;exact JZ h hd j g f
 |_=>simp[Qw,kN]at f
theorem TK(h:St G w S δ Fr)(B:Rd δ a)(k:ek):∀{f:List Operand}{d:dm},Gj f k=true->Jt (λs=>(δ s).er) k=some d->
 ∃i:List DV,i.map DV.er=d/\i.map DV.A0=f.map a.eval/\∀D∈i,Ok w (λx=>S x\/BJ Fr x) D (λ_=>False):=by
 induction k with
 |nil=>
  intro f d g e;cases f with
  |cons=>simp[Gj]at g
  |nil=>simp only[Jt,AAC]at e;simp_all
 |cons y k ih=>
  intro f d g e;cases f with
  |nil=>simp[Gj]at g
  |cons x f=>
   simp only[Gj,AAD]at g;obtain⟨E,F⟩:=Am g.1 B;simp only[Jt]at e;split at e
   . rename_i b l j z;simp only[AAC]at e;subst e;obtain⟨D,m,n,o⟩:∃D,D.er=b/\D.A0=C6 δ y/\Ok w (λx=>S x\/BJ Fr x) D (λ_=>False):=by
      cases y with
      |t s=>exact bF h (h.ok s) (λx C=>⟨s,C⟩) (h.al s) j
      |c c=>obtain⟨q,p⟩:=E;obtain⟨r,u,v,_⟩:=Ib (w:=w) (S:=S) (δ:=δ) c q p;simp only[ar]at j;rw[<- r]at j;obtain⟨D,m,n,o⟩:=bF h u (λ_ h=>h.elim) v j;exact⟨D,m,by rw[n];simp[C6,p],o⟩
     obtain⟨i,H,I,J⟩:=ih g.2 z;refine⟨D::i,bg,am,?_⟩;simp_all
   . cases e
theorem RO(h:Ok w S D F):∃d,d.er=JH D.er/\d.A0=D.A0/\Ok w (λx=>S x\/F x) d (λ_=>False)/\Dc δ d:=by
 induction h with
 |lf a v F ha hF=>
  have g:=ha.C8;cases a with
  |sc u=>exact⟨.lf (.sc u) v,ak,ak,.lf _ _ _ ha (λ_ h=>h),.lf _ _ trivial⟩
  |sl e k rows=>exact⟨.lf (.sl e k rows) v,ak,ak,.lf _ _ _ (Fz.mono ha (λ_ _=>rfl) (λ_ h=>.inl h)) (λ_ h=>h),.lf _ _ trivial⟩
  |own=>exact ha.elim
  |agg=>exact ha.elim
  |BQ=>exact ha.elim
  |_=>exact⟨.lf .dead v,by simp[JH],ak,.lf _ _ _ trivial (λ_ h=>h),.lf _ _ trivial⟩
 |nil k F hF=>exact⟨.lf (.sl false k []) (.slice none 0 0),ak,ak,.lf _ _ _ (Fz.nil false k none 0 ak) (λ_ h=>h),.lf _ _ trivial⟩
 |own bx k rows b c arr E Fs F hb hk D3 LJ hv hr hd Bg KE hF ih=>
  have y:=(Ok.own bx k rows b c arr E Fs F hb hk D3 LJ hv hr hd Bg KE hF).freeze;cases bx with
  |true=>exact⟨.lf .dead (JT true b rows.length c),ak,ak,.lf _ _ _ trivial (λ_ h=>h),.lf _ _ trivial⟩
  |false=>simp only[Eg,Nu,Kf]at y |-;exact⟨.lf (.sl false k (List.map (λ(x:dm)=>List.map JH x) (List.map (λ(x:dH)=>List.map DV.er x) rows))) (JT false b rows.length c),by rw[EY],ak,.lf _ _ _ y (λ_ h=>h),.lf _ _ trivial⟩
 |agg cs Fs F hr hd Bg hF ih=>
  obtain⟨o,g,j⟩:=LB cs (λi D d=>d.er=JH D.er/\d.A0=D.A0/\Ok w (λx=>S x\/F x) d (λ_=>False)/\Dc δ d) (by intro i D n;obtain⟨d,p,q,r,s⟩:=ih i D n;exact⟨d,p,q,r.mono (λ_ _=>rfl) (λ_ _=>rfl) (λx t=>t.imp id (λh=>(hF x).2 ⟨i,h⟩)) (λ_ h=>h.elim),s⟩);refine⟨.agg o,?_,?_,B4.2 (CN λd l=> ?_),.agg _ λi d l=> ?_⟩
  . simp only[HM,r5,AV.agg.injEq,List.map_map];exact map_mk g j _ _ ak λi c d f m=>by simp[m,f.1]
  . simp only[Jh];congr 2;exact map_mk g j _ _ ak λi c d f m=>by simp[m,f.2.1]
  . obtain⟨i,hi⟩:=AAd l;obtain⟨c,_,f⟩:=mem_mk g j i d hi;exact f.2.2.1
  . obtain⟨c,_,f⟩:=mem_mk g j i d l;exact f.2.2.2
 |BQ cs Fs F hr hd Bg hF ih=>
  obtain⟨o,g,j⟩:=LB cs (λi D d=>d.er=JH D.er/\d.A0=D.A0/\Ok w (λx=>S x\/F x) d (λ_=>False)/\Dc δ d) (by intro i D n;obtain⟨d,p,q,r,s⟩:=ih i D n;exact⟨d,p,q,r.mono (λ_ _=>rfl) (λ_ _=>rfl) (λx t=>t.imp id (λh=>(hF x).2 ⟨i,h⟩)) (λ_ h=>h.elim),s⟩);refine⟨.BQ o,?_,?_,A8.2 (CN λd l=> ?_),.BQ _ λi d l=> ?_⟩
  . simp only[JG,sA,AV.BQ.injEq,List.map_map];exact map_mk g j _ _ ak λi c d f m=>by simp[m,f.1]
  . simp only[LF];congr 2;exact map_mk g j _ _ ak λi c d f m=>by simp[m,f.2.1]
  . obtain⟨i,hi⟩:=AAd l;obtain⟨c,_,f⟩:=mem_mk g j i d hi;exact f.2.2.1
  . obtain⟨c,_,f⟩:=mem_mk g j i d l;exact f.2.2.2
theorem RL(l:dm):PB l=l.all fresh:=by
 induction l with
 |nil=>rfl
 |cons a l ih=>simp[PB,ih]
theorem oV(l:dn):RM l=l.all (·.all fresh):=by
 induction l with
 |nil=>rfl
 |cons a l ih=>simp[RM,RL,ih]
@[simp]theorem fresh_sc(v:Value):fresh (.sc v)=true:=by simp[fresh]
@[simp]theorem wG(b:Bool)(k:Nat)(rows:dn):fresh (.own b k rows)=rows.all (·.all fresh):=by simp[fresh,oV]
@[simp]theorem UG(a:dm):fresh (.agg a)=a.all fresh:=by simp[fresh,RL]
@[simp]theorem UH(a:dm):fresh (.BQ a)=a.all fresh:=by simp[fresh,RL]
theorem Sb(h:Ok w S D F):fresh D.er=true->(∀x,F x->¬S' x)->Ok w S' D F:=by
 induction h with
 |lf a v F ha hF=>
  intro e hn;simp only[EY]at e;cases a with
  |sc u=>exact .lf _ _ _ ha hF
  |own=>exact ha.elim
  |agg=>exact ha.elim
  |BQ=>exact ha.elim
  |_=>simp[fresh]at e
 |nil k F hF=>intro _ _;exact .nil k F hF
 |own bx k rows b c arr E Fs F hb hk D3 LJ hv hr hd Bg KE hF ih=>
  intro e hn;simp only[Eg,wG,AA9,AAH]at e;refine .own bx k rows b c arr E Fs F hb hk D3 (hn b ((hF b).2 (.inl rfl))) hv (λi j row D f l=>ih i j row D f l ?_ ?_) hd Bg KE hF
  all_goals grind
 |agg cs Fs F hr hd Bg hF ih=>intro e hn;simp only[HM,UG,AA9,AAH]at e;exact .agg cs Fs F (λi D f=>ih i D f (e D (AAP f)) (λx g=>hn x ((hF x).2 ⟨i,g⟩))) hd Bg hF
 |BQ cs Fs F hr hd Bg hF ih=>intro e hn;simp only[JG,UH,AA9,AAH]at e;exact .BQ cs Fs F (λi D f=>ih i D f (e D (AAP f)) (λx g=>hn x ((hF x).2 ⟨i,g⟩))) hd Bg hF
theorem XF(h:Z8 res=true):fresh res=true:=by
 cases res with
 |sc=>simp
 |agg cs=>
  simp only[Z8,AAH]at h;simp only[UG,AAH];intro c b
  have:=h c b;cases c<;>simp_all
 |BQ cs=>
  simp only[Z8,AAH]at h;simp only[UH,AAH];intro c b
  have:=h c b;cases c<;>simp_all
 |_=>simp[Z8]at h
theorem Sa(h:Ok w S D F):fresh D.er=true->Dc δ D:=by
 induction h with
 |lf a v F ha hF=>intro b;simp only[EY]at b;refine .lf a v ?_;cases a<;>simp_all [fresh,Ml]
 |nil=>intro _;exact .own _ _ _ _
 |own=>intro _;exact .own _ _ _ _
 |agg cs Fs F hr hd Bg hF ih=>intro b;simp only[HM,UG,AA9,AAH]at b;exact .agg cs λi D c=>ih i D c (b D (AAP c))
 |BQ cs Fs F hr hd Bg hF ih=>intro b;simp only[JG,UH,AA9,AAH]at b;exact .BQ cs λi D c=>ih i D c (b D (AAP c))
theorem W5(h:Ok w S D F)(b:clean D.er=true):Dc δ D:=by
 have leaf:∀{e:DV},Zn e->KP e.er=true->Dc δ e:=by
  intro e c b;cases c with
  |lf a v c=>refine .lf _ _ ?_;simp only[EY]at b;cases a<;>simp_all [KP,Ml]
  |own=>exact .own _ _ _ _
  |agg=>simp[KP]at b
  |BQ=>simp[KP]at b
 have l:∀{f:dH},(∀(i:Nat) D,f[i]? =some D->Zn D)->(f.map DV.er).all KP=true->Dc δ (.agg f):=by intro f g b;refine .agg _ λi e hi=>leaf (g i e hi) ?_;rw[AAH]at b;exact b _ (ABH (AAP hi))
 have c:=h.Kt;cases c with
 |lf a v c=>refine leaf (.lf a v c) ?_;simp only[EY]at b |-;cases a<;>simp_all [clean,KP,C8]
 |own=>exact .own _ _ _ _
 |agg f g=>simp only[HM,clean]at b;grind
 |BQ f g=>
  simp only[JG,clean]at b;refine .BQ _ λi e hi=> ?_;rw[AAH]at b;have j:=b _ (ABH (AAP hi));have k:=g i e hi;cases k with
  |lf a v c=>refine leaf (.lf a v c) ?_;simp only[EY]at j |-;cases a<;>simp_all [KP,C8]
  |own=>exact .own _ _ _ _
  |agg f g=>simp only[HM]at j;grind
  |BQ=>simp[KP]at j
theorem Ti{c:Call}{b:Func}(k:o.op= .call c)(i:c.callee= .value (.func f))(j:P.funcs[f]? =some b)(m:b.body.isSome=true)(hn:(b.name != "runtime.NumGoroutine")=true):
 (execOp a.eval o).run P w= .ok (.enter f (c.args.toList.map a.eval).toArray) w:=by
 have d:b.body.isNone=false:=by cases h:b.body<;>simp_all
 have e:(b.name== "runtime.NumGoroutine")=false:=by simpa using hn
 have g:c.args.map a.eval=(c.args.toList.map a.eval).toArray:=by apply ABT;simp
 simp only[execOp,k,resolve,i,Act.eval,Deferred.ofValue,Sem.run_bind,Sem.run_pure,Result.andThen_ok,invoke,callFunc,g];have l:(program).run P w= .ok P w:=rfl;rw[l];simp only[Result.andThen_ok,j,e,d,AAM,AAT,Sem.run_pure];simp
def Ji(P:Program):Op->Nat->List Ar->Nat->Bool
 | .call c,f,args,m=>(match c.callee with
  | .value (.func g)=>f==g&&(match P.funcs[f]? with|some fn=>fn.body.isSome&&fn.name != "runtime.NumGoroutine" |none=>false)&&decide (m<5)&&Gj c.args.toList args
  |_=>false)
 |_,_,_,_=>false
theorem iW(h:Ok w S D F):∃d,d.er=zY D.er/\d.A0=D.A0/\Ok w (λx=>S x\/F x) d (λ_=>False):=by
 have leaf:∀{e:DV}{p:de},Ok w S e p->(∀x,p x->F x)->∃d:DV,d.er=fzl e.er/\d.A0=e.A0/\Ok w (λx=>S x\/F x) d (λ_=>False):=by
  intro e p y s;obtain⟨d,f,n,o,_⟩:=RO (δ:=λ_=>default) y;have g:Ok w (λx=>S x\/F x) d (λ_=>False):=o.mono (λ_ _=>rfl) (λ_ _=>rfl) (λx l=>l.imp id (s x)) (λ_ h=>h.elim);cases hee:e.er with
  |sl ee k rows=>
   rw[hee]at f;simp only[frz_sl]at f;refine⟨.lf (.sl false k rows) d.A0,by simp[fzl],am,.lf _ _ _ ?_ (λ_ h=>h)⟩;cases g with
   |lf a v _ ha _=>
    simp only[EY]at f;subst f;simp only[KN];have z:Fz w (λx=>S x\/F x) (.sl ee k rows) v:=ha;cases z with
    |nil x k a c l=>exact Fz.nil _ _ _ _ ak
    |sl x k rows b off c vs l QW hS hk r hr=>exact Fz.sl _ _ _ b off c vs ak QW hS hk r hr
   |nil=>simp at f
   |own=>simp at f
   |agg=>simp at f
   |BQ=>simp at f
  |_=>rw[hee]at f;exact⟨d,by rw[f];simp only[fzl],n,g⟩
 cases Qw:D.er with
 |agg cs=>
  obtain⟨ds,rfl⟩:∃ds,D= .agg ds:=by
   have:=h.Kt;cases D with
   |agg ds=>simp_all
   |lf c v=>cases this with|lf _ _ j=>simp at Qw;subst Qw;simp[C8]at j
   |own=>simp at Qw
   |BQ=>simp at Qw
  simp only[HM,AV.agg.injEq]at Qw;subst Qw;cases h with
  |agg _ Fs _ f n o h4=>
   obtain⟨t,j,q⟩:=LB ds (λi D d=>d.er=fzl D.er/\d.A0=D.A0/\Ok w (λx=>S x\/F x) d (λ_=>False)) (λi D hd=>leaf (f i D hd) (λx l=>(h4 x).2 ⟨i,l⟩));refine⟨.agg t,?_,?_,B4.2 (CN λd u=> ?_)⟩
   . simp only[HM,zY,AV.agg.injEq,List.map_map];exact map_mk j q _ _ ak λi c d m r=>am
   . simp only[Jh];congr 2;exact map_mk j q _ _ ak λi c d m r=>am
   . obtain⟨i,hi⟩:=AAd u;obtain⟨c,_,m⟩:=mem_mk j q i d hi;grind
 |_=>obtain⟨d,f,n,o⟩:=leaf h (λ_ h=>h);refine⟨d,?_,n,o⟩;rw[f];simp only[Qw,zY]
theorem eZ(n:ek):∀{g:List Operand}{δ:dy}{Fr:dh}{d:dm}{τ:Sg},St G w S δ Fr->Rd δ a->Gj g n=true->Mw G n (λs=>(δ s).er)=some (d,τ)->
 ∃(i:dy)(o:dh)(k:dH)(Fd:de),St G w S i o/\(λs=>(i s).er)=τ/\(∀s,(i s).A0=(δ s).A0)/\k.map DV.er=d/\k.map DV.A0=g.map a.eval/\(∀D∈k,Ok w (λx=>S x\/Fd x) D (λ_=>False))/\
  (∀s x,o s x->¬Fd x)/\(∀x,BJ o x\/Fd x->BJ Fr x):=by
 induction n with
 |nil=>
  intro g δ Fr d τ h p j c;cases g with
  |cons=>simp[Gj]at j
  |nil=>simp only[Mw,AAC,AAQ]at c;obtain⟨rfl,rfl⟩:=c;exact⟨δ,Fr,[],λ_=>False,h,rfl,λ_=>rfl,rfl,rfl,ak,λ_ _ _ h=>h,λx b=>b.elim id False.elim⟩
 |cons y n ih=>
  intro g δ Fr d τ h p j c;cases g with
  |nil=>simp[Gj]at j
  |cons x g=>
   simp only[Gj,AAD]at j;obtain⟨H,R⟩:=Am j.1 p;simp only[Mw]at c;split at c
   . rename_i v O q;split at c
     . rename_i l P r;simp only[AAC,AAQ]at c;obtain⟨rfl,rfl⟩:=c;obtain⟨N,Q,D,Ff,f,F,E,T⟩:=h.tk H q;subst F;subst E;obtain⟨B,U,V,I⟩:=iW f.ok;obtain⟨z,C,k,Fd,J,K,L,W,X,M,Z,u⟩:=ih f.st (λs=>(p s).trans (f.A0 s).symm) j.2 r;refine⟨z,C,B::k,λx=>Ff x\/Fd x,J,K,λs=>(L s).trans (f.A0 s),bg,am,?_,?_,?_⟩
       . intro e m;simp only[AAn]at m;rcases m with rfl|m
         . exact I.mono (λ_ _=>rfl) (λ_ _=>rfl) (λx b=>b.imp id .inl) (λ_ h=>h.elim)
         . exact(M e m).mono (λ_ _=>rfl) (λ_ _=>rfl) (λx b=>b.imp id .inr) (λ_ h=>h.elim)
       . rintro s x b (h1|h1)
         . obtain⟨t,c⟩:=u x (.inl ⟨s,b⟩);exact f.Lu t x c h1
         grind
       . rintro x (b|b|b)
         . exact f.own x (.inl (u x (.inl b)))
         . exact f.own x (.inr b)
         . exact f.own x (.inl (u x (.inr b)))
     . cases c
   . cases c
theorem LH(h:Ji P M f args m=true):∃c a,M= .call c/\c.callee= .value (.func f)/\P.funcs[f]? =some a/\a.body.isSome=true/\(a.name != "runtime.NumGoroutine")=true/\m<5/\Gj c.args.toList args=true:=by
 cases M with
 |call c=>simp only[Ji]at h;grind
 |_=>simp[Ji]at h
theorem LY{S2:de}{g:dh}{FD:de}{v:AV}(i:St G w W I g)(hn:a.tmps.size=n)(M:a.defers=[])(y:Rd I a)(hd:I5 G a o dst)(Z:D.er=v)(q:∀b,b<w.heap.size->w'.heap[b]? =w.heap[b]?)(L:∀b,W b->b<w.heap.size)(t:∀b,W b->S2 b)(l:∀b,S2 b->W b\/w.heap.size<=b)(c:∀b,S2 b->b<w'.heap.size)(hD:Ok w' S2 D FD)(k:∀x,FD x->w.heap.size<=x)(Gk:Dc I D)(X:Nx w0 F R w W (BJ g))(C:w'.os=w.os)(u:w'.tape=w.tape)(E:w'.output=w.output)(PQ:w.heap.size<=w'.heap.size)(p:C2 dst v K (λs=>(I s).er)):∃σ',Rel G n w0 F R (a.put o.dst D.A0) w' σ'/\K σ':=by
 have S:∀s x,g s x->w'.heap[x]? =w.heap[x]? :=λs x f=>q x ((i.ok s).lt x f);have Q:∀s x,g s x->¬S2 x:=by
  intro s x f j;have S1:=(i.ok s).lt x f;rcases l x j with m|m
  . exact(i.ok s).Et x f m
  . omega
 have T:∀s x,g s x->¬FD x:=by
  intro s x f j;have S1:=(i.ok s).lt x f
  have:=k x j;omega
 have O:∀r:Nat->Nat->Prop,(∀x,BJ r x->BJ g x\/FD x)->Nx w0 F R w' S2 (BJ r):=by intro r XN;refine X.trans ⟨C,u,E,PQ,λb h _=>q b h,t,λb h=>(l b h).imp id .inr,λ_=>c,λx f=>(XN x f).imp id (k x)⟩
 cases dst with
 |none=>
  have z:o.dst=none:=hd;refine⟨_,⟨S2,I,g,?_,?_,?_,rfl,i.world (λb h=>q b (L b h)) S t Q,O g (λx f=>.inl f),c⟩,p⟩
  . rw[z];exact hn
  . rw[z];exact M
  . rw[z];exact y
 |some d=>
  simp only[C2]at p;split at p
  . rename_i J P;obtain⟨B,j,m,h4⟩:=hd;rw[<- Z]at P;obtain⟨e,N,KV,JD,V,U⟩:=i.wr j m (λb h=>q b (L b h)) S t Q hD T Gk P;refine⟨J,⟨S2,e,N,?_,?_,?_,JD,KV,O N U,c⟩,p⟩
    . rw[B];simpa[Act.put]using hn
    . rw[B];simpa[Act.put]using M
    . intro s;rw[B,Ik a d.d D.A0 h4 s,V s];split
      . rfl
      . exact y s
  simp_all
theorem borrow{D:List Operand}(Q:GI w S)(j:St G w S δ Fr)(I:Nx w0 q F w S (BJ Fr))(l:∀b,S b->b<w.heap.size)(hn:a.tmps.size=n)(H:a.defers=[])(y:Rd δ a)(hd:I5 G a o dst)(M:Gj D args=true)(hr:Jt (λs=>(δ s).er) args=some g)(N:Says P f g res)(mE:fresh res=true)(hv:res=out)(L:C2 dst out K (λs=>(δ s).er)):
 Calls P f (D.map a.eval).toArray w λ
  | .returned out,w''=>(λX w'=>∃σ',Rel G n w0 q F X w' σ'/\K σ') (a.put o.dst out) w''
  | .panicked chain,w''=>O (.panic chain) a w''
  | .outgrown,_=>LetsOut O:=by
 obtain⟨t,J,V,Z⟩:=TK j y args M hr;have p:=N w (λx=>S x\/BJ Fr x) t (λ_=>False) (Q.mono λ_ h=>.inl h) J (A8.2 (CN Z)) (by
  rintro b (i|⟨s,z⟩)
  . simp_all
  . exact(j.ok s).lt b z)
 rw[V]at p;refine p.mono ?_;rintro e w' ⟨r,os,S',F',rfl,U,hoe,hoa,E,d,Lv,sE,Kp,W⟩;obtain⟨m,Fb,u,_,_,T⟩:=A8.1 E;have k:∀x,m x->w.heap.size<=x:=λx B=>(W x ((T x).2 (.inl B))).resolve_left id;have R:Ok w' S r m:=Sb u am (λx B z=>bg);simp only;exact LY (S2:=S) j hn H y hd (U.trans hv) (λb i=>d.block b i id) l (λ_ h=>h) (λ_ h=>.inl h) (λb i=>ABE (l b i) d.size) R k (Sa u am) I d.os d.tape d.output d.size L
theorem lY(o:ek):∀{f:List Operand}{δ:dy}{Fr:dh}{d:dm}{τ:Sg},St G w S δ Fr->Rd δ a->Gj f o=true->Q9 G o (λs=>(δ s).er)=some (d,τ)->
 ∃(g:dy)(p:dh)(j:dH)(Fd:de),St G w S g p/\(λs=>(g s).er)=τ/\(∀s,(g s).A0=(δ s).A0)/\j.map DV.er=d/\j.map DV.A0=f.map a.eval/\JQ w S j Fd/\
  (∀s x,p s x->¬Fd x)/\(∀x,BJ p x\/Fd x->BJ Fr x):=by
 induction o with
 |nil=>
  intro f δ Fr d τ h q i b;cases f with
  |cons=>simp[Gj]at i
  |nil=>simp only[Q9,AAC,AAQ]at b;obtain⟨rfl,rfl⟩:=b;exact⟨δ,Fr,[],λ_=>False,h,rfl,λ_=>rfl,rfl,rfl,λ_ h=>h,λ_ _ _ h=>h,λx e=>e.elim id False.elim⟩
 |cons y o ih=>
  intro f δ Fr d τ h q i b;cases f with
  |nil=>simp[Gj]at i
  |cons x f=>
   simp only[Gj,AAD]at i;obtain⟨H,R⟩:=Am i.1 q;simp only[Q9]at b;split at b
   . rename_i v O r;split at b
     . rename_i l P u;simp only[AAC,AAQ]at b;obtain⟨rfl,rfl⟩:=b;obtain⟨N,Q,D,Ff,c,E,C,T⟩:=h.tk H r;subst E;subst C;obtain⟨z,B,j,Fd,I,J,K,L,U,M,V,n⟩:=ih c.st (λs=>(q s).trans (c.A0 s).symm) i.2 u;have k:∀x,Ff x->¬Fd x:=λx m F=>(by obtain⟨t,b⟩:=n x (.inr F);exact c.Lu t x b m);refine⟨z,B,D::j,λx=>Ff x\/Fd x,I,J,λs=>(K s).trans (c.A0 s),by simp[L],am,⟨Ff,Fd,c.ok,M,k,λx=>ABb⟩,?_,?_⟩
       . rintro s x e (m|m)
         . obtain⟨t,b⟩:=n x (.inl ⟨s,e⟩);exact c.Lu t x b m
         grind
       . rintro x (e|e|e)
         . exact c.own x (.inl (n x (.inl e)))
         . exact c.own x (.inr e)
         . exact c.own x (.inl (n x (.inr e)))
     . cases b
   . cases b
theorem nW(h:St G w S δ Fr)(rs:eu):∀{vs:List Value}{e:dn},vs.length=rs.length->(∀(i:Nat) r p u,rs[i]? =some (r,p)->vs[i]? =some u->∃bx k rows,Au (δ r) p=some (.own u bx k rows))->W0 (λs=>(δ s).er) rs=some e->
 vs.length=e.length/\∀(i:Nat) g u,e[i]? =some g->vs[i]? =some u->FpOK w (λx=>S x\/BJ Fr x) g u:=by
 induction rs with
 |nil=>
  intro vs e f _ b;cases vs with
  |nil=>simp only[W0,AAC]at b;simp_all
  |cons=>simp at f
 |cons x rs ih=>
  obtain⟨r,p⟩:=x;intro vs e f n b;cases vs with
  |nil=>simp at f
  |cons v vs=>
   simp only[W0]at b;split at b
   . rename_i g m q t;simp only[AAC]at b;subst b;obtain⟨bx,k,rows,y⟩:=n 0 r p v rfl rfl;obtain⟨D,c,l,z⟩:=JZ h (d:=.lf (.al r p) v) (F:=λ_=>False) (.lf _ _ _ trivial (λ_ h=>h)) (λ_ h=>h.elim) (.lf _ _ ⟨bx,k,rows,y⟩) (by simpa using q);obtain⟨B,C⟩:=ih (by simpa using f) (λi r p u hi j=>n (i+1) r p u am am) t;refine⟨by simp[B],λi o u hi j=> ?_⟩;cases i with
     |zero=>
      simp only[AAt,AAC]at hi j;subst hi;subst j;simp only[KN]at l;cases z with
      |lf a v' _ ha _=>simp only[EY]at c;subst c;simp only[KN]at l;subst l;exact ha
      |nil=>simp at c
      |own=>simp at c
      |agg=>simp at c
      |BQ=>simp at c
     |succ i=>grind
   . cases b
theorem Yp(m:ek):∀{i:List Operand}{δ:dy}{Fr:dh}{g:dm}{τ:Sg},St G w S δ Fr->Rd δ a->Gj i m=true->V2 G m (λs=>(δ s).er)=some (g,τ)->
 ∃(j:dy)(r:dh)(n:dH)(Fd:de),St G w S j r/\(λs=>(j s).er)=τ/\(∀s,(j s).A0=(δ s).A0)/\n.map DV.er=g/\n.map DV.A0=i.map a.eval/\JQ w (λx=>S x\/BJ r x) n Fd/\
  (∀s x,r s x->¬Fd x)/\(∀x,BJ r x\/Fd x->BJ Fr x):=by
 induction m with
 |nil=>intro i δ Fr g τ h C k b;simp[V2]at b
 |cons y m ih=>
  intro i δ Fr g τ h C k b;cases i with
  |nil=>simp[Gj]at k
  |cons x i=>
   simp only[Gj,AAD]at k;obtain⟨M,Q⟩:=Am k.1 C;cases m with
   |nil=>
    cases i with
    |cons=>simp[Gj]at k
    |nil=>
     simp only[V2]at b;split at b
     . rename_i f rs z;split at b
       . rename_i R o;simp only[AAC,AAQ]at b;obtain⟨rfl,rfl⟩:=b;obtain⟨vs,N,H,I⟩:Ml δ (.cl f rs) (C6 δ y):=by
          cases y with
          |t s=>exact(h.leaf z rfl).2.2
          |c c0=>obtain⟨D0,o7⟩:=M;simp only[ar]at z;subst z;simp[Iy]at o7
         obtain⟨W,X⟩:=nW h rs H I o;refine⟨δ,Fr,[.lf (.oT f R) (C6 δ y)],λ_=>False,h,rfl,λ_=>rfl,ak,by simp[Q],CN (λD L=> ?_),λ_ _ _ h=>h,λx d=>d.elim id False.elim⟩;simp only[AAl]at L;subst L;exact .lf _ _ _ ⟨vs,N,W,X⟩ (λ_ h=>h)
       . cases b
     . cases b
   |cons y2 m=>
    simp only[V2]at b;split at b
    . rename_i v τ1 E;split at b
      . rename_i l τ2 F;simp only[AAC,AAQ]at b;obtain⟨rfl,rfl⟩:=b;obtain⟨δ1,F1,D,Ff,e,P,O,T3⟩:=h.tk M E;subst P;subst O;obtain⟨J,K,n,Fd,Z,m2,m3,m4,m5,m6,m7,q⟩:=ih e.st (λs=>(C s).trans (e.A0 s).symm) k.2 F;have p:∀x,Ff x->¬Fd x:=λx u T=>(by obtain⟨t,b⟩:=q x (.inr T);exact e.Lu t x b u);have B:Ok w (λx=>S x\/BJ K x) D Ff:=e.ok.mono (λ_ _=>rfl) (λ_ _=>rfl) (λ_ h=>.inl h) (λx d V=>V.elim (e.ok.Et x d) (λU=>by obtain⟨t,b⟩:=q x (.inl U);exact e.Lu t x b d));refine⟨J,K,D::n,λx=>Ff x\/Fd x,Z,m2,λs=>(m3 s).trans (e.A0 s),by simp[m4],am,⟨Ff,Fd,B,m6,p,λx=>ABb⟩,?_,?_⟩
        . rintro s x d (u|u)
          . obtain⟨t,b⟩:=q x (.inl ⟨s,d⟩);exact e.Lu t x b u
          grind
        . rintro x (d|d|d)
          . exact e.own x (.inl (q x (.inl d)))
          . exact e.own x (.inr d)
          . exact e.own x (.inl (q x (.inr d)))
      . cases b
    . cases b
theorem nV(hG:Y2 w0 F U0)(h:Rel G n w0 F U0 a w σ)(hio:io.op= .call f args m)(PJ:Ji P o.op f args m=true)(hd:I5 G a o io.dst)(Cg:ED P G io K σ)(Q:Exit->Act->World->Prop):o.wp P a w (λa' w'=>∃σ',Rel G n w0 F U0 a' w' σ'/\K σ') Q:=by
 obtain⟨S,δ,Fr,hn,W,U,rfl,M,Eh,J⟩:=h;have NJ:=hG.now Eh;obtain⟨c,fn,ho,Lz,I,hfb,hfn,hm3,G3⟩:=LH PJ;unfold ED at Cg;rw[hio]at Cg;simp only at Cg;split at Cg
 . rename_i aZ9 τ q;obtain⟨res,JU,y⟩:=Cg;split at y
   . rename_i v k;unfold Oper.wp;rw[Ti ho Lz I hfb hfn,Oper.upon_enter]
     match m,hm3,q,k with
     |1,_,q,k=>
      simp only[GN]at q;obtain⟨z,u,Ds,Fd,S0,XR,Jl,FP,T3,dB,L,C⟩:=eZ _ M U G3 q;subst XR;have B:∀x,Fd x->x<w.heap.size:=λx g=>(by obtain⟨t,ht⟩:=C x (.inr g);exact(M.ok t).lt x ht);have N:=JU w (λx=>S x\/Fd x) Ds (λ_=>False) (NJ.mono λ_ h=>.inl h) FP (A8.2 (CN dB)) (λb j=>j.elim (J b) (B b));rw[T3]at N;refine N.mono ?_;rintro e w' ⟨r,os,S',F',rfl,O,hoe,hoa,Cm,p,Lv,sE,Kp,XM⟩;obtain⟨H,Fb,R,_,_,QU⟩:=A8.1 Cm;obtain⟨D,k1,k2,k3,k4⟩:=RO (δ:=z) R;simp only[Rr,AAC]at k;have hfa:∀x,H x->w.heap.size<=x:=λx g=>(XM x ((QU x).2 (.inl g))).resolve_left id;have hst1':St G w (λx=>S x\/Fd x) z u:=S0.world (λ_ _=>rfl) (λ_ _ _=>rfl) (λ_ h=>.inl h) (λs x g V=>V.elim ((S0.ok s).Et x g) (L s x g));have xC:Nx w0 F U0 w (λx=>S x\/Fd x) (BJ u):=Eh.trans (Nx.JH (λx g=>C x g) B);simp only;rw[<- k2];refine LY (S2:=λx=>S' x\/H x) hst1' hn W (λs=>(U s).trans (Jl s).symm) hd (by rw[k1,O];exact k) (λb j=>p.block b j id) (λb j=>j.elim (J b) (B b)) (λb j=>.inl (Lv b j)) ?_ ?_ k3 (λ_ h=>h.elim) k4 xC p.os p.tape p.output p.size y
      . rintro b (j|j)
        . rcases sE b j with i|i|i
          . exact .inl i
          . exact i.elim
          . exact .inr i
        . exact .inr (hfa b j)
      . rintro b (j|j)
        . exact Kp b j
        . exact R.lt b j
     |0,_,q,k=>
      simp only[GN]at q;split at q
      . rename_i l hr;simp only[AAC,AAQ]at q;obtain⟨rfl,rfl⟩:=q;simp only[Rr]at k;split at k
        . rename_i FB;exact borrow NJ M Eh J hn W U hd G3 hr JU (XF FB) (AAG k) y
        . cases k
      . cases q
     |3,_,q,k=>
      simp only[GN]at q;obtain⟨z,u,Ds,Fd,S0,XR,Jl,FP,T3,dB,L,C⟩:=lY _ M U G3 q;subst XR;simp only[Rr]at k;split at k
      . rename_i mE;obtain rfl:=AAG k;have N:=JU w S Ds Fd NJ FP (A8.2 dB) J;rw[T3]at N;refine N.mono ?_;rintro e w' ⟨r,os,S',F',rfl,O,hoe,hoa,Cm,p,Lv,sE,Kp,XM⟩;obtain⟨H,Fb,R,_,_,QU⟩:=A8.1 Cm;have wW:∀x,H x->Fd x\/w.heap.size<=x:=λx g=>XM x ((QU x).2 (.inl g));have X:∀s x,u s x->x<w.heap.size:=λs x g=>(S0.ok s).lt x g;have sQ:∀b,S b->w'.heap[b]? =w.heap[b]? :=λb j=>p.block b (J b j) λI=>(by obtain⟨t,ht⟩:=C b (.inr I);exact(M.ok t).Et b ht j);have pS:∀s x,u s x->w'.heap[x]? =w.heap[x]? :=λs x g=>p.block x (X s x g) (L s x g);have Ol:∀s x,u s x->¬S' x:=by
         intro s x g h';rcases sE x h' with i|i|i
         . exact(S0.ok s).Et x g i
         . exact L s x g i
         . have:=X s x g;omega
        have sI:∀s x,u s x->¬H x:=by
         intro s x g h';rcases wW x h' with i|i
         . exact L s x g i
         . have:=X s x g;omega
        have Gw:∀E:Nat->Nat->Prop,(∀x,BJ E x->BJ u x\/H x)->Nx w0 F U0 w' S' (BJ E):=by
         intro E XN;refine Eh.trans ⟨p.os,p.tape,p.output,p.size,λb j KU=>p.block b j λI=>KU (C b (.inr I)),Lv,λb j=>(sE b j).imp id (Or.imp (λh=>C b (.inr h)) id),λ_=>Kp,λx g=> ?_⟩;rcases XN x g with i|i
         . exact .inl (C x (.inl i))
         . exact(wW x i).imp (λh=>C x (.inr h)) id
        have Qu:Rd z a:=λs=>(U s).trans (Jl s).symm;simp only;cases Kq:io.dst with
        |none=>
         rw[Kq]at hd y;have Z:o.dst=none:=hd;refine⟨_,⟨S',z,u,?_,?_,?_,rfl,S0.world sQ pS Lv Ol,Gw u (λx g=>.inl g),Kp⟩,y⟩
         . rw[Z];exact hn
         . rw[Z];exact W
         . rw[Z];exact Qu
        |some d=>
         rw[Kq]at hd y;simp only[C2]at y;split at y
         . rename_i τ' Lx;obtain⟨i,h2,h3,h4⟩:=hd;rw[<- O]at Lx;obtain⟨δ',E,KV,JD,Dh,XX⟩:=S0.wr h2 h3 sQ pS Lv Ol R sI (W5 R (by rw[O];exact mE)) Lx;refine⟨τ',⟨S',δ',E,?_,?_,?_,JD,KV,Gw E XX,Kp⟩,y⟩
           . rw[i];simpa[Act.put]using hn
           . rw[i];simpa[Act.put]using W
           . intro s;rw[i,Ik a d.d r.A0 h4 s,Dh s];split
             . rfl
             . exact Qu s
         . exact y.elim
      . cases k
     |4,_,q,k=>
      simp only[GN]at q;obtain⟨z,u,Ds,Fd,S0,XR,Jl,FP,T3,dB,L,C⟩:=Yp _ M U G3 q;subst XR;simp only[Rr]at k;split at k
      . rename_i mE;obtain rfl:=AAG k;have X:∀s x,u s x->x<w.heap.size:=λs x g=>(S0.ok s).lt x g;have N:=JU w (λx=>S x\/BJ u x) Ds Fd (NJ.mono λ_ h=>.inl h) FP (A8.2 dB) (λb j=>j.elim (J b) (λ⟨s,V⟩=>X s b V));rw[T3]at N;refine N.mono ?_;rintro e w' ⟨r,os,S',F',rfl,O,hoe,hoa,Cm,p,Lv,sE,Kp,XM⟩;obtain⟨H,Fb,hra0,_,_,QU⟩:=A8.1 Cm;have wW:∀x,H x->Fd x\/w.heap.size<=x:=λx g=>XM x ((QU x).2 (.inl g));have T:∀x,Fd x->¬S x:=λx I V=>(by obtain⟨t,ht⟩:=C x (.inr I);exact(M.ok t).Et x ht V);have R:Ok w' S r H:=Sb hra0 (by rw[O];exact mE) (λx g V=>(wW x g).elim (λi=>T x i V) (λi=>by have:=J x V;omega));have sQ:∀b,S b->w'.heap[b]? =w.heap[b]? :=λb j=>p.block b (J b j) λI=>T b I j;have pS:∀s x,u s x->w'.heap[x]? =w.heap[x]? :=λs x g=>p.block x (X s x g) (L s x g);have Ol:∀s x,u s x->¬S x:=λs x g=>(S0.ok s).Et x g;have Up:∀b,S b->b<w'.heap.size:=λb j=>ABE (J b j) p.size;have sI:∀s x,u s x->¬H x:=by
         intro s x g h';rcases wW x h' with i|i
         . exact L s x g i
         . have:=X s x g;omega
        have Gw:∀E:Nat->Nat->Prop,(∀x,BJ E x->BJ u x\/H x)->Nx w0 F U0 w' S (BJ E):=by
         intro E XN;refine Eh.trans ⟨p.os,p.tape,p.output,p.size,λb j KU=>p.block b j λI=>KU (C b (.inr I)),λ_ h=>h,λ_ h=>.inl h,λ_=>Up,λx g=> ?_⟩;rcases XN x g with i|i
         . exact .inl (C x (.inl i))
         . exact(wW x i).imp (λh=>C x (.inr h)) id
        have Qu:Rd z a:=λs=>(U s).trans (Jl s).symm;simp only;cases Kq:io.dst with
        |none=>
         rw[Kq]at hd y;have Z:o.dst=none:=hd;refine⟨_,⟨S,z,u,?_,?_,?_,rfl,S0.world sQ pS (λ_ h=>h) Ol,Gw u (λx g=>.inl g),Up⟩,y⟩
         . rw[Z];exact hn
         . rw[Z];exact W
         . rw[Z];exact Qu
        |some d=>
         rw[Kq]at hd y;simp only[C2]at y;split at y
         . rename_i τ' Lx;obtain⟨i,h2,h3,h4⟩:=hd;rw[<- O]at Lx;obtain⟨δ',E,KV,JD,Dh,XX⟩:=S0.wr h2 h3 sQ pS (λ_ h=>h) Ol R sI (Sa R (by rw[O];exact mE)) Lx;refine⟨τ',⟨S,δ',E,?_,?_,?_,JD,KV,Gw E XX,Up⟩,y⟩
           . rw[i];simpa[Act.put]using hn
           . rw[i];simpa[Act.put]using W
           . intro s;rw[i,Ik a d.d r.A0 h4 s,Dh s];split
             . rfl
             . exact Qu s
         . exact y.elim
      . cases k
     |2,_,q,k=>
      simp only[GN]at q;split at q
      . rename_i l hr;simp only[AAC,AAQ]at q;obtain⟨rfl,rfl⟩:=q;simp only[Rr]at k;split at k
        . rename_i FB;exact borrow NJ M Eh J hn W U hd G3 hr JU FB (AAG k) y
        . cases k
      . cases q
   . exact y.elim
 . exact Cg.elim
theorem gW(hG:Y2 w0 F R)(h:Rel G n w0 F R a w σ)(hio:io.op= .call f args 4)(PJ:Ji P o.op f args 4=true)(hd:I5 G a o io.dst)(B:ED P G io K σ){rr kb:Nat}(J:∀I τ,GN G 4 args σ=some (I,τ)->∃rows,τ rr= .own true kb rows)(Q:Exit->Act->World->Prop):o.wp P a w (λa' w'=>(∃σ',Rel G n w0 F R a' w' σ'/\K σ')/\(∀b,a.tmps.getD rr undef= .pointer (some ⟨b,0,none⟩)->w'.heap[b]? =w.heap[b]?)/\∃u,a'=a.put o.dst u) Q:=by
 obtain⟨S,δ,Fr,hn,EG,ha,rfl,CP,Eh,N⟩:=h;have NJ:=hG.now Eh;obtain⟨c,fn,ho,Lz,z,hfb,hfn,hm3,G3⟩:=LH PJ;unfold ED at B;rw[hio]at B;simp only at B;split at B
 . rename_i I τ X;obtain⟨res,JU,p⟩:=B;split at p
   . rename_i v V;unfold Oper.wp;rw[Ti ho Lz z hfb hfn,Oper.upon_enter];have L:=X;simp only[GN]at X;obtain⟨k,m,Ds,Fd,H,XR,Jl,FP,T3,dB,C9,O⟩:=Yp _ CP ha G3 X;subst XR;simp only[Rr]at V;split at V
     . rename_i mE;obtain rfl:=AAG V;have XV:∀s x,m s x->x<w.heap.size:=λs x i=>(H.ok s).lt x i;have GU:=JU w (λx=>S x\/BJ m x) Ds Fd (NJ.mono λ_ h=>.inl h) FP (A8.2 dB) (λb l=>l.elim (N b) (λ⟨s,D⟩=>XV s b D));rw[T3]at GU;refine GU.mono ?_;rintro e w' ⟨r,os,S',F',rfl,RS,hoe,hoa,Cm,q,Lv,sE,Kp,XM⟩;obtain⟨U,Fb,M,_,_,QU⟩:=A8.1 Cm;have wW:∀x,U x->Fd x\/w.heap.size<=x:=λx i=>XM x ((QU x).2 (.inl i));have y:∀x,Fd x->¬S x:=λx z D=>(by obtain⟨t,ht⟩:=O x (.inr z);exact(CP.ok t).Et x ht D);have dJ:Ok w' S r U:=Sb M (by rw[RS];exact mE) (λx i D=>(wW x i).elim (λg=>y x g D) (λg=>by have:=N x D;omega));have sQ:∀b,S b->w'.heap[b]? =w.heap[b]? :=λb l=>q.block b (N b l) λz=>y b z l;have pS:∀s x,m s x->w'.heap[x]? =w.heap[x]? :=λs x i=>q.block x (XV s x i) (C9 s x i);have Ol:∀s x,m s x->¬S x:=λs x i=>(H.ok s).Et x i;have Up:∀b,S b->b<w'.heap.size:=λb l=>ABE (N b l) q.size;have sI:∀s x,m s x->¬U x:=by
        intro s x i h';rcases wW x h' with g|g
        . exact C9 s x i g
        . have:=XV s x i;omega
       have Gw:∀C:Nat->Nat->Prop,(∀x,BJ C x->BJ m x\/U x)->Nx w0 F R w' S (BJ C):=by
        intro C XN;refine Eh.trans ⟨q.os,q.tape,q.output,q.size,λb l KU=>q.block b l λz=>KU (O b (.inr z)),λ_ h=>h,λ_ h=>.inl h,λ_=>Up,λx i=> ?_⟩;rcases XN x i with g|g
        . exact .inl (O x (.inl g))
        . exact(wW x g).imp (λh=>O x (.inr h)) id
       have Z:Rd k a:=λs=>(ha s).trans (Jl s).symm;have It:∀b,a.tmps.getD rr undef= .pointer (some ⟨b,0,none⟩)->w'.heap[b]? =w.heap[b]? :=by
        intro b l;obtain⟨rows,hrr⟩:=J _ _ L;have T:=H.ok rr;have g:(k rr).A0= .pointer (some ⟨b,0,none⟩):=(by rw[<- Z rr];exact l);have j:(k rr).er= .own true kb rows:=hrr;cases hδ:k rr with
        |lf x v=>rw[hδ]at j T;simp at j;subst j;cases T with|lf _ _ _ hl _=>simp[Hc]at hl
        |agg=>rw[hδ]at j;simp at j
        |BQ=>rw[hδ]at j;simp at j
        |own hh bx k0 Ao=>
         rw[hδ]at g j T;simp only[Eg,AV.own.injEq]at j;obtain⟨rfl,rfl,_⟩:=j;simp only[Kf]at g;generalize hF1:m rr=Fx at T;generalize hvv:hh=pQ at T;cases T with
         |own _ _ _ b' c arr E Fs _ iY hk D3 LJ fJ hr WE Bg KE hF=>
          rw[hvv]at g;simp only[JT,AAi,Value.pointer.injEq,AAC,Addr.mk.injEq,and_true]at g;have e:b'=b:=by first|exact g|exact g.1
          subst e;exact pS rr b' (by rw[hF1];first|exact(hF b').2 (.inl rfl)|exact KE|simp[hF])
       simp only;cases Kq:io.dst with
       |none=>
        rw[Kq]at hd p;have h0:o.dst=none:=hd;refine⟨⟨_,⟨S,k,m,?_,?_,?_,rfl,H.world sQ pS (λ_ h=>h) Ol,Gw m (λx i=>.inl i),Up⟩,p⟩,It,_,rfl⟩
        . rw[h0];exact hn
        . rw[h0];exact EG
        . rw[h0];exact Z
       |some d=>
        rw[Kq]at hd p;simp only[C2]at p;split at p
        . rename_i τ' Lx;obtain⟨g,j,h3,h4⟩:=hd;rw[<- RS]at Lx;obtain⟨δ',C,KV,JD,Dh,XX⟩:=H.wr j h3 sQ pS (λ_ h=>h) Ol dJ sI (Sa dJ (by rw[RS];exact mE)) Lx;refine⟨⟨τ',⟨S,δ',C,?_,?_,?_,JD,KV,Gw C XX,Up⟩,p⟩,It,_,rfl⟩
          . rw[g];simpa[Act.put]using hn
          . rw[g];simpa[Act.put]using EG
          . intro s;rw[g,Ik a d.d r.A0 h4 s,Dh s];split
            . rfl
            . exact Z s
        . exact p.elim
     . cases V
   . exact p.elim
 . exact B.elim
end
variable{p:di}{c:im}{pre:ek}{bs:dm}{ou j:AV}
section
variable{w w':World}{S S':de}{G:Gi}{δ:dy}{Fr:dh}{P:Program}
def Dy(G:Gi)(n:Nat)(o:ABd Tmp)(d:dD):Bool:=
 match o,d with
 |none,none=>true
 |some t,some d=>t==d.d&&d.kl==G.OM d.d&&d.rs==G.Gv d.d&&decide (d.d<n)
 |_,_=>false
theorem EV(h:Dy G n o.dst dst=true)(hn:a.tmps.size=n):I5 G a o dst:=by
 unfold Dy at h;split at h
 . rename_i b;exact b
 . rename_i t dst b;simp only[AAD,AAR,AAV]at h;obtain⟨⟨⟨rfl,c⟩,e⟩,f⟩:=h;exact⟨b,c,e,ah⟩
 . cases h
theorem UQ(h:St G w S δ Fr)(c:yI (λs=>(δ s).er) x=some (r,p))(n:sub (δ r).er p=some (.own b k rows)):
 ∃e,Au (δ r) p=some (.own (C6 δ x) b k e)/\(DV.own (C6 δ x) b k e).er= .own b k rows:=by
 obtain⟨D,g,f⟩:=Dt (h.ok r).Kt n;have j:∃v e,D= .own v b k e:=by
  have:=(h.ok r).Kt.Au g;cases D with
  |own v bx o d=>simp_all
  |lf a v=>cases this with|lf _ _ i=>simp at f;subst f;simp[C8]at i
  |agg cs=>simp at f
  |BQ cs=>simp at f
 obtain⟨v,e,rfl⟩:=j;unfold yI at c;split at c
 . rename_i s;split at c
   . rename_i t p' m;simp only[AAC,AAQ]at c;obtain⟨rfl,rfl⟩:=c;obtain⟨q,_,l⟩:=h.leaf m rfl;obtain⟨bx,o,d,i⟩:=l;rw[g]at i;simp only[AAC,DV.own.injEq]at i;obtain⟨rfl,rfl,rfl,rfl⟩:=i;exact⟨_,g,f⟩
   . simp only[AAC,AAQ]at c;obtain⟨rfl,rfl⟩:=c;simp only[Au,AAC]at g;refine⟨e,?_,?_⟩
     . simp[Au,C6,g]
     simp_all
   . cases c
 . cases c
theorem UC(h:ID D.er=true):Dc δ D:=by
 cases D with
 |own=>exact .own _ _ _ _
 |lf a v=>refine .lf _ _ ?_;simp only[EY]at h;cases a<;>simp_all [ID,Ml]
 |agg=>simp[ID]at h
 |BQ=>simp[ID]at h
theorem Nj(h:ID res=true):Fj L res=true:=by cases res<;>simp_all [ID]
theorem Xy(h:Ok w S D F):∃d,d.er=Ri D.er/\d.A0=D.A0/\Ok w S d (λ_=>False):=by
 have dead:Ri D.er= .dead->∃d,d.er=Ri D.er/\d.A0=D.A0/\Ok w S d (λ_=>False):=λe=>⟨.lf .dead D.A0,by simp[e],ak,.lf _ _ _ trivial (λ_ h=>h)⟩;cases h with
 |lf a v _ ha _=>
  cases a with
  |sc u=>exact⟨.lf (.sc u) v,by simp[Ri],ak,.lf _ _ _ ha (λ_ h=>h)⟩
  |sl e k rows=>
   refine⟨.lf (.sl false k rows) v,by simp[Ri],ak,.lf _ _ _ ?_ (λ_ h=>h)⟩;have f:Fz w S (.sl e k rows) v:=ha;show Fz w S (.sl false k rows) v;cases f with
   |nil x k a c hx=>exact .nil _ _ _ _ ak
   |sl x k rows b off c vs hx QW hS hk hc hr=>exact .sl _ _ _ b off c vs ak QW hS hk hc hr
  |_=>exact dead (by simp[Ri])
 |nil=>exact dead (by simp[Ri])
 |own=>exact dead (by simp[Ri])
 |agg=>exact dead (by simp[Ri])
 |BQ=>exact dead (by simp[Ri])
theorem U6(h:∀(i:Nat) d,l[i]? =some d->∃F,Ok w S d F):∃a:List DV,a.map DV.er=(l.map DV.er).map Ri/\a.map DV.A0=l.map DV.A0/\∀D∈a,Ok w S D (λ_=>False):=by
 induction l with
 |nil=>simp_all
 |cons d l ih=>obtain⟨F,b⟩:=h 0 d rfl;obtain⟨D,g,j,k⟩:=Xy b;obtain⟨a,c,g2,f⟩:=ih (λi e hi=>h (i+1) e hi);refine⟨D::a,bg,bg,λe ds=> ?_⟩;grind
theorem P8(h:Ok w S D F)(a:D.er= .agg g):∃ds,D= .agg ds/\ds.map DV.er=g:=by
 have:=h.Kt;cases D with
 |agg ds=>simp_all
 |lf c v=>cases this with|lf _ _ hl=>simp at a;subst a;simp[C8]at hl
 |own=>simp at a
 |BQ=>simp at a
theorem yM(h:St G w S δ Fr)(p:WY x)(e:rdF (λs=>(δ s).er) x=some res):∃D,D.er=res/\D.A0=C6 δ x/\Ok w S D (λ_=>False):=by
 cases x with
 |t s=>
  simp only[rdF]at e;cases hs:(δ s).er with
  |agg cs=>
   rw[hs]at e;simp only[AAC]at e;subst e;obtain⟨ds,hd,u⟩:=P8 (h.ok s) hs;have l:=h.ok s;rw[hd]at l;cases l with
   |agg _ Fs _ h1 h2 h3 h4=>obtain⟨n,r,g2,o⟩:=U6 (λi d hi=>⟨_,h1 i d hi⟩);exact⟨.agg n,am,by simp[C6,hd,g2],B4.2 (CN o)⟩
  |_=>rw[hs]at e;simp only[AAC]at e;subst e;rw[<- hs];exact Xy (h.ok s)
 |c c=>
  obtain⟨g,j⟩:=p;obtain⟨f,m,q,_⟩:=Ib (w:=w) (S:=S) (δ:=δ) c g j;simp only[rdF]at e;split at e
  . rename_i v;simp only[AAC]at e;subst e;exact⟨g,f,by simp[C6,j],m⟩
  . rename_i k _;simp only[AAC]at e;subst e;refine⟨.lf (.sl false k []) g.A0,ak,by simp[C6,j],.lf _ _ _ ?_ (λ_ h=>h)⟩
    have:=m;cases g with
    |own v bx k' rows=>
     simp only[Eg,AV.own.injEq,List.map_eq_nil_iff]at f;obtain⟨rfl,rfl,rfl⟩:=f;cases this with
     |nil=>rw[Kf];exact Fz.nil false k' none 0 ak
     |own _ _ _ res c arr E Fs _ hb hk D3 LJ hv dI Lw Bg KE o8=>simp_all
    |lf a v=>simp only[EY]at f;subst f;cases this with|lf _ _ _ ha _=>exact ha.elim
    |agg=>simp at f
    |BQ=>simp at f
  . cases e
theorem Rj(h:St G w S δ Fr)(m:Rd δ a)(i:ek):∀{e:List Operand}{c:dm},Gj e i=true->Ms (λs=>(δ s).er) i=some c->
 ∃g:List DV,g.map DV.er=c/\g.map DV.A0=e.map a.eval/\∀D∈g,Ok w S D (λ_=>False):=by
 induction i with
 |nil=>
  intro e c f d;cases e with
  |cons=>simp[Gj]at f
  |nil=>simp only[Ms,AAC]at d;simp_all
 |cons y i ih=>
  intro e c f d;cases e with
  |nil=>simp[Gj]at f
  |cons x e=>
   simp only[Gj,AAD]at f;obtain⟨n,o⟩:=Am f.1 m;simp only[Ms]at d;split at d
   . rename_i b l j k;simp only[AAC]at d;subst d;obtain⟨D,p,q,r⟩:=yM h n j;obtain⟨g,t,u,v⟩:=ih f.2 k;refine⟨D::g,bg,am,?_⟩;simp_all
   . cases d
theorem rL(c:∀d∈l,Ok w S d (λ_=>False))(b:Ok w S D F)(e:∀d∈row,Ok w S d (λ_=>False)):JQ w S (l++D::row) F:=by have a:JQ w S (D::row) F:=⟨F,λ_=>False,b,CN e,λ_ _ h=>h,λx=>ak⟩;exact(LX (CN c) a (λ_ h=>h.elim)).congr λx=>ak
theorem OkL_at{r:dH}(h:JQ w S (l++D::r) F):∃a,Ok w S D a/\∀x,a x->F x:=by obtain⟨b,c,f,g,d⟩:=Je.1 h;exact⟨b l.length,c _ D ak,λx e=>(d x).2 ⟨_,e⟩⟩
theorem qD(h:St G w S δ Fr)(hx:WY x)(f:Pf (λs=>(δ s).er) x c=some (r,p))(X:sub (δ r).er p=some (.own b k rows)):
 ∃v e,Au (δ r) p=some (.own v b k e)/\(DV.own v b k e).er= .own b k rows/\∀(H:de),Ok w S (.own v b k e) H->
  ∃D,D.er=Su (λs=>(δ s).er) x c (.own b k rows)/\D.A0=C6 δ x/\Ok w S D H/\∀(w':World)(S' B:de)(z:DV)(o:AV),z.A0=D.A0->SO c z.er=some o->Ok w' S' z B->∃(o':DV)(F'':de),o'.er=o/\o'.A0=v/\Ok w' S' o' F''/\∀y,F'' y->B y:=by
 cases c with
 |none=>obtain⟨e,E,M⟩:=UQ h (x:=x) f X;refine⟨_,e,E,M,λH K=>⟨_,M,ak,K,?_⟩⟩;intro w' S' B z o O g J;simp only[SO,AAC]at g;exact⟨z,B,g,am,J,λ_ h=>h⟩
 |some j=>
  cases x with
  |c=>simp[Pf]at f
  |t s=>
   simp only[Pf]at f;cases hse:(δ s).er with
   |agg cs=>
    rw[hse]at f;simp only at f;obtain⟨ds,hd,W⟩:=P8 (h.ok s) hse;have m:=h.ok s;rw[hd]at m;cases m with
    |agg _ Fs _ g1 g2 g3 g4=>
     cases hdj:ds[j]? with
     |none=>grind
     |some dj=>
      have Q:cs[j]? =some dj.er:=(by rw[<- W];simp[hdj]);rw[Q]at f
      try simp only at f
      obtain⟨v,e,e1,T,e3⟩:∃v e,Au (δ r) p=some (.own v b k e)/\(DV.own v b k e).er= .own b k rows/\dj.A0=v:=by
       obtain⟨D,N,C⟩:=Dt (h.ok r).Kt X;have D4:∃v e,D= .own v b k e:=by
        have:=(h.ok r).Kt.Au N;cases D with
        |own v bx k' n=>simp_all
        |lf a v=>cases this with|lf _ _ U=>simp at C;subst C;simp[C8]at U
        |agg cs=>simp at C
        |BQ cs=>simp at C
       obtain⟨v,e,rfl⟩:=D4;refine⟨v,e,N,C,?_⟩;split at f
       . rename_i r' p' l;simp only[AAC,AAC,AAQ]at f l;obtain⟨rfl,rfl⟩:=f;have I:=h.al s;rw[hd]at I;cases I with
         |agg _ I=>
          have E:=I j dj hdj;have M:=g1 j dj hdj;cases dj with
          |lf a u=>
           simp only[EY]at l;subst l;cases E with
           |lf _ _ E=>obtain⟨bx,k',n,U⟩:=E;simp_all
          |own=>simp at l
          |agg=>simp at l
          |BQ=>simp at l
       . rename_i l;simp only[AAC,AAQ]at f;obtain⟨rfl,rfl⟩:=f;simp only[hd,Au,hdj,AAC]at N;simp_all
       . cases f
      refine⟨v,e,e1,T,λH K=> ?_⟩;obtain⟨q,k1,Z,k3⟩:=U6 (λi d hi=>⟨_,g1 i d hi⟩);have hjl:j<ds.length:=(AAE.1 hdj).1;have V:q.length=ds.length:=(by have:=ABZ List.length Z;simpa using this);have pP:q.set j (.own v b k e)=q.take j++ .own v b k e::q.drop (j+1):=List.set_eq_take_append_cons_drop.trans am;refine⟨.agg (q.set j (.own v b k e)),?_,?_,?_,?_⟩
      . simp only[HM,Su,ar,hse,AA1,k1,T,W]
      . simp only[Jh,C6,hd,AA1,Z,Kf];congr 2;rw[<- e3];apply ABQ;grind
      . rw[pP];exact B4.2 (rL (λd L=>k3 d (ABX L)) K (λd L=>k3 d (List.mem_of_mem_drop L)))
      . intro w' S' B z o O g J;simp only[SO]at g;split at g
        . rename_i os l;obtain⟨F,rfl,R⟩:=P8 J l;rw[<- R]at g;simp only[AAN]at g;cases hoj:F[j]? with
          |none=>simp_all
          |some oj=>
           simp only[hoj,AAf,AAC]at g;cases J with
           |agg _ Fs' _ m1 m2 m3 m4=>
            refine⟨oj,Fs' j,g,?_,m1 j oj hoj,λy hy=>(m4 y).2 ⟨j,hy⟩⟩;simp only[Jh,Value.agg.injEq]at O;have P:F.map DV.A0=(q.set j (.own v b k e)).map DV.A0:=by have:=ABZ Array.toList O;simpa using this
            have:=ABZ (·[j]?) P;simp only[AAN,hoj,AAf,List.getElem?_set]at this;simp_all
        . cases g
   |_=>simp_all
theorem xY(hG:Y2 w0 F U0)(h:Rel G n w0 F U0 a w σ){d:dD}(PJ:Ji P o.op f (pre++x::args) 0=true)(jD:Dy G n o.dst d=true)(hp:Pf σ x c=some (r,p))(ZH:Ms σ pre=some g)(NK:Ms σ args=some bs)(hs:sub (σ r) p=some (.own b k rows))(JU:BD P f (g++Su σ x c (.own b k rows)::bs) res ((g.map λ_=>.dead)++out::bs.map λ_=>.dead))(hba:SO c out=some ou)(PH:ID ou=true)(G3:clean res=true)(HI:put (σ r) p ou=some j)(hK:C2 d res K (DZ (FW G (Sv ou b k p) r σ) r j))(Q:Exit->Act->World->Prop):
 o.wp P a w (λa' w'=>∃σ',Rel G n w0 F U0 a' w' σ'/\K σ') Q:=by
 obtain⟨S,δ,Fr,hn,EG,ha,rfl,m,Eh,C7⟩:=h;obtain⟨cc,fn,ho,Lz,hf,hfb,hfn,hm3,J⟩:=LH PJ;have hd:=EV jD hn;obtain⟨xs,x0,ys,Fv,hxs,hx0,hys⟩:∃xs x0 ys,cc.args.toList=xs++x0::ys/\Gj xs pre=true/\CR x0 x=true/\Gj ys args=true:=by
  generalize cc.args.toList=l at J;clear ZH NK hp JU PJ;induction pre generalizing l with
  |nil=>
   cases l with
   |nil=>simp[Gj]at J
   |cons x0 xs=>simp only[List.nil_append,Gj,AAD]at J;exact⟨[],x0,xs,rfl,rfl,J.1,J.2⟩
  |cons y pre ih=>
   cases l with
   |nil=>simp[Gj]at J
   |cons y0 l=>simp only[AAx,Gj,AAD]at J;obtain⟨xs,x0,ys,i,z,h3,h4⟩:=ih l J.2;exact⟨y0::xs,x0,ys,by simp[i],by simp[Gj,J.1,z],h3,h4⟩
 obtain⟨hxo,ex0⟩:=Am hx0 ha;obtain⟨v,Ao,hD,FP,hlent⟩:=qD m hxo hp hs;obtain⟨O,ZG,Bw,Mq⟩:=(m.ok r).replace p hD;obtain⟨Dx,hDx,hDxa,hDxo,hbk⟩:=hlent O ZG;obtain⟨E,p1,p2,p3⟩:=Rj m ha pre hxs ZH;obtain⟨Ds2,q1,q2,q3⟩:=Rj m ha args hys NK;have GU:=JU w S (E++Dx::Ds2) O (hG.now Eh) (by simp[p1,q1,hDx]) (A8.2 (rL p3 hDxo q3)) C7;have XO:(List.map DV.A0 (E++Dx::Ds2))=cc.args.toList.map a.eval:=by rw[Fv];simp[p2,q2,hDxa,ex0]
 unfold Oper.wp;rw[Ti ho Lz hf hfb hfn,Oper.upon_enter,<- XO];refine GU.mono ?_;rintro e w' ⟨rD,os,S',F',rfl,RS,hoe,hoa,Cm,W,Lv,sE,Kp,XM⟩;obtain⟨Fa,Fb,U,hosk,hdab,QU⟩:=A8.1 Cm;obtain⟨os1,oX,os2,rfl,hl1,hXe,hXa⟩:∃os1 oX os2,os=os1++oX::os2/\os1.length=E.length/\oX.er=out/\oX.A0=Dx.A0:=by
  have C:g.length=E.length:=by rw[<- p1];simp
  have hlen:os.length=E.length+(Ds2.length+1):=by have:=ABZ List.length hoa;simpa using this
  have H:E.length<os.length:=ah
  refine⟨os.take E.length,os[E.length],os.drop (E.length+1),?_,an,?_,?_⟩
  . rw[<- AA7 H,ABA]
  . have:=ABZ (·[E.length]?) hoe;simp only[AAN,AAJ H,AAf]at this;rw[AAa (by simp[C])]at this;simpa[C]using this
  . have:=ABZ (·[E.length]?) hoa;simp only[AAN,AAJ H,AAf]at this;simpa using this
 obtain⟨FX,hoX,hFX⟩:=OkL_at hosk;obtain⟨oD,Fc,V,D,hoD,hFcX⟩:=hbk w' S' FX oX ou hXa (by rw[hXe];exact hba) hoX;have H:∀s x,Fr s x->x<w.heap.size:=λs x M=>(m.ok s).lt x M;have R:∀x,Fc x->Fb x:=λx M=>hFX x (hFcX x M);have Z:∀x,Fc x->O x\/w.heap.size<=x:=λx M=>XM x ((QU x).2 (.inr (R x M)));have wW:∀x,Fa x->O x\/w.heap.size<=x:=λx M=>XM x ((QU x).2 (.inl M));have sQ:∀b,S b->w'.heap[b]? =w.heap[b]? :=λb t=>W.block b (C7 b t) (λhf=>ZG.Et b hf t);have pS:∀s b,Fr s b->¬O b->w'.heap[b]? =w.heap[b]? :=λs b t I=>W.block b (H s b t) I;have T:∀s b,Fr s b->¬O b->¬S' b:=by
  intro s b t I h';rcases sE b h' with i|i|i
  . exact(m.ok s).Et b t i
  . exact I i
  . have:=H s b t;omega
 have Sj:∀s,s≠r->∀x,Fr s x->¬O x:=λs B x M hf=>B (m.Lu s r x M (Bw x hf));obtain⟨tD,X,sP,hokt,Hu,Dh⟩:=Mq w' S' oD Fc (by rw[D];simp) hoD (λx M hr=>(Z x M).elim id λmF=>absurd (H r x hr) ah) sQ (λb t I=>pS r b t I) Lv (λb t I=>T r b t I);have xF:tD.er=j:=by obtain⟨t',i,z⟩:=G5 (d:=δ r) (p:=p) (a:=j) oD (m.ok r).Kt (by rw[V];exact HI);rw[sP]at i;obtain rfl:=AAG i;exact z
 have hdisr:∀s,s≠r->∀x,X x->¬Fr s x:=by
  intro s B x M hy;rcases(Hu x).1 M with⟨i,_⟩|i
  . exact B (m.Lu s r x hy i)
  . rcases Z x i with z|z
    . exact Sj s B x hy z
    . have:=H s x hy;omega
 have iY:ID oD.er=true:=by rw[V];exact PH
 have Gk:Dc δ oD:=UC iY;have hrin:∀L,Fj L oD.er=true:=λL=>Nj iY;generalize hN:Sv ou b k p=N at hK;have hab:∀q v' bx k' S0,q.length<N->Au (δ r) q=some (.own v' bx k' S0)->∃Iu,Au tD q=some (.own v' bx k' Iu):=by
  intro q v' bx k' S0 hq hsq;subst hN;unfold Sv at hq;split at hq
  . rename_i b1 k1 Ja;split at hq
    . rename_i e;obtain⟨rfl,rfl⟩:=e;refine NR q p ah sP (λ_ v2 bx2 k2 Iu z=> ?_) hsq;rw[hD]at z;cases z;cases oD with
      |own hh b2 k2 Iu=>simp only[Eg,AV.own.injEq]at V;obtain⟨rfl,rfl,_⟩:=V;simp only[Kf]at D;exact⟨Iu,by rw[D]⟩
      |lf a v=>simp only[EY]at V;subst V;cases hoD with|lf _ _ _ h=>exact h.elim
      |agg=>simp at V
      |BQ=>simp at V
    . omega
  . omega
 have Eu:St G w' S' (DZ (EP G N r δ) r tD) (DZ Fr r X):=
  m.setn N r tD X sQ (λs B x M=>pS s x M (Sj s B x M)) Lv (λs B x M=>T s x M (Sj s B x M)) hokt hdisr (Ll p sP (m.rt r) (hrin _)) (MZ p sP (m.al r) Gk) hab
 have XR:(λs=>(DZ (EP G N r δ) r tD s).er)=DZ (FW G N r λs=>(δ s).er) r j:=by
  funext s;unfold DZ;split
  . exact xF
  . exact m.QH N r s
 have Jl:∀s,(DZ (EP G N r δ) r tD s).A0=(δ s).A0:=by
  intro s;unfold DZ;split
  . rename_i e;rw[e,Dh]
  . exact m.Li N r s
 have hF1:∀s x,DZ Fr r X s x->(Fr s x/\¬O x)\/(s=r/\Fc x):=by
  intro s x M;by_cases B:s=r
  . subst B;rw[BM]at M;exact((Hu x).1 M).imp id λh=>⟨rfl,h⟩
  . rw[Ba _ _ B]at M;exact .inl ⟨M,Sj s B x M⟩
 have hdisD:∀s x,DZ Fr r X s x->¬Fa x:=by
  intro s x M hy;rcases hF1 s x M with⟨i,z⟩|⟨_,i⟩
  . rcases wW x hy with h3|h3
    . exact z h3
    . have:=H s x i;omega
  . exact hdab x hy (R x i)
 have hOwn1:∀x,BJ (DZ Fr r X) x->BJ Fr x\/w.heap.size<=x:=by
  rintro x ⟨s,M⟩;rcases hF1 s x M with⟨i,_⟩|⟨_,i⟩
  . exact .inl ⟨s,i⟩
  . exact(Z x i).imp (λh=>⟨r,Bw x h⟩) id
 have Gw:∀F3:Nat->Nat->Prop,(∀x,BJ F3 x->BJ (DZ Fr r X) x\/Fa x)->Nx w0 F U0 w' S' (BJ F3):=by
  intro F3 hF3;refine Eh.trans ⟨W.os,W.tape,W.output,W.size,λb t I=>W.block b t λhf=>I ⟨r,Bw b hf⟩,Lv,λb t=>(sE b t).imp id (Or.imp (λh=>⟨r,Bw b h⟩) id),λ_=>Kp,λx M=> ?_⟩;rcases hF3 x M with i|i
  . exact hOwn1 x i
  . exact(wW x i).imp (λh=>⟨r,Bw x h⟩) id
 rw[<- XR]at hK;have Qu:Rd (DZ (EP G N r δ) r tD) a:=λs=>(ha s).trans (Jl s).symm;simp only;cases d with
 |none=>
  have h0:o.dst=none:=hd;refine⟨_,⟨S',_,_,?_,?_,?_,rfl,Eu,Gw _ (λx M=>.inl M),Kp⟩,hK⟩
  . rw[h0];exact hn
  . rw[h0];exact EG
  . rw[h0];exact Qu
 |some d=>
  simp only[C2]at hK;split at hK
  . rename_i τ' Lx;obtain⟨i,z,h3,h4⟩:=hd;rw[<- RS]at Lx;obtain⟨δ',F3,KV,JD,Qv,D4⟩:=Eu.wr z h3 (λ_ _=>rfl) (λ_ _ _=>rfl) (λ_ h=>h) (λs x M=>(Eu.ok s).Et x M) U hdisD (W5 U (by rw[RS];exact G3)) Lx;refine⟨τ',⟨S',δ',F3,?_,?_,?_,JD,KV,Gw F3 D4,Kp⟩,hK⟩
    . rw[i];simpa[Act.put]using hn
    . rw[i];simpa[Act.put]using EG
    . intro s;rw[i,Ik a d.d rD.A0 h4 s,Qv s];split
      . rfl
      . exact Qu s
  . exact hK.elim
end
variable{ops:Array Oper}{N:Act->World->Prop}
section
variable{w w':World}{S S':de}{G:Gi}{δ:dy}{Fr:dh}{P:Program}
def Kn(n:Nat)(ops:Array Oper)(g:dq)(h:dq):Bool:=
 match g,h with
 |none,none=>true
 |some (j,b),some (s,b')=>(ops[j]?).bind (·.dst)==some s&&b==b'&&decide (s<n)
 |_,_=>false
def G0(P:Program)(G:Gi)(n:Nat)(ops:Array Oper)(o:Oper)(io:BP):Bool:=
 Dy G n o.dst io.dst&&Kn n ops o.guard io.guard&&(match io.op with
  | .call f args m=>Ji P o.op f args m
  | .Uv f pre x _ post=>Ji P o.op f (pre++x::post) 0
  |op=>JR P o.op op)
theorem Wv(I:Y2 w0 F R)(h:Rel G n w0 F R a w σ)(J:G0 P G n ops o io=true)(d:ED P G io K σ)(Q:Exit->Act->World->Prop):
 o.wp P a w (λy w'=>∃σ',Rel G n w0 F R y w' σ'/\K σ') Q:=by
 simp only[G0,AAD]at J;obtain⟨⟨H,_⟩,g⟩:=J;have j:=h;obtain⟨S,δ,Fr,hn,M,ha,rfl,L,N,E⟩:=h;have hd:=EV H hn;have i:∀{op:Yv},io.op=op->(match GO G op io.dst (λs=>(δ s).er)with|some τ=>K τ|none=>False)->JR P o.op op=true->o.wp P a w (λy w'=>∃σ',Rel G n w0 F R y w' σ'/\K σ') Q:=by
  intro op _ B hk;split at B
  . rename_i τ l;obtain⟨nx,v,w',S',D,O,q,C,SF,U,W,e⟩:=op_sound L E ha hd hk l;have key:∃σ',Rel G n w0 F R (a.put o.dst v) w' σ'/\K σ':=by
     refine⟨τ,⟨S',D,O,?_,?_,SF,U,W,N.trans e,e.lt E⟩,B⟩
     . cases ho:o.dst<;>simp[Act.put,hn]
     . cases ho:o.dst<;>simp[Act.put,M]
    unfold Oper.wp;rw[q];rcases C with rfl|⟨rfl,rfl⟩
    . rw[Oper.upon_value];exact key
    . rw[Oper.upon_skip];exact key
  . exact B.elim
 cases Hm:io.op with
 |call f args m=>rw[Hm]at g;exact nV I j Hm g hd d Q
 |Uv f pre x c post=>
  rw[Hm]at g;unfold ED at d;rw[Hm]at d;simp only at d g;split at d
  . rename_i r p aZ9 bs hp ZH X;split at d
    . rename_i b kk rows hs;obtain⟨res,out,ou,V,z,Z,k,q⟩:=d;split at q
      . rename_i t T;exact xY I j g H hp ZH X hs V z Z k T q Q
      . exact q.elim
    . exact d.elim
  . exact d.elim
 |_=>rw[Hm]at g;unfold ED at d;rw[Hm]at d;exact i Hm d g
theorem PG(h:Rel G n w0 F R a w σ){I:dq}(h1:Dy G n o.dst dst=true)(c:Kn n ops o.guard I=true){A:dg}(Q:Exit->Act->World->Prop)(T:A σ->o.wp P a w N Q)(U:∀O σ',Rel G n w0 F R O w σ'->K σ'->N O w)(i:gdP I A (Yl dst K) σ)(hi:ops[k]? =some o):wpOp P ops Q k N a w:=by
 unfold wpOp;rw[hi];simp only;have skip:Yl dst K σ->N (a.put o.dst undef) w:=by
  intro t;unfold Yl at t;obtain⟨S,δ,Fr,hn,z,r,rfl,q,M,L⟩:=h;have hd:=EV h1 hn;cases Lw:dst with
  |none=>rw[Lw]at t hd;have h0:o.dst=none:=hd;rw[h0];exact U _ _ ⟨S,δ,Fr,hn,z,r,rfl,q,M,L⟩ t
  |some d=>
   rw[Lw]at t hd;obtain⟨B,g2,g3,g4⟩:=hd;have Lx:wr d (DV.lf .un undef).er (λs=>(δ s).er)=some (DZ (JW d.kl d.d λs=>(δ s).er) d.d .un):=(by simp[wr]);obtain⟨J,F',KV,JD,Z,X⟩:=q.wr (D:=.lf .un undef) (Ff:=λ_=>False) g2 g3 (λ_ _=>rfl) (λ_ _ _=>rfl) (λ_ h=>h) (λs x H=>(q.ok s).Et x H) (.lf _ _ _ rfl (λ_ h=>h)) (λ_ _ _ h=>h) (.lf _ _ trivial) Lx;refine U _ _ ⟨S,J,F',?_,?_,?_,JD,KV,M.trans (Nx.less λx H=>(X x H).elim (λh=>h) False.elim),L⟩ t
   . rw[B];simpa[Act.put]using hn
   . rw[B];simpa[Act.put]using z
   . intro s;rw[B,Ik a d.d undef g4 s,Z s];split
     . rfl
     . exact r s
 cases I with
 |none=>
  have e:o.guard=none:=by
   cases ho:o.guard with
   |none=>rfl
   |some g=>rw[ho]at c;simp[Kn]at c
  have hw:Region.wanted o (yielded ops a.tmps)=true:=by simp[Region.wanted,e]
  rw[AAL hw];exact .inl (T i)
 |some g=>
  obtain⟨s,l⟩:=g;simp only[gdP]at i;obtain⟨j,e,E,next⟩:∃j,o.guard=some (j,l)/\(ops[j]?).bind (·.dst)=some s/\s<n:=by
   cases ho:o.guard with
   |none=>rw[ho]at c;simp[Kn]at c
   |some g=>obtain⟨j,b⟩:=g;rw[ho]at c;simp only[Kn,AAD,AAR,AAV]at c;exact⟨j,by rw[c.1.2],c.1.1,c.2⟩
  have V:yielded ops a.tmps j=match a.tmps.getD s undef with| .bool b=>some b|_=>none:=by obtain⟨S,δ,Fr,hn,_⟩:=h;have u:s<a.tmps.size:=(by rw[hn];exact next);unfold yielded;rw[E];simp only[AAB,Array.getElem?_eq_getElem u,AAZ,Option.getD_some];cases a.tmps[s]<;>rfl
  have p:a.tmps.getD s undef=match σ s with| .sc v=>v| .un=>undef|_=>a.tmps.getD s undef:=by
   obtain⟨S,δ,Fr,hn,z,r,rfl,q,_⟩:=h;simp only;cases u:(δ s).er with
   |sc v=>rw[r s];exact(q.leaf u rfl).2.1.1
   |un=>rw[r s];exact(q.leaf u rfl).2.1
   |_=>rfl
  split at i
  . rename_i b C;rw[C]at p;simp only at p;have f:Region.wanted o (yielded ops a.tmps)=(some b==some l):=(by simp only[Region.wanted,e,V,p]);split at i
    . rename_i m;subst m;rw[AAL (by rw[f];simp)];exact .inl (T i)
    . rename_i m;rw[AAK (by rw[f];simp[m])];exact skip i
  . rename_i C;rw[C]at p;simp only at p;have f:Region.wanted o (yielded ops a.tmps)=false:=(by simp only[Region.wanted,e,V,p];rfl);rw[AAK (by rw[f];simp)];exact skip i
  . exact i.elim
theorem IZ(l:Y2 w0 F R)(h:Rel G n w0 F R a w σ)(f:G0 P G n ops o io=true)(g:Kl P G io K σ)(Q:Exit->Act->World->Prop){i:Nat}(hi:ops[i]? =some o):
 wpOp P ops Q i (λj w'=>∃σ',Rel G n w0 F R j w' σ'/\K σ') a w:=by
 have c:=f;simp only[G0,AAD]at c;exact PG h c.1.1 c.1.2 (A:=ED P G io K) Q (λm=>Wv l h f m Q) (λ_ _ r k=>⟨_,r,k⟩) g hi
def Lb(P:Program)(G:Gi)(n:Nat)(ops:Array Oper):List Oper->List BP->Bool
 |[],[]=>true
 |o::os,io::Dj=>G0 P G n ops o io&&Lb P G n ops os Dj
 |_,_=>false
theorem nF(q:Y2 w0 F R)(Q:Exit->Act->World->Prop)(r:∀a w σ,Rel G n w0 F R a w σ->K σ->Q .normal a w)(c:eP):
 ∀(k:Nat){a:Act}{w:World}{σ:Sg},Rel G n w0 F R a w σ->Lb P G n ops (ops.toList.drop k) c=true->Nh P G c K σ->wpOps P ops Q (List.range' k (ops.size-k)) a w:=by
 induction c with
 |nil=>
  intro k a w σ h b i;have l:ops.toList.drop k=[]:=by cases hd:ops.toList.drop k with|nil=>rfl|cons o os=>rw[hd]at b;simp[Lb]at b
  have m:ops.size<=k:=by simpa using l
  rw[show ops.size-k=0 from by omega];exact r a w σ h i
 |cons io c ih=>
  intro k a w σ h b i;cases hd:ops.toList.drop k with
  |nil=>rw[hd]at b;simp[Lb]at b
  |cons o os=>rw[hd]at b;simp only[Lb,AAD]at b;have l:k<ops.size:=(by have:(ops.toList.drop k).length=os.length+1:=(by rw[hd];rfl);simp at this;omega);have s:ops[k]? =some o:=(by have:(ops.toList.drop k)[0]? =some o:=(by rw[hd];rfl);simpa using this);have g:ops.toList.drop (k+1)=os:=(by have:(ops.toList.drop k).drop 1=os:=(by rw[hd];rfl);rw[List.drop_drop]at this;exact this);rw[show ops.size-k=(ops.size-(k+1))+1 from by omega,List.range'_succ,wpOps_cons];refine wpOp_mono ?_ (IZ q h b.1 i Q s);rintro t w' ⟨σ',p,f⟩;exact ih (k+1) p (by rw[g];exact b.2) f
end
variable{J:ff}{s:Nat}
section
variable{w w':World}{S S':de}{G:Gi}{δ:dy}{Fr:dh}{P:Program}
theorem Oc(d:Nat)(t e:TypeId)(a:ABd Addr)(n c:Nat)(h:P.underlying t=some (.slice e)):(Op.equalIn (d+1) t (.slice a n c) (.slice none 0 0)).run P w= .ok a.isNone w:=by have b:(underlying t).run P w= .ok (.slice e) w:=run_underlying h w;cases a<;>simp[Op.equalIn,b]
theorem lG(t e:TypeId)(a:ABd Addr)(n c:Nat)(h:P.underlying t=some (.slice e)):(binOp .eql t (.slice a n c) (.slice none 0 0)).run P w= .ok (.bool a.isNone) w:=by simp only[binOp];have:(Op.equal t (.slice a n c) (.slice none 0 0)).run P w= .ok a.isNone w:=Oc 9999 t e a n c h;simp[this]
theorem lH(t e:TypeId)(a:ABd Addr)(n c:Nat)(h:P.underlying t=some (.slice e)):(binOp .neq t (.slice a n c) (.slice none 0 0)).run P w= .ok (.bool (!a.isNone)) w:=by simp only[binOp];have:(Op.equal t (.slice a n c) (.slice none 0 0)).run P w= .ok a.isNone w:=Oc 9999 t e a n c h;simp[this]
def oI(P:Program)(o:Op)(neg:Bool)(y:Ar):Bool:=match o with
 | .binOp op t x (.const (.slice none 0 0)) _=>(match op with| .eql=> !neg| .neq=>neg|_=>false)&&(match P.underlying t with|some (.slice _)=>true|_=>false)&&CR x y
 |_=>false
theorem p6(h:Rel G n w0 F R a w σ)(j:oI P o.op b x=true)(jD:Dy G n o.dst (some d)=true)(W:hd σ x=some (res,J))(i:rowsOf res=some rows)(hK:∀g:Bool,(g=true->rows=[])->C2 (some d) (.sc (.bool (if b=true then !g else g))) K σ)(Q:Exit->Act->World->Prop):
 o.wp P a w (λa' w'=>∃σ',Rel G n w0 F R a' w' σ'/\K σ') Q:=by
 obtain⟨S,δ,Fr,hn,EG,M,rfl,q,Eh,B⟩:=h;unfold oI at j;split at j
 . rename_i op t x' u Z;simp only[AAD]at j;obtain⟨⟨r,O⟩,h3⟩:=j;obtain⟨hx,N⟩:=Am h3 M;obtain⟨e,U⟩:∃e,P.underlying t=some (.slice e):=by
    split at O
    . exact⟨_,‹_›⟩
    . cases O
   -- the slice's own value
   obtain⟨f,l,c,p,m⟩:∃f l c,C6 δ x= .slice f l c/\(f.isNone=true->rows=[]):=by
    obtain⟨g1,g2⟩:=q.sI hx W;cases res with
    |own g k rows'=>
     cases g with
     |true=>simp[rowsOf]at i
     |false=>
      simp only[rowsOf,AAC]at i;subst i;obtain⟨Ao,L,e1,C,_⟩:=g1 _ _ _ rfl;generalize C6 δ x=v at C;cases C with
      |nil=>exact⟨none,0,0,rfl,λ_=>by rw[<- e1];rfl⟩
      |own _ _ _ g c arr E Fs _ T X D3 LJ hvv hr H p KE hF=>exact⟨_,_,_,by simp[JT];exact⟨rfl,rfl,rfl⟩,ak⟩
    |sl e' k rows'=>
     simp only[rowsOf,AAC]at i;subst i;obtain⟨s,y,sO⟩:=q.hdSl hx W;have pl:=g2 _ _ _ rfl ⟨s,y,sO⟩;generalize C6 δ x=v at pl;cases pl with
     |nil=>exact⟨_,_,_,rfl,λ_=>rfl⟩
     |sl=>exact⟨_,_,_,rfl,ak⟩
    |_=>simp[rowsOf]at i
   have T:(execOp a.eval o).run P w= .ok (.value (.bool (if b=true then !f.isNone else f.isNone))) w:=by
    have V:∀op,(eqGuard op t x' (.const (.slice none 0 0)) (.slice f l c) (.slice none 0 0)).run P w= .ok () w:=(by intro op;cases op<;>simp[eqGuard]);have I:a.eval (.const (.slice none 0 0))= .slice none 0 0:=rfl;cases op<;>simp only[AAM]at r
    . have:b=false:=(by simpa using r);subst this;simp only[execOp,Z,N,p,I,Sem.run_bind,V,Result.andThen_ok,lG t e f l c U,Sem.run_pure,AAM,AAT]
    . subst r;simp only[execOp,Z,N,p,I,Sem.run_bind,V,Result.andThen_ok,lH t e f l c U,Sem.run_pure,AAi]
   have X:=hK f.isNone m;have H:=EV jD hn;unfold Oper.wp;rw[T,Oper.upon_value];exact LY (S2:=S) (D:=.lf (.sc (.bool (if b=true then !f.isNone else f.isNone))) (.bool (if b=true then !f.isNone else f.isNone))) (FD:=λ_=>False) q hn EG M H ak (λ_ _=>rfl) B (λ_ h=>h) (λ_ h=>.inl h) B (.lf _ _ _ ⟨rfl,rfl⟩ (λ_ h=>h)) (λ_ h=>h.elim) (.lf _ _ trivial) Eh rfl rfl rfl (AAe _) X
 . cases j
theorem nY(h:St G w S δ Fr)(rs:eu):∀{vs:List Value}{f:dm},vs.length=rs.length->(∀(i:Nat) r p u,rs[i]? =some (r,p)->vs[i]? =some u->∃bx k rows,Au (δ r) p=some (.own u bx k rows))->vL (λs=>(δ s).er) rs=some f->
 ∃c:List DV,c.map DV.er=f/\c.map DV.A0=vs/\∀D∈c,Ok w (λx=>S x\/BJ Fr x) D (λ_=>False):=by
 induction rs with
 |nil=>
  intro vs f g _ b;cases vs with
  |nil=>simp only[vL,AAC]at b;subst b;exact⟨[],rfl,rfl,ak⟩
  |cons=>simp at g
 |cons x rs ih=>
  obtain⟨r,p⟩:=x;intro vs f g l b;cases vs with
  |nil=>simp at g
  |cons v vs=>
   simp only[vL]at b;split at b
   . rename_i a m n o;simp only[AAC]at b;subst b;obtain⟨bx,k,rows,q⟩:=l 0 r p v rfl rfl;obtain⟨D,y,z,B⟩:=JZ h (d:=.lf (.al r p) v) (F:=λ_=>False) (.lf _ _ _ trivial (λ_ h=>h)) (λ_ h=>h.elim) (.lf _ _ ⟨bx,k,rows,q⟩) (by simpa using n);obtain⟨c,C,E,H⟩:=ih (by simpa using g) (λi r p u hi t=>l (i+1) r p u (by simpa using hi) (by simpa using t)) o;refine⟨D::c,by simp[y,C],by simpa[E]using z,?_⟩;intro e j;rcases AAn.1 j with rfl|j
     . exact B
     . exact H e j
   . cases b
def oC(P:Program)(o:Op)(f:Nat)(y:Ar)(ys:ek):Bool:=match o with
 | .call c=>(match c.callee with
  | .value x=>CR x y&&Gj c.args.toList ys&&(match P.funcs[f]? with|some fn=>fn.body.isSome&&fn.name != "runtime.NumGoroutine" |none=>false)
  |_=>false)
 |_=>false
theorem run_clo{c:Call}{b:Func}(k:o.op= .call c)(i:c.callee= .value u)(m:a.eval u= .func (.func f) #[] vs.toArray)(j:P.funcs[f]? =some b)(n:b.body.isSome=true)(hn:(b.name != "runtime.NumGoroutine")=true):
 (execOp a.eval o).run P w= .ok (.enter f (c.args.toList.map a.eval++vs).toArray) w:=by
 have d:b.body.isNone=false:=by cases h:b.body<;>simp_all
 have e:(b.name== "runtime.NumGoroutine")=false:=by simpa using hn
 have g:c.args.map a.eval=(c.args.toList.map a.eval).toArray:=by apply ABT;simp
 simp only[execOp,k,resolve,i,m,Deferred.ofValue,Sem.run_bind,Sem.run_pure,Result.andThen_ok,invoke,callFunc,g];have l:(program).run P w= .ok P w:=rfl;rw[l];simp only[Result.andThen_ok,j,e,d,AAM,AAT,Sem.run_pure];simp
theorem vU(hG:Y2 w0 F R)(h:Rel G n w0 F R a w σ)(i:oC P o.op f x args=true)(jD:Dy G n o.dst dst=true)(m:cloA σ f x args=some g)(JU:Says P f g res)(l:Rr 0 res=some out)(hK:C2 dst out K σ)(Q:Exit->Act->World->Prop):
 o.wp P a w (λa' w'=>∃σ',Rel G n w0 F R a' w' σ'/\K σ') Q:=by
 obtain⟨S,δ,Fr,hn,EG,I,rfl,k,T,B⟩:=h;have hd:=EV jD hn;have NJ:=hG.now T;unfold oC at i;split at i
 . rename_i c ho;split at i
   . rename_i x0 Lz;simp only[AAD]at i;obtain⟨⟨h1,h2⟩,p⟩:=i;split at p
     . rename_i fn hf;simp only[AAD]at p;obtain⟨y,ex⟩:=Am h1 I;unfold cloA at m;split at m
       . rename_i f' rs C;split at m
         . rename_i e;subst e;split at m
           . rename_i as1 bs J L;simp only[AAC]at m;subst m;obtain⟨vs,Z,N,O⟩:Ml δ (.cl f' rs) (C6 δ x):=by
              cases x with
              |t s=>exact(k.leaf C rfl).2.2
              |c c0=>obtain⟨D0,o7⟩:=y;simp only[ar]at C;subst C;simp[Iy]at o7
             obtain⟨X,p1,p2,p3⟩:=TK k I args h2 J;obtain⟨Ds2,q1,q2,q3⟩:=nY k rs N O L;have GU:=JU w (λx=>S x\/BJ Fr x) (X++Ds2) (λ_=>False) (NJ.mono λ_ h=>.inl h) (by simp[p1,q1]) (A8.2 (CN λD hD=>(AAW.1 hD).elim (p3 D) (q3 D))) (by
              rintro b (q|⟨s,M⟩)
              . exact B b q
              . exact(k.ok s).lt b M)
             have XO:(List.map DV.A0 (X++Ds2))=c.args.toList.map a.eval++vs:=(by simp[p2,q2]);simp only[Rr]at l;split at l
             . rename_i FB;simp only[AAC]at l;have W:=XF FB;unfold Oper.wp;rw[run_clo ho Lz (by rw[ex,Z]) hf p.1 p.2,Oper.upon_enter,<- XO];refine GU.mono ?_;rintro e w' ⟨r,os,S',F',rfl,E,hoe,hoa,Cm,j,Lv,sE,Kp,XM⟩;obtain⟨U,Fb,V,_,_,QU⟩:=A8.1 Cm;have u:∀x,U x->w.heap.size<=x:=λx y=>(XM x ((QU x).2 (.inl y))).resolve_left id;have PN:Ok w' S r U:=Sb V (by rw[E];exact W) (λx y M=>by have:=B x M;have:=u x y;omega);simp only;exact LY (S2:=S) k hn EG I hd (E.trans l) (λb q=>j.block b q id) B (λ_ h=>h) (λ_ h=>.inl h) (λb q=>ABE (B b q) j.size) PN u (Sa V (by rw[E];exact W)) T j.os j.tape j.output j.size hK
             . cases l
           . cases m
         . cases m
       . cases m
     . cases p
   . cases i
 . cases i
def oB(P:Program)(o:Op)(n s:Nat):Bool:=match o with
 | .box t (.tmp s')=>s==s'&&Ga P t==some n
 |_=>false
theorem vJ(h:Rel G n w0 q F a w σ)(f:oB P o.op m s=true)(W:Dy G n o.dst (some d)=true)(V:σ s= .agg g)(O:g.length=m)(M:∀B:List Value,B.length=m->C2 (some d) (.vb s 0 B) K σ)(Q:Exit->Act->World->Prop):
 o.wp P a w (λL w'=>∃σ',Rel G n w0 q F L w' σ'/\K σ') Q:=by
 obtain⟨S,δ,Fr,hn,E,z,rfl,l,r,k⟩:=h;have hd:=EV W hn;unfold oB at f;split at f
 . rename_i t X T;simp only[AAD,AAR]at f;obtain⟨rfl,_⟩:=f;obtain⟨ds,J,R⟩:=P8 (l.ok s) V;have p:(δ s).A0= .agg (ds.map DV.A0).toArray:=(by rw[J];simp);have H:a.eval (.tmp s)= .agg (ds.map DV.A0).toArray:=(by simp only[Act.eval];rw[z s,p]);have y:(ds.map DV.A0).length=m:=(by rw[<- O,<- R];simp);have U:(execOp a.eval o).run P w= .ok (.value (.pointer (some ⟨w.heap.size,0,none⟩))) (w.alloc (.cells (ds.map DV.A0).toArray t)):=(by simp only[execOp,T,H,Sem.run_bind,tH,Result.andThen_ok,Sem.run_pure,Value.cells]);unfold Oper.wp;rw[U,Oper.upon_value];have I:(w.alloc (.cells (ds.map DV.A0).toArray t)).heap.size=w.heap.size+1:=(by show(w.heap.push _).size=_;exact Array.size_push _);have i:∀b,(S b\/b=w.heap.size)->b<(w.alloc (.cells (ds.map DV.A0).toArray t)).heap.size:=by
    intro b c;rw[I];rcases c with c|c
    . have:=k b c;omega
    . omega
   have:=LY (w':=w.alloc (.cells (ds.map DV.A0).toArray t)) (S2:=λx=>S x\/x=w.heap.size) (D:=.lf (.vb s 0 (ds.map DV.A0)) (.pointer (some ⟨w.heap.size,0,none⟩))) (FD:=λ_=>False) (v:=.vb s 0 (ds.map DV.A0)) (K:=K) l hn E z hd ak
    (λb c=>alloc_old w _ b c) k (λ_ h=>.inl h) (λb c=>c.imp id (λe=>ah)) i
    (.lf _ _ _ ⟨w.heap.size,rfl,.inr rfl,λj u N=>by simp only[World.cell?,Zr];simpa using N⟩ (λ_ h=>h)) (λ_ h=>h.elim) (.lf _ _ p) r rfl rfl rfl ah (M _ y)
   simpa using this
 . cases f
def oG(P:Program)(o:Op)(g n:Nat):Bool:=match o with
 | .load t (.global g')=>g==g'&&Ga P t==some n&&JK P t==some true
 |_=>false
theorem wT(O:Y2 w0 F R)(h:Rel G n w0 F R a w σ)(f:oG P o.op k m=true)(jD:Dy G n o.dst (some d)=true)(c:iX k m=some B)(l:C2 (some d) (.agg (B.map .sc)) K σ)(Q:Exit->Act->World->Prop):
 o.wp P a w (λL w'=>∃σ',Rel G n w0 F R L w' σ'/\K σ') Q:=by
 obtain⟨S,δ,Fr,hn,I,T,rfl,H,u,r⟩:=h;have J:=O.now u;have hd:=EV jD hn;unfold iX at c;split at c
 . rename_i x C;split at c
   . rename_i z;obtain rfl:=AAG c;have pJ:=ABW C;have p:x.1=k:=(by have:=List.find?_some C;simpa using this);obtain⟨_,arr,E,fz,U,g⟩:=J x pJ;unfold oG at f;split at f
     . rename_i t g' W;simp only[AAD,AAR]at f;obtain⟨⟨rfl,M⟩,N⟩:=f;have s:=K1 (P:=P) (w:=w) (b:=k) (off:=0) (vs:=x.2) M N (.inl rfl) z.1 (by
        intro j v V
        have:=g j v V;simp only[World.cell?];rw[<- p,U];simpa using this)
       simp only[AAi]at s;have X:(execOp a.eval o).run P w= .ok (.value (.agg x.2.toArray)) w:=(by simp only[execOp,W,Act.eval,Instr.loadAt,Instr.sureAddr,Sem.run_bind,Sem.run_pure,Result.andThen_ok,s]);unfold Oper.wp;rw[X,Oper.upon_value];have y:∀D∈x.2.map (λv=>DV.lf (.sc v) v),Ok w S D (λ_=>False)/\Dc δ D:=by intro D e;obtain⟨v,Z,rfl⟩:=ABO.1 e;exact⟨.lf _ _ _ ⟨rfl,AAH.1 z.2 v Z⟩ (λ_ h=>h),.lf _ _ trivial⟩
       have:=LY (S2:=S) (D:=.agg (x.2.map λv=>DV.lf (.sc v) v)) (FD:=λ_=>False) (v:=.agg (x.2.map .sc)) (K:=K) H hn I T hd (by simp[Function.comp_def]) (λ_ _=>rfl) r (λ_ h=>h) (λ_ h=>.inl h) r (B4.2 (CN λD e=>(y D e).1)) (λ_ h=>h.elim) (.agg _ λi D e=>(y D (AAP e)).2) u rfl rfl rfl (AAe _) l;simpa[Function.comp_def]using this
     . cases f
   . cases c
 . cases c
end
section
variable{G:Gi}{A:de}{σ σ' τ τ':Sg}
structure Ag (G:Gi) (A:Nat->Prop) (σ σ':Sg):Prop where
 eq:∀s,A s->σ' s=σ s
 ri:∀s,A s->Fj (G.Gv s) (σ s)=true
structure Mv (G:Gi) (A:Nat->Prop) (σ σ' τ τ':Sg):Prop where
 ag:Ag G A τ τ'
 off:∀s,¬A s->τ' s=σ' s/\τ s=σ s
structure Cl (G:Gi) (A:Nat->Prop) (s:Nat):Prop where
 own:A s
 OM:∀x∈G.OM s,A x
 rt:∀r∈G.Gv s,A r/\∀x∈G.OM r,A x
def rE(G:Gi)(A:de):Ar->Prop
 | .t s=>Cl G A s
 | .c a=>Fj [] a=true
def Mv.refl(h:Ag G A σ σ'):Mv G A σ σ' σ σ':=⟨h,λ_ _=>⟨rfl,rfl⟩⟩
def Mv.trans{d a:Sg}(h:Mv G A σ σ' τ τ')(c:Mv G A τ τ' d a):Mv G A σ σ' d a:=
 ⟨c.ag,λs b=>⟨(c.off s b).1.trans (h.off s b).1,(c.off s b).2.trans (h.off s b).2⟩⟩
theorem N9(L:dF)(d:Nat):∀(a:AV),Fj L a=true->Fj L (Df d a)=true
 | .al r p,h=>by
  rw[Xh];split
  . simp
  . exact h
 | .Kk r p i j k,h=>by
  rw[UL];split
  . simp
  . exact h
 | .agg cs,h=>by rw[KA,AAH]at h;rw[aR,KA,AA9,AAH];intro c b;exact N9 L d c (h c b)
 | .BQ cs,h=>by rw[OA,AAH]at h;rw[aT,OA,AA9,AAH];intro c b;exact N9 L d c (h c b)
 | .sc _,_=>ak
 | .sl ..,_=>ak
 | .own ..,_=>ak
 | .fp _,_=>ak
 | .dead,_=>ak
 | .un,_=>ak
 | .oT ..,_=>by simp[Df,Fj]
 | .vb s o us,h=>by
  rw[Xi];split
  . simp
  . exact h
 | .cl f rs,h=>by
  rw[Sp];split
  . exact h
  . simp
theorem WT(p:di):∀{t x f:AV},put t p x=some f->Fj L t=true->Fj L x=true->Fj L f=true:=by
 induction p with
 |nil=>
  intro t x f h _ g;have:f=x:=by cases t<;>simp[put]at h<;>exact h.symm
  subst this;exact g
 |cons s p ih=>
  obtain⟨i,j,k⟩:=s;intro t x f h d g;cases t with
  |own b k rows=>
   simp only[put]at h;split at h
   . split at h
     . split at h
       . cases h;simp
       . cases h
     . cases h
   . cases h
  |agg cs=>
   simp only[put]at h;split at h
   . rename_i c m;split at h
     . rename_i c' l;cases h;rw[KA,AAH]at d |-;intro e a;rcases AAh a with a|rfl
       . exact d e a
       . exact ih l (d c (AAP m)) g
     . cases h
   . cases h
  |BQ cs=>
   simp only[put]at h;split at h
   . rename_i c m;split at h
     . rename_i c' l;cases h;rw[OA,AAH]at d |-;intro e a;rcases AAh a with a|rfl
       . exact d e a
       . exact ih l (d c (AAP m)) g
     . cases h
   . cases h
  |_=>simp[put]at h
theorem Ag.kup(h:Ag G A σ σ'){t:AV}(f:A r)(d:∀x∈G.OM r,A x)(g:Fj (G.Gv r) t=true):Mv G A σ σ' (DZ (JV G r σ) r t) (DZ (JV G r σ') r t):=by
 refine⟨⟨λs a=> ?_,λs a=> ?_⟩,λs a=> ?_⟩
 . simp only[DZ,JV,h.eq s a]
 . simp only[DZ,JV];split
   . rename_i e;subst e;exact g
   . split
     . exact N9 _ _ _ (h.ri s a)
     . exact h.ri s a
 . have b:s≠r:=λe=>a (e▸f);have c:s∉G.OM r:=λe=>a (d s e);simp[DZ,JV,b,c]
theorem Ag.up(h:Ag G A σ σ')(c:A r)(d:Fj (G.Gv r) res=true):Mv G A σ σ' (DZ σ r res) (DZ σ' r res):=by
 refine⟨⟨λs a=> ?_,λs a=> ?_⟩,λs a=> ?_⟩
 . simp only[DZ,h.eq s a]
 . simp only[DZ];split
   . rename_i e;subst e;exact d
   . exact h.ri s a
 . have b:s≠r:=λe=>a (e▸c);simp[DZ,b]
theorem Ag.kupn(h:Ag G A σ σ')(n:Nat)(f:A r)(d:∀x∈G.OM r,A x)(g:Fj (G.Gv r) res=true):Mv G A σ σ' (DZ (FW G n r σ) r res) (DZ (FW G n r σ') r res):=by
 refine⟨⟨λs a=> ?_,λs a=> ?_⟩,λs a=> ?_⟩
 . simp only[DZ,FW,h.eq s a]
 . simp only[DZ,FW];split
   . rename_i e;subst e;exact g
   . split
     . exact QG _ _ _ _ (h.ri s a)
     . exact h.ri s a
 . have b:s≠r:=λe=>a (e▸f);have c:s∉G.OM r:=λe=>a (d s e);simp[DZ,FW,b,c]
theorem WW(h:Ag G A σ σ')(c:A r)(d:∀x∈G.OM r,A x)(a:Zh G r p σ=some (res,τ)):∃τ',Zh G r p σ'=some (res,τ')/\Mv G A σ σ' τ τ':=by
 unfold Zh at a |-;rw[h.eq r c];split at a
 . rename_i b k rows f;split at a
   . rename_i t e;cases a;exact⟨_,rfl,h.kupn _ c d (WT p e (h.ri r c) ak)⟩
   . cases a
 . cases a
theorem Sc(h:Ag G A σ σ')(c:A r)(d:∀x∈G.OM r,A x)(a:QT G r p σ=some (res,τ)):∃τ',QT G r p σ'=some (res,τ')/\Mv G A σ σ' τ τ':=by
 unfold QT at a |-;rw[h.eq r c];split at a
 . rename_i b k rows f;split at a
   . rename_i t e;cases a;refine⟨_,rfl,h.kup c d (WT p e (h.ri r c) ?_)⟩;cases b<;>simp
   . cases a
 . cases a
theorem tkL_loc(c:dm):∀{σ σ' τ:Sg}{l:dm},Ag G A σ σ'->(∀r p,AV.al r p∈c->A r/\∀x∈G.OM r,A x)->mH G c σ=some (l,τ)->∃τ',mH G c σ'=some (l,τ')/\Mv G A σ σ' τ τ':=by
 induction c with
 |nil=>intro σ σ' τ l h _ b;simp only[mH,AAC,AAQ]at b |-;obtain⟨rfl,rfl⟩:=b;exact⟨σ',⟨rfl,rfl⟩,.refl h⟩
 |cons a c ih=>
  intro σ σ' τ l h m b;have k:∀r p,AV.al r p∈c->A r/\∀x∈G.OM r,A x:=λr p v=>m r p (by simp[v]);have d:(∀r p,a≠ .al r p)->∃τ',mH G (a::c) σ'=some (l,τ')/\Mv G A σ σ' τ τ':=by
   intro i;have e:∀σ,mH G (a::c) σ=if FN a=true then(match mH G c σ with|some (l,τ)=>some (a::l,τ)|none=>none)else none:=by intro σ;cases a<;>first|rfl|exact absurd rfl (i _ _)
   rw[e]at b |-;split at b
   . rename_i o;rw[AAL o];split at b
     . rename_i l' j g;cases b;obtain⟨τ',f,g2⟩:=ih h k g;exact⟨τ',by rw[f],g2⟩
     . cases b
   . cases b
  cases a with
  |al r p=>
   obtain⟨w,u⟩:=m r p ak;simp only[mH]at b |-;split at b
   . rename_i n j g;obtain⟨B,f,g2⟩:=WW h w u g;rw[f];simp only;split at b
     . rename_i l' z t;cases b;obtain⟨y,q,s⟩:=ih g2.ag k t;exact⟨y,by rw[q],g2.trans s⟩
     . cases b
   . cases b
  |_=>exact d ak
theorem Px(h:Ag G A σ σ')(u:rE G A x)(d:tk G x σ=some (res,τ)):∃τ',tk G x σ'=some (res,τ')/\Mv G A σ σ' τ τ':=by
 cases x with
 |c a=>simp only[tk,AAC,AAQ]at d |-;obtain⟨rfl,rfl⟩:=d;exact⟨σ',⟨rfl,rfl⟩,.refl h⟩
 |t s=>
  have e:Cl G A s:=u;have q:=h.eq s e.own;have f:=h.ri s e.own;simp only[tk]at d |-;rw[q];cases hv:σ s with
  |al r p=>rw[hv]at d f;simp only[KB,AAb]at f;obtain⟨g,o⟩:=e.rt r f;exact WW h g o d
  |own b k rows=>rw[hv]at d;cases d;exact⟨_,rfl,h.kup e.own e.OM ak⟩
  |agg cs=>
   rw[hv]at d f;simp only at d |-;split at d
   . rename_i i;cases d;rw[AAL i];exact⟨σ',rfl,.refl h⟩
   . rename_i i;rw[AAK i];split at d
     . rename_i l w g;cases d;have m:=h.kup (t:=.dead) e.own e.OM ak;obtain⟨τ',n,g2⟩:=tkL_loc cs m.ag (by
        intro r p j;rw[KA,AAH]at f
        have:=f _ j;simp only[KB,AAb]at this;exact e.rt r this) g
       exact⟨τ',by rw[n],m.trans g2⟩
     . cases d
  |sc=>rw[hv]at d;cases d;exact⟨σ',rfl,.refl h⟩
  |sl=>rw[hv]at d;cases d;exact⟨σ',rfl,.refl h⟩
  |Kk=>rw[hv]at d;cases d;exact⟨σ',rfl,.refl h⟩
  |fp=>rw[hv]at d;cases d;exact⟨σ',rfl,.refl h⟩
  |_=>rw[hv]at d;cases d
theorem q6(c:ek):∀{σ σ' τ:Sg}{l:dm},Ag G A σ σ'->(∀x∈c,rE G A x)->Mw G c σ=some (l,τ)->∃τ',Mw G c σ'=some (l,τ')/\Mv G A σ σ' τ τ':=by
 induction c with
 |nil=>intro σ σ' τ l h _ b;simp only[Mw,AAC,AAQ]at b |-;obtain⟨rfl,rfl⟩:=b;exact⟨σ',⟨rfl,rfl⟩,.refl h⟩
 |cons x c ih=>
  intro σ σ' τ l h d b;simp only[Mw]at b |-;split at b
  . rename_i a n i;obtain⟨p,e,g2⟩:=Px h (d x ak) i;rw[e];simp only;split at b
    . rename_i l' o j;cases b;obtain⟨m,f,g⟩:=ih g2.ag (λy k=>d y (by simp[k])) j;exact⟨m,by rw[f],g2.trans g⟩
    . cases b
  . cases b
theorem zG(c:ek):∀{σ σ' τ:Sg}{l:dm},Ag G A σ σ'->(∀x∈c,rE G A x)->Q9 G c σ=some (l,τ)->∃τ',Q9 G c σ'=some (l,τ')/\Mv G A σ σ' τ τ':=by
 induction c with
 |nil=>intro σ σ' τ l h _ b;simp only[Q9,AAC,AAQ]at b |-;obtain⟨rfl,rfl⟩:=b;exact⟨σ',⟨rfl,rfl⟩,.refl h⟩
 |cons x c ih=>
  intro σ σ' τ l h d b;simp only[Q9]at b |-;split at b
  . rename_i a n i;obtain⟨p,e,g2⟩:=Px h (d x ak) i;rw[e];simp only;split at b
    . rename_i l' o j;cases b;obtain⟨m,f,g⟩:=ih g2.ag (λy k=>d y (by simp[k])) j;exact⟨m,by rw[f],g2.trans g⟩
    . cases b
  . cases b
theorem bldL_loc(c:gv):∀{σ σ' τ:Sg}{d l:dm},Ag G A σ σ'->(∀p∈c,rE G A p.2.2)->VS G c d σ=some (l,τ)->∃τ',VS G c d σ'=some (l,τ')/\Mv G A σ σ' τ τ':=by
 induction c with
 |nil=>intro σ σ' τ d l h _ b;simp only[VS,AAC,AAQ]at b |-;obtain⟨rfl,rfl⟩:=b;exact⟨σ',⟨rfl,rfl⟩,.refl h⟩
 |cons p c ih=>
  obtain⟨off,n,x⟩:=p;intro σ σ' τ d l h e b;simp only[VS]at b |-;split at b
  . rename_i a q j;obtain⟨r,f,g2⟩:=Px h (e _ (ABD ..)) j;rw[f];simp only;split at b
    . rename_i k;rw[AAL k];obtain⟨o,g,i⟩:=ih g2.ag (λy m=>e y (by simp[m])) b;exact⟨o,g,g2.trans i⟩
    . cases b
  . cases b
theorem bslL_loc(k:Nat)(c:iy):∀{σ σ' τ:Sg}{d l:dn},Ag G A σ σ'->(∀p∈c,rE G A p.2)->VU G k c d σ=some (l,τ)->∃τ',VU G k c d σ'=some (l,τ')/\Mv G A σ σ' τ τ':=by
 induction c with
 |nil=>intro σ σ' τ d l h _ b;simp only[VU,AAC,AAQ]at b |-;obtain⟨rfl,rfl⟩:=b;exact⟨σ',⟨rfl,rfl⟩,.refl h⟩
 |cons p c ih=>
  obtain⟨i,x⟩:=p;intro σ σ' τ d l h e b;simp only[VU]at b |-;split at b
  . rename_i a r m;obtain⟨s,f,g2⟩:=Px h (e _ (ABD ..)) m;rw[f];simp only;split at b
    . rename_i n;rw[AAL n];obtain⟨q,g,j⟩:=ih g2.ag (λy o=>e y (by simp[o])) b;exact⟨q,g,g2.trans j⟩
    . cases b
  . cases b
theorem appY_loc(h:Ag G A σ σ')(q:rE G A y)(d:Wq G k y σ=some (rows,τ)):∃τ',Wq G k y σ'=some (rows,τ')/\Mv G A σ σ' τ τ':=by
 cases y with
 |c a=>
  simp only[Wq]at d |-;split at d
  . cases d;exact⟨σ',rfl,.refl h⟩
  . cases d
 |t s=>
  have f:Cl G A s:=q;have o:=h.eq s f.own;have i:=h.ri s f.own;simp only[Wq]at d |-;rw[o];cases hv:σ s with
  |own b k' rows'=>
   rw[hv]at d;cases b with
   |true=>cases d
   |false=>
    simp only at d |-;split at d
    . rename_i g;cases d;rw[AAL g];exact⟨_,rfl,h.kup f.own f.OM ak⟩
    . cases d
  |sl e k' rows'=>
   rw[hv]at d;simp only at d |-;split at d
   . rename_i g;cases d;rw[AAL g];exact⟨_,rfl,.refl h⟩
   . cases d
  |al r p=>
   rw[hv]at d i;simp only[KB,AAb]at i;obtain⟨l,m⟩:=f.rt r i;simp only at d |-;split at d
   . rename_i n;obtain⟨u,j,g2⟩:=Sc h l m n;rw[j];simp only;split at d
     . rename_i g;cases d;rw[AAL g];exact⟨_,rfl,g2⟩
     . cases d
   . cases d
  |_=>rw[hv]at d;cases d
theorem gJ(h:Ag G A σ σ')(q:rE G A x)(d:VQ G k x σ=some (res,τ)):∃τ',VQ G k x σ'=some (res,τ')/\Mv G A σ σ' τ τ':=by
 cases x with
 |c a=>
  simp only[VQ]at d |-;split at d
  . cases d;exact⟨σ',rfl,.refl h⟩
  . cases d
 |t s=>
  have f:Cl G A s:=q;have o:=h.eq s f.own;have i:=h.ri s f.own;simp only[VQ]at d |-;rw[o];cases hv:σ s with
  |own b k' rows'=>
   rw[hv]at d;cases b with
   |true=>cases d
   |false=>
    simp only at d |-;split at d
    . rename_i g;cases d;rw[AAL g];exact⟨_,rfl,h.kup f.own f.OM ak⟩
    . cases d
  |sl e k' rows'=>
   rw[hv]at d;cases e with
   |false=>cases d
   |true=>
    simp only at d |-;split at d
    . rename_i g;cases d;rw[AAL g];exact⟨_,rfl,.refl h⟩
    . cases d
  |al r p=>
   rw[hv]at d i;simp only[KB,AAb]at i;obtain⟨l,m⟩:=f.rt r i;simp only at d |-;split at d
   . rename_i n;obtain⟨u,j,g2⟩:=WW h l m n;rw[j];simp only;split at d
     . rename_i g;cases d;rw[AAL g];exact⟨_,rfl,g2⟩
     . cases d
   . cases d
  |_=>rw[hv]at d;cases d
end
section
variable{G:Gi}{A:de}{σ σ' τ τ':Sg}{P:Program}
def VM(G:Gi)(A:de):Ar->Prop
 | .t s=>A s/\∀r∈G.Gv s,A r
 | .c a=>Fj [] a=true
def Cl.look(h:Cl G A s):VM G A (.t s):=⟨h.own,λr a=>(h.rt r a).1⟩
theorem rE.look(h:rE G A x):VM G A x:=by
 cases x with
 |t s=>exact Cl.look h
 |c=>exact h
theorem Ag.ar(h:Ag G A σ σ')(a:VM G A x):ar σ' x=ar σ x:=by
 cases x with
 |t s=>exact h.eq s a.1
 |c=>rfl
theorem Ag.root(h:Ag G A σ σ')(a:VM G A (.t s))(b:σ s= .al r p):A r:=by have:=h.ri s a.1;rw[b]at this;simp only[KB,AAb]at this;exact a.2 r this
theorem Ag.rootAdr(h:Ag G A σ σ')(a:VM G A (.t s))(b:σ s= .Kk r p n m k):A r:=by have:=h.ri s a.1;rw[b]at this;simp only[WR,AAb]at this;exact a.2 r this
theorem Ag.hd(h:Ag G A σ σ')(a:VM G A x):hd σ' x=hd σ x:=by
 cases x with
 |c=>rfl
 |t s=>
  unfold Abs.hd;simp only;rw[h.eq s a.1];cases hs:σ s with
  |al r p=>simp only;rw[h.eq r (h.root a hs)]
  |_=>rfl
theorem Ag.EE(h:Ag G A σ σ')(a:VM G A x):EE σ' x=EE σ x:=by
 cases x with
 |c=>rfl
 |t s=>
  unfold Abs.EE;simp only;rw[h.eq s a.1];cases hs:σ s with
  |al r p=>simp only;rw[h.eq r (h.root a hs)]
  |own b k rows=>cases b<;>rfl
  |_=>rfl
theorem Ag.Ng(h:Ag G A σ σ')(d:VM G A x)(a:Abs.EE σ x=some (r,p,n,m,k)):A r:=by
 cases x with
 |c=>cases a
 |t s=>
  unfold Abs.EE at a;simp only at a;cases hs:σ s with
  |al r' p'=>
   rw[hs]at a;simp only at a;split at a
   . cases a;exact h.root d hs
   . cases a
  |Kk r' p' i' j' k'=>rw[hs]at a;cases a;exact h.rootAdr d hs
  |own b k' rows=>rw[hs]at a;cases b<;>cases a;exact d.1
  |_=>rw[hs]at a;cases a
theorem Ag.NQ(h:Ag G A σ σ')(a:∀y,lo'=some y->VM G A y)(d:Nat):NQ σ' lo' d=NQ σ lo' d:=by
 cases lo' with
 |none=>rfl
 |some y=>simp only[Abs.NQ];rw[h.ar (a y rfl)]
theorem Ag.mxI(h:Ag G A σ σ')(a:∀y,lo'=some y->VM G A y)(d:Nat):mxI σ' lo' d=mxI σ lo' d:=by
 cases lo' with
 |none=>rfl
 |some y=>simp only[Abs.mxI];rw[h.NQ a]
def reads:Yv->List Ar
 | .cp x=>[x]
 | .pick c a b=>[c,a,b]
 | .ld _ _ a=>[a]
 | .Ul _ x=>[x]
 | .fld _ _ _ x=>[x]
 | .WX _ x i=>[x,i]
 | .aad _ _ x i=>[x,i]
 | .idx _ _ _ x i=>[x,i]
 | .bin _ x y=>[x,y]
 | .beq _ x y=>[x,y]
 | .un _ x=>[x]
 | .cvt _ x=>[x]
 | .mm _ x y=>[x,y]
 | .len x=>[x]
 | .Zc x=>[x]
 | .lS x i=>[x,i]
 | .lR _ _ x y=>[x,y]
 | .ext x _=>[x]
 | .flk x _=>[x]
 | .mk _ _ _ l c=>[l,c]
 | .Jp x=>[x]
 | .std x=>[x]
 | .mkf _ xs=>xs
 | .Xn a=>[a]
 | .jQ r _ _ _ i=>[.t r,i]
 | .slc _ _ _ lo hi mx=>lo.toList++hi.toList++mx.toList
 | .call _ args m=>if m=1\/m=3\/m=4 then[]else args
 | .Uv _ pre _ _ post=>pre++post
 |_=>[]
def bh{p:Prop}(h:p:=by simp[reads]):p:=h
def takes:Yv->List Ar
 | .mv x=>[x]
 | .fz x=>[x]
 | .bx _ x=>[x]
 | .T2 _ ps=>ps.map (·.2.2)
 | .Nk _ _ ps=>ps.map (·.2)
 | .st _ a v=>[a,v]
 | .WU a v=>[a,v]
 | .app _ _ x y=>[x,y]
 | .slc _ _ x _ _ _=>[x]
 | .call _ args m=>if m=1\/m=3\/m=4 then args else[]
 | .Uv _ _ x _ _=>[x]
 |_=>[]
def br{p:Prop}(h:p:=by simp[takes]):p:=h
theorem Ag.valOf(h:Ag G A σ σ')(o:Yv)(d:∀x∈reads o,VM G A x):valOf o σ'=valOf o σ:=by
 cases o with
 |cp x=>
  cases x with
  |c=>rfl
  |t s=>simp only[Abs.valOf];rw[h.eq s (d (.t s) bh).1]
 |pick c a b=>
  have g:=h.ar (d c bh);have m:=h.ar (d a bh);have w:=h.ar (d b bh);simp only[Abs.valOf];rw[g];cases Abs.ar σ c with
  |sc v=>
   cases v with
   |bool x=>cases x<;>simp[m,w]
   |_=>rfl
  |_=>rfl
 |ld agg n a=>
  cases a with
  |c=>rfl
  |t s=>
   have e:=d (.t s) bh;simp only[Abs.valOf];rw[h.eq s e.1];cases hs:σ s with
   |fp=>rfl
   |vb q o us=>have z:A q:=(by have:=h.ri s e.1;rw[hs]at this;simp only[rin_vb,AAb]at this;exact e.2 q this);simp only;rw[h.eq q z]
   |_=>
    simp only;rw[h.EE e];cases ha:Abs.EE σ (.t s)with
    |none=>rfl
    |some q=>obtain⟨r,p,i,j,k⟩:=q;simp only;rw[h.eq r (h.Ng e ha)]
 |Ul off x=>
  cases x with
  |c=>rfl
  |t s=>have e:=d (.t s) bh;simp only[Abs.valOf];rw[h.eq s e.1,h.EE e]
 |fld agg off n x=>
  cases x with
  |c=>rfl
  |t s=>have e:=d (.t s) bh;simp only[Abs.valOf];rw[h.eq s e.1]
 |WX k x i=>simp only[Abs.valOf];rw[h.hd (d x bh),h.ar (d i bh)]
 |aad len k x i=>
  cases x with
  |c=>rfl
  |t s=>
   have e:=d (.t s) bh;simp only[Abs.valOf];rw[h.ar (d i bh)];cases nJ (Abs.ar σ i)with
   |none=>rfl
   |some n=>simp only;rw[h.eq s e.1,h.EE e]
 |idx agg len k x i=>
  cases x with
  |c=>rfl
  |t s=>
   have e:=d (.t s) bh;simp only[Abs.valOf];rw[h.ar (d i bh)];cases nJ (Abs.ar σ i)with
   |none=>rfl
   |some n=>simp only;rw[h.eq s e.1]
 |bin op x y=>simp only[Abs.valOf];rw[h.ar (d x bh),h.ar (d y bh)]
 |beq op x y=>simp only[Abs.valOf];rw[h.ar (d x bh),h.ar (d y bh)]
 |un op x=>simp only[Abs.valOf];rw[h.ar (d x bh)]
 |cvt op x=>simp only[Abs.valOf];rw[h.ar (d x bh)]
 |mm mx x y=>simp only[Abs.valOf];rw[h.ar (d x bh),h.ar (d y bh)]
 |len x=>simp only[Abs.valOf];rw[h.hd (d x bh)]
 |Zc x=>simp only[Abs.valOf];rw[h.ar (d x bh)]
 |lR neg kd x y=>simp only[Abs.valOf];rw[h.ar (d x bh),h.ar (d y bh)]
 |lS x y=>simp only[Abs.valOf];rw[h.ar (d x bh),h.ar (d y bh)]
 |ext x i=>
  cases x with
  |c=>rfl
  |t s=>simp only[Abs.valOf];rw[h.eq s (d (.t s) bh).1]
 |mkf f xs=>
  have key:∀l:List Ar,(∀x∈l,VM G A x)->SP σ' l=SP σ l:=by
   intro l;induction l with
   |nil=>intro _;rfl
   |cons x l ih=>
    intro e;have g:=e x ak;have m:=ih λy B=>e y (by simp[B]);cases x with
    |c=>rfl
    |t s=>
     simp only[SP];rw[h.eq s g.1,m];cases hs:σ s with
     |al r p=>cases SP σ l<;>first|rfl| (simp only;rw[h.eq r (h.root g hs)])
     |own b k rows=>cases b<;>cases SP σ l<;>rfl
     |_=>cases SP σ l<;>rfl
  simp only[Abs.valOf];rw[key xs (λx u=>d x (by simpa[reads]using u))]
 |fl=>rfl
 |flk x i=>
  cases x with
  |c=>rfl
  |t s=>simp only[Abs.valOf];rw[h.eq s (d (.t s) bh).1]
 |jQ r off kb k i=>simp only[Abs.valOf];rw[h.eq r (d (.t r) bh).1,h.ar (d i bh)]
 |Xn a=>
  have e:=d a bh;simp only[Abs.valOf];rw[h.EE e];cases ha:Abs.EE σ a with
  |none=>rfl
  |some q=>obtain⟨r,p,i,j,k⟩:=q;simp only;rw[h.eq r (h.Ng e ha)]
 |Jp x=>
  have e:=d x bh;simp only[Abs.valOf];rw[h.ar e];cases x with
  |c a=>
   cases a with
   |al r p=>simp[VM]at e
   |own b k rows=>cases b<;>rfl
   |_=>rfl
  |t s=>
   simp only[Abs.ar];cases hs:σ s with
   |al r p=>simp only;rw[h.eq r (h.root e hs)]
   |own b k rows=>cases b<;>rfl
   |_=>rfl
 |_=>rfl
variable{W:de}
theorem Sr(kl:dF)(d:Nat)(σ:Sg)(s:Nat):JW kl d σ s=if s∈kl then Df d (σ s)else σ s:=by cases kl<;>simp[JW]
def Ag.mono(h:Ag G R σ σ')(b:∀s,A s->R s):Ag G A σ σ':=⟨λs a=>h.eq s (b s a),λs a=>h.ri s (b s a)⟩
theorem Mv.wr{g:Sg}(h:Mv G W σ σ' τ τ')(hd:W d.d/\d.rs=G.Gv d.d)(k:∀x∈d.kl,W x)(c:wr d res τ=some g):∃b,wr d res τ'=some b/\Mv G W σ σ' g b:=by
 unfold Abs.wr at c |-;split at c
 . rename_i f;cases c;rw[AAL f];refine⟨_,rfl,⟨λs a=> ?_,λs a=> ?_⟩,λs a=> ?_⟩
   . simp only[DZ,Sr,h.ag.eq s a]
   . simp only[DZ,Sr];split
     . rename_i e;subst e;rw[<- hd.2];exact f
     . split
       . exact N9 _ _ _ (h.ag.ri s a)
       . exact h.ag.ri s a
   . have i:s≠d.d:=λe=>a (e▸hd.1);have j:s∉d.kl:=λe=>a (k s e);simp only[DZ,i,AAT,Sr,j];exact h.off s a
 . cases c
theorem tY(p:di)(i k:Nat)(a:dm):∀{j:Nat}{t b:AV},stC p i k j a t=some b->Fj L t=true->a.all FN=true->Fj L b=true:=by
 induction a with
 |nil=>intro j t b h e _;simp only[stC,AAC]at h;subst h;exact e
 |cons c a ih=>
  intro j t b h e d;simp only[AAy,AAD]at d;simp only[stC]at h;split at h
  . rename_i g f;exact ih h (WT _ f e (gY d.1)) d.2
  . cases h
def HasD(G:Gi)(W:de)(d:dD):Prop:=∀x,d=some x->(W x.d/\x.rs=G.Gv x.d)/\∀y∈x.kl,W y
theorem eff_loc(h:Ag G R σ σ')(hWR:∀s,W s->R s){o:Yv}(L:∀x∈takes o,rE G W x)(Q:∀x∈reads o,VM G R x)(hd:HasD G W dst)(f:GO G o dst σ=some τ):
 ∃τ',GO G o dst σ'=some τ'/\Mv G W σ σ' τ τ':=by
 have g:Ag G W σ σ':=h.mono hWR;have val:∀S,dst=some S->(match Abs.valOf o σ with|some v=>Abs.wr S v σ|none=>none)=some τ->∃τ',(match Abs.valOf o σ' with|some v=>Abs.wr S v σ'|none=>none)=some τ'/\Mv G W σ σ' τ τ':=by
  intro S SE f;rw[h.valOf o Q];cases hv:Abs.valOf o σ with
  |none=>rw[hv]at f;cases f
  |some v=>rw[hv]at f;exact(Mv.refl g).wr (hd S SE).1 (hd S SE).2 f
 cases dst with
 |none=>
  cases o with
  |st n a v=>
   simp only[GO]at f |-;split at f
   . rename_i x w B;obtain⟨M,C,g2⟩:=Px g (L v br) B;rw[C];simp only;have O:=(L a br).look;rw[g2.ag.EE O];split at f
     . rename_i r p i j k D;have P:W r:=g2.ag.Ng O D;have T:∀x∈G.OM r,W x:=by
        have Jc:=L a br;cases a with
        |c=>cases D
        |t s=>
         have E:Cl G W s:=Jc;simp only[Abs.EE]at D;have H:=g2.ag.ri s E.own;cases hs:w s with
         |al r' p'=>
          rw[hs]at D H;simp only at D;simp only[KB,AAb]at H;split at D
          . cases D;exact(E.rt _ H).2
          . cases D
         |Kk r' p' i' j' Z=>rw[hs]at D H;cases D;simp only[WR,AAb]at H;exact(E.rt _ H).2
         |own b Z rows=>rw[hs]at D;cases b<;>cases D;exact E.OM
         |_=>rw[hs]at D;cases D
       rw[g2.ag.eq r P];split at f
       . rename_i b0 k0 rows Bw;split at f
         . rename_i row D1;split at f
           . rename_i K;rw[AAL K];split at f
             . rename_i t CP;have ZI:Fj (G.Gv r) t=true:=tY p i k _ CP (g2.ag.ri r P) K.2.1;split at f
               . rename_i V;cases f;rw[AAL V];exact⟨_,rfl,(g2.trans (g2.ag.up P ZI))⟩
               . rename_i V;cases f;rw[AAK V];exact⟨_,rfl,(g2.trans (g2.ag.kup P T ZI))⟩
             . cases f
           . cases f
         . cases f
       . cases f
     . cases f
   . cases f
  |WU a v=>
   have O:=(L a br).look;simp only[GO]at f |-;rw[g.ar (L v br).look,g.EE O];split at f
   . rename_i u hu;split at f
     . rename_i r p i j k D;have P:W r:=g.Ng O D;rw[g.eq r P];split at f
       . rename_i b0 k0 rows Bw;split at f
         . rename_i row D1;split at f
           . rename_i u0 hc0;split at f
             . rename_i t CP;have ZI:Fj (G.Gv r) t=true:=tY p i k [.sc u] (j:=j) (by simp only[stC];rw[CP]) (g.ri r P) (by simp[FN]);cases f;exact⟨_,rfl,g.up P ZI⟩
             . cases f
           . cases f
         . cases f
       . cases f
     . cases f
   . cases f
  |std a=>
   simp only[GO]at f |-;have O:=Q a bh;rw[h.EE O];split at f
   . rename_i r p i j k D;rw[h.eq r (h.Ng O D)];split at f
     . cases f;exact⟨σ',rfl,Mv.refl g⟩
     . cases f
   . cases f
  |_=>simp[GO]at f
 |some dst=>
  obtain⟨J,I⟩:=hd dst rfl;cases o with
  |mv x=>
   simp only[GO]at f |-;split at f
   . rename_i v w B;obtain⟨M,C,g2⟩:=Px g (L x br) B;rw[C];exact g2.wr J I f
   . cases f
  |fz x=>
   cases x with
   |c=>simp[GO]at f
   |t s=>
    have E:Cl G W s:=L (.t s) br;have H:=g.ri s E.own;simp only[GO]at f |-;rw[g.eq s E.own];cases hs:σ s with
    |al r p=>
     rw[hs]at f H;simp only[KB,AAb]at H;simp only at f |-;split at f
     . rename_i v w B;obtain⟨M,C,g2⟩:=Sc g (E.rt r H).1 (E.rt r H).2 B;rw[C];exact g2.wr J I f
     . cases f
    |own b k rows=>
     rw[hs]at f;simp only at f |-;split at f
     . rename_i v w B;obtain⟨M,C,g2⟩:=Sc g E.own E.OM B;rw[C];exact g2.wr J I f
     . cases f
    |sc v=>rw[hs]at f;exact(Mv.refl g).wr J I f
    |sl e k rows=>rw[hs]at f;exact(Mv.refl g).wr J I f
    |_=>rw[hs]at f;cases f
  |bx n x=>
   simp only[GO]at f |-;split at f
   . rename_i v w B;obtain⟨M,C,g2⟩:=Px g (L x br) B;rw[C];simp only;split at f
     . rename_i K;rw[AAL K];exact g2.wr J I f
     . cases f
   . cases f
  |T2 z ps=>
   simp only[GO]at f |-;split at f
   . rename_i v w B;obtain⟨M,C,g2⟩:=bldL_loc ps g (λp hp=>L _ (by simp only[takes,ABO];exact⟨p,hp,rfl⟩)) B;rw[C];exact g2.wr J I f
   . cases f
  |Nk k z ps=>
   simp only[GO]at f |-;split at f
   . rename_i v w B;obtain⟨M,C,g2⟩:=bslL_loc k ps g (λp hp=>L _ (by simp only[takes,ABO];exact⟨p,hp,rfl⟩)) B;rw[C];exact g2.wr J I f
   . cases f
  |mk k bytes z l c=>
   simp only[GO]at f |-;rw[h.ar (Q l bh),h.ar (Q c bh)];split at f
   . rename_i l' c' B N;split at f
     . rename_i K;rw[AAL K];exact(Mv.refl g).wr J I f
     . cases f
   . cases f
  |slc k fr x lo hi mx=>
   have U:=L x br;have hlo:∀y,lo=some y->VM G R y:=λy X=>Q y (by simp[reads,X]);have hhi:∀y,hi=some y->VM G R y:=λy X=>Q y (by simp[reads,X]);have hmx:∀y,mx=some y->VM G R y:=λy X=>Q y (by simp[reads,X]);simp only[GO]at f |-;rw[g.hd U.look];have eo:∀dst,Abs.NQ σ' lo dst=Abs.NQ σ lo dst:=h.NQ hlo;have eh:∀dst,Abs.NQ σ' hi dst=Abs.NQ σ hi dst:=h.NQ hhi;have em:∀dst,Abs.mxI σ' mx dst=Abs.mxI σ mx dst:=h.mxI hmx;simp only[eo,eh,em];split at f
   . rename_i e Z rows q F
     try rw[F]
     try simp only
     split at f
     . rename_i l hh B N
       try rw[B,N]
       try simp only
       split at f
       . rename_i rs m h3 h4
         try rw[h3,h4]
         try simp only
         split at f
         . rename_i K;rw[AAL K];exact(Mv.refl g).wr J I f
         . cases f
       . cases f
     . cases f
   . rename_i Z rows r p F;have Ur:W r/\∀x∈G.OM r,W x:=by
      cases x with
      |c a=>cases a<;>cases F
      |t s=>
       have E:Cl G W s:=U;have H:=g.ri s E.own;simp only[Abs.hd]at F;cases hs:σ s with
       |al r' p'=>
        rw[hs]at F H;simp only[KB,AAb]at H;simp only at F;split at F
        . cases F;exact E.rt _ H
        . cases F
       |own b k rows=>rw[hs]at F;cases F;exact⟨E.own,E.OM⟩
       |sl=>rw[hs]at F;cases F
       |_=>rw[hs]at F;cases F
     try rw[F]
     try simp only
     split at f
     . rename_i l hh B N
       try rw[B,N]
       try simp only
       split at f
       . rename_i rs m h3 h4
         try rw[h3,h4]
         try simp only
         split at f
         . rename_i K;rw[AAL K];split at f
           . rename_i hf;rw[AAL hf];split at f
             . rename_i v w h5;obtain⟨M,C,g2⟩:=Sc g Ur.1 Ur.2 h5;rw[C];exact g2.wr J I f
             . cases f
           . rename_i hf;rw[AAK hf];split at f
             . rename_i V;rw[AAL V];split at f
               . rename_i v w h5;obtain⟨M,C,g2⟩:=WW g Ur.1 Ur.2 h5;rw[C];exact g2.wr J I f
               . cases f
             . cases f
         . cases f
       . cases f
     . cases f
   . cases f
  |app k bytes x y=>
   simp only[GO]at f |-;split at f
   . rename_i ys w B;obtain⟨M,C,g2⟩:=appY_loc g (L y br) B;rw[C];simp only;split at f
     . rename_i b Z rows τ2 N;obtain⟨zQ,g3,g4⟩:=gJ g2.ag (L x br) N;rw[g3];simp only;split at f
       . rename_i K;rw[AAL K];exact(g2.trans g4).wr J I f
       . cases f
     . rename_i e Z rows τ2 N;obtain⟨zQ,g3,g4⟩:=gJ g2.ag (L x br) N;rw[g3];simp only;split at f
       . rename_i hq;rw[AAL hq];exact(g2.trans g4).wr J I f
       . rename_i hq;rw[AAK hq];split at f
         . rename_i K;rw[AAL K];exact(g2.trans g4).wr J I f
         . cases f
     . cases f
   . cases f
  |st=>simp[GO,Abs.valOf]at f
  |call=>simp[GO,Abs.valOf]at f
  |bad=>simp[GO,Abs.valOf]at f
  |_=>exact val dst rfl f
end
section
variable{G:Gi}{A:de}{σ σ' τ τ':Sg}{P:Program}
theorem OE{τ:Sg}:C2 dst res K τ↔∃a,C2 dst res (· =a) τ/\K a:=by
 cases dst with
 |none=>simp[C2]
 |some dst=>simp only[C2];split<;>simp
theorem Zv:ED P G io K σ↔∃τ,ED P G io (· =τ) σ/\K τ:=by
 unfold ED;split
 . split
   . constructor
     . rintro⟨a,c,b⟩;split at b
       . obtain⟨e,g,g2⟩:=OE.1 b;rename_i v i;exact⟨e,⟨a,c,by rw[i];exact g⟩,g2⟩
       . exact b.elim
     . rintro⟨e,⟨a,c,b⟩,f⟩;refine⟨a,c,?_⟩;split at b
       . rename_i v i;exact OE.2 ⟨e,b,f⟩
       . exact b.elim
   . simp
 . split
   . split
     . constructor
       . rintro⟨a,out,u,c,b,f,h,d⟩;split at d
         . obtain⟨e,g,g2⟩:=OE.1 d;rename_i t k;exact⟨e,⟨a,out,u,c,b,f,h,by rw[k];exact g⟩,g2⟩
         . exact d.elim
       . rintro⟨e,⟨a,out,u,c,b,f,h,d⟩,j⟩;refine⟨a,out,u,c,b,f,h,?_⟩;split at d
         . exact OE.2 ⟨e,d,j⟩
         . exact d.elim
     . simp
   . simp
 . split<;>simp
theorem O6:Kl P G io K σ↔∃τ,Kl P G io (· =τ) σ/\K τ:=by
 unfold Kl;split
 . exact Zv
 . split
   . split
     . exact Zv
     . split<;>simp
   . split<;>simp
   . simp
theorem RF(a:eP):∀{σ:Sg}{K:dg},Nh P G a K σ->∃q:Nat->Sg,q 0=σ/\(∀i io,a[i]? =some io->Kl P G io (· =q (i+1)) (q i))/\K (q a.length):=by
 induction a with
 |nil=>intro σ K h;exact⟨λ_=>σ,rfl,ak,h⟩
 |cons o os ih=>
  intro σ K h;obtain⟨τ,d,e⟩:=O6.1 h;obtain⟨q,b,g2,c⟩:=ih e;refine⟨λi=>match i with|0=>σ|i+1=>q i,rfl,?_,c⟩
  intro i io hi;cases i with
  |zero=>simp only[AAt,AAC]at hi;subst hi;simp only[b];exact d
  |succ i=>simp only[AAu]at hi;exact g2 i io hi
theorem Ag.TL(h:Ag G A σ σ'){a:AV}(c:∀r p,a= .al r p->A r):TL σ' a=TL σ a:=by
 cases a with
 |al r p=>simp only[Abs.TL];rw[h.eq r (c r p rfl)]
 |own b k rows=>cases b<;>first|rfl| (match rows with|[]=>rfl|[_]=>rfl|_::_::_=>rfl)
 |_=>rfl
theorem Ag.rdL(h:Ag G A σ σ')(b:dm):(∀r p,AV.al r p∈b->A r)->rdL σ' b=rdL σ b:=by
 induction b with
 |nil=>intro _;rfl
 |cons a b ih=>intro c;simp only[Abs.rdL];rw[h.TL (a:=a) (λr p e=>c r p (by simp[e])),ih (λr p d=>c r p (by simp[d]))]
theorem Ag.kN(h:Ag G A σ σ')(d:VM G A x):kN σ' (Abs.ar σ' x)=kN σ (Abs.ar σ x):=by
 rw[h.ar d];cases x with
 |c a=>
  simp only[Abs.ar];cases a with
  |agg cs=>
   simp only[Abs.kN];rw[h.rdL cs (λr p g=>by
    have f:Fj [] (.agg cs)=true:=d;rw[KA,AAH]at f
    have:=f _ g;simp at this)]
  |al r p=>have f:Fj [] (.al r p)=true:=d;simp at f
  |own b k rows=>cases b<;>first|rfl| (match rows with|[]=>rfl|[_]=>rfl|_::_::_=>rfl)
  |_=>rfl
 |t s=>
  simp only[Abs.ar];cases hs:σ s with
  |agg cs=>
   simp only[Abs.kN];rw[h.rdL cs (λr p g=>by
    have:=h.ri s d.1;rw[hs,KA,AAH]at this
    have:=this _ g;simp only[KB,AAb]at this;exact d.2 r this)]
  |al r p=>simp only[Abs.kN];exact h.TL (λi p' e=>by cases e;exact h.root d hs)
  |own b k rows=>cases b<;>first|rfl| (match rows with|[]=>rfl|[_]=>rfl|_::_::_=>rfl)
  |_=>rfl
theorem Ag.Jt(h:Ag G A σ σ')(a:ek):(∀x∈a,VM G A x)->Jt σ' a=Jt σ a:=by
 induction a with
 |nil=>intro _;rfl
 |cons x a ih=>intro b;simp only[Abs.Jt];rw[h.kN (b x ak),ih (λy c=>b y (by simp[c]))]
theorem Ag.W0(h:Ag G A σ σ')(rs:eu):(∀x∈rs,A x.1)->W0 σ' rs=W0 σ rs:=by
 induction rs with
 |nil=>intro _;rfl
 |cons x rs ih=>obtain⟨r,p⟩:=x;intro b;simp only[Abs.W0];rw[h.TL (a:=.al r p) (λd p' e=>by cases e;exact b (r,p) ak),ih (λy c=>b y (by simp[c]))]
theorem tkLk_loc(g:ek):∀{σ σ' τ:Sg}{b:dm},Ag G A σ σ'->(∀x∈g,rE G A x)->V2 G g σ=some (b,τ)->∃τ',V2 G g σ'=some (b,τ')/\Mv G A σ σ' τ τ':=by
 induction g with
 |nil=>intro σ σ' τ b _ _ a;simp[V2]at a
 |cons y g ih=>
  intro σ σ' τ b h n a;have m:=n y ak;cases g with
  |nil=>
   simp only[V2]at a |-;rw[h.ar m.look];split at a
   . rename_i f rs k;have d:∀x∈rs,A x.1:=by
      intro x i;cases y with
      |c c0=>simp only[Abs.ar]at k;subst k;have j:Fj [] (.cl f rs)=true:=m;simp only[qO,AAH]at j;have:=j x i;simp at this
      |t s=>
       simp only[Abs.ar]at k;have e:Cl G A s:=m
       have:=h.ri s e.own;rw[k,qO,AAH]at this;exact(e.rt x.1 (by simpa using this x i)).1
     rw[h.W0 rs d];split at a
     . rename_i E F;simp only[AAC,AAQ]at a;obtain⟨rfl,rfl⟩:=a;exact⟨σ',rfl,Mv.refl h⟩
     . cases a
   . cases a
  |cons y2 g=>
   simp only[V2]at a |-;split at a
   . rename_i v B u;obtain⟨D,p,g2⟩:=Px h m u;rw[p];simp only;split at a
     . rename_i l C w;simp only[AAC,AAQ]at a;obtain⟨rfl,rfl⟩:=a;obtain⟨z,q,r⟩:=ih g2.ag (λx o=>n x (by simp[o])) w;rw[q];exact⟨z,rfl,g2.trans r⟩
     . cases a
   . cases a
theorem bT{c:Sg}(h:Mv G W σ σ' τ τ')(hd:HasD G W dst)(b:C2 dst res (· =c) τ):∃a,C2 dst res (· =a) τ'/\Mv G W σ σ' c a:=by
 cases dst with
 |none=>cases b;exact⟨τ',rfl,h⟩
 |some dst=>
  simp only[C2]at b |-;split at b
  . rename_i x f;subst b;obtain⟨a,e,g2⟩:=h.wr (hd dst rfl).1 (hd dst rfl).2 f;exact⟨a,by rw[e],g2⟩
  . exact b.elim
theorem Ag.rdF(h:Ag G A σ σ')(b:VM G A x):rdF σ' x=rdF σ x:=by
 cases x with
 |c a=>rfl
 |t s=>simp only[Abs.rdF];rw[h.eq s b.1]
theorem Ag.Ms(h:Ag G A σ σ')(a:ek):(∀x∈a,VM G A x)->Ms σ' a=Ms σ a:=by
 induction a with
 |nil=>intro _;rfl
 |cons x a ih=>intro b;simp only[Abs.Ms];rw[h.rdF (b x ak),ih (λy c=>b y (by simp[c]))]
theorem Ag.Pf(h:Ag G A σ σ')(l:rE G A x)(b:Pf σ x c=some (r,p)):Pf σ' x c=some (r,p)/\(∀n,Su σ' x c n=Su σ x c n)/\A r/\∀y∈G.OM r,A y:=by
 cases x with
 |c a=>cases c<;>simp[Abs.Pf,yI]at b
 |t s=>
  have d:Cl G A s:=l;have f:=h.ri s d.own;have e:σ' s=σ s:=h.eq s d.own;have i:Abs.Pf σ' (.t s) c=Abs.Pf σ (.t s) c:=by cases c<;>simp only[Abs.Pf,yI,e]
  refine⟨by rw[i];exact b,λn=>by cases c<;>simp only[Su,Abs.ar,e],?_⟩;cases c with
  |none=>
   simp only[Abs.Pf,yI]at b;split at b
   . rename_i m p' g;cases b;rw[g]at f;simp only[KB,AAb]at f;exact⟨(d.rt _ f).1,(d.rt _ f).2⟩
   . cases b;exact⟨d.own,d.OM⟩
   . cases b
  |some j=>
   simp only[Abs.Pf]at b;split at b
   . rename_i o g;rw[g]at f;split at b
     . rename_i m p' k;cases b
       have:=(by rw[KA,AAH]at f;exact f _ (AAP k):Fj (G.Gv s) (.al r p)=true);simp only[KB,AAb]at this;exact⟨(d.rt _ this).1,(d.rt _ this).2⟩
     . cases b;exact⟨d.own,d.OM⟩
     . cases b
   . cases b
theorem gQ(h:Ag G R σ σ')(I:∀s,W s->R s)(z:∀x∈takes io.op,rE G W x)(E:∀x∈reads io.op,VM G R x)(hd:HasD G W io.dst)(a:ED P G io (· =τ) σ):
 ∃τ',ED P G io (· =τ') σ'/\Mv G W σ σ' τ τ':=by
 have j:Ag G W σ σ':=h.mono I;have B:∀op,io.op=op->(match GO G op io.dst σ with|some K=>K=τ|none=>False)->∃τ',(match GO G op io.dst σ' with|some K=>K=τ'|none=>False)/\Mv G W σ σ' τ τ':=by
  intro op n a;split at a
  . rename_i K hu;subst a;obtain⟨τ',i,g2⟩:=eff_loc h I (by rw[<- n];exact z) (by rw[<- n];exact E) hd hu;exact⟨τ',by rw[i],g2⟩
  . exact a.elim
 cases n:io.op with
 |call f args m=>
  unfold ED at a |-;rw[n]at a z E |-;simp only at a |-;split at a
  . rename_i F U d;obtain⟨C,N,H⟩:=a;have key:∃g,GN G m args σ'=some (F,g)/\Mv G W σ σ' U g:=by
     by_cases Q:m=1
     . subst Q;simp only[GN]at d |-;obtain⟨g,i,g2⟩:=q6 args j (by simpa[takes]using z) d;exact⟨g,i,g2⟩
     . by_cases q:m=3
       . subst q;simp only[GN]at d |-;obtain⟨g,i,g2⟩:=zG args j (by simpa[takes]using z) d;exact⟨g,i,g2⟩
       by_cases w:m=4
       . subst w;simp only[GN]at d |-;obtain⟨g,i,g2⟩:=tkLk_loc args j (by simpa[takes]using z) d;exact⟨g,i,g2⟩
       have e:∀σ,GN G m args σ=match Abs.Jt σ args with|some l=>some (l,σ)|none=>none:=by
        intro σ;unfold GN;split
        . exact absurd rfl Q
        . exact absurd rfl q
        . exact absurd rfl w
        . rfl
       rw[e]at d |-;rw[h.Jt args (by simpa[reads,Q,q,w]using E)];split at d
       . cases d;exact⟨σ',rfl,Mv.refl j⟩
       . cases d
    obtain⟨g,i,g2⟩:=key;rw[i];simp only;split at H
    . rename_i v hv;obtain⟨D,L,M⟩:=bT g2 hd H;exact⟨D,⟨C,N,by rw[hv];exact L⟩,M⟩
    . exact H.elim
  . exact a.elim
 |Uv f pre x c post=>
  unfold ED at a |-;rw[n]at a z E |-;simp only at a |-;split at a
  . rename_i r p F bs hp ZH Z;obtain⟨e1,e2,T,J⟩:=j.Pf (z x br) hp;rw[e1,h.Ms pre (λy S=>E y (by simp[reads,S])),h.Ms post (λy S=>E y (by simp[reads,S])),ZH,Z];simp only[e2];rw[j.eq r T];split at a
    . rename_i b k rows hs;obtain⟨C,out,u,N,H,X,h4,O⟩:=a;split at O
      . rename_i t V;have ZI:Fj (G.Gv r) t=true:=WT _ V (j.ri r T) (Nj X);obtain⟨D,L,M⟩:=bT (j.kupn _ T J ZI) hd O;exact⟨D,⟨C,out,u,N,H,X,h4,by rw[V];exact L⟩,M⟩
      . exact O.elim
    . exact a.elim
  . exact a.elim
 |_=>unfold ED at a |-;rw[n]at a |-;exact B _ n a
theorem aop_loc(h:Ag G R σ σ')(c:∀s,W s->R s)(l:∀x∈takes io.op,rE G W x)(k:∀x∈reads io.op,VM G R x)(hd:HasD G W io.dst)(q:∀g,io.guard=some g->R g.1)(a:Kl P G io (· =τ) σ):
 ∃τ',Kl P G io (· =τ') σ'/\Mv G W σ σ' τ τ':=by
 have j:Ag G W σ σ':=h.mono c;have skip:(match io.dst with|some d=>DZ (JW d.kl d.d σ) d.d .un=τ|none=>σ=τ)->∃τ',(match io.dst with|some d=>DZ (JW d.kl d.d σ') d.d .un=τ'|none=>σ'=τ')/\Mv G W σ σ' τ τ':=by
  intro a;cases Lw:io.dst with
  |none=>rw[Lw]at a;subst a;exact⟨σ',rfl,Mv.refl j⟩
  |some d=>rw[Lw]at a;subst a;obtain⟨n,p⟩:=hd d Lw;have r:Abs.wr d .un σ=some (DZ (JW d.kl d.d σ) d.d .un):=(by simp[Abs.wr]);obtain⟨t,i,g2⟩:=(Mv.refl j).wr n p r;have f:Abs.wr d .un σ'=some (DZ (JW d.kl d.d σ') d.d .un):=(by simp[Abs.wr]);rw[f]at i;cases i;exact⟨_,rfl,g2⟩
 unfold Kl at a |-;cases hgd:io.guard with
 |none=>rw[hgd]at a;exact gQ h c l k hd a
 |some g=>
  obtain⟨g,m⟩:=g;rw[hgd]at a;simp only at a |-;rw[h.eq g (q _ hgd)];split at a
  . rename_i b u;split at a
    . rename_i e;simp only[AAL e];exact gQ h c l k hd a
    . rename_i e;simp only[AAK e];exact skip a
  . exact skip a
  . exact a.elim
end
section
variable{G:Gi}{P:Program}
def bN(G:Gi):Ar->List Nat
 | .t s=>s::G.OM s++(G.Gv s).flatMap (λr=>r::G.OM r)
 | .c _=>[]
def F9(G:Gi):Ar->List Nat
 | .t s=>s::G.Gv s
 | .c _=>[]
def SB(G:Gi)(o:BP):List Nat:=(takes o.op).flatMap (bN G)++(match o.dst with|some d=>d.d::d.kl|none=>[])
def eG(G:Gi)(o:BP):List Nat:=SB G o++(reads o.op).flatMap (F9 G)++(match o.guard with|some g=>[g.1]|none=>[])
def cOK:Ar->Bool
 | .t _=>true
 | .c a=>Fj [] a
def O7(o:BP):Bool:=(takes o.op).all cOK&&(reads o.op).all cOK
theorem Zs(j:O7 io=true)(n:∀d,io.dst=some d->d.rs=G.Gv d.d)(h:Ag G (· ∈eG G io) σ σ')(k:Kl P G io (· =τ) σ):∃f,Kl P G io (· =f) σ'/\Mv G (· ∈SB G io) σ σ' τ f:=by
 simp only[O7,AAD,AAH]at j;refine aop_loc h (λs m=>by simp only[eG,AAW];exact .inl (.inl m)) ?_ ?_ ?_ ?_ k
 . intro x b;cases x with
   |c a=>exact j.1 _ b
   |t s=>
    have key:∀y∈bN G (.t s),y∈SB G io:=λy e=>(by simp only[SB,AAW,List.mem_flatMap];exact .inl ⟨_,b,e⟩);refine⟨key _ (by simp[bN]),λx b=>key _ (by simp[bN,b]),λr i=>⟨key _ ?_,λx b=>key _ ?_⟩⟩
    . simp only[bN,AAx,AAn,AAW,List.mem_flatMap];exact .inr (.inr ⟨r,i,.inl rfl⟩)
    . simp only[bN,AAx,AAn,AAW,List.mem_flatMap];exact .inr (.inr ⟨r,i,.inr b⟩)
 . intro x b;cases x with
   |c a=>exact j.2 _ b
   |t s=>have key:∀y∈F9 G (.t s),y∈eG G io:=λy e=>(by simp only[eG,AAW,List.mem_flatMap];exact .inl (.inr ⟨_,b,e⟩));exact⟨key _ (by simp[F9]),λr i=>key _ (by simp[F9,i])⟩
 . intro d hd;refine⟨⟨?_,n d hd⟩,λy e=> ?_⟩
   . simp only[SB,hd,AAW];exact .inr (ABD ..)
   . simp only[SB,hd,AAW,AAn];exact .inr (.inr e)
 . intro g l;simp only[eG,l,AAW];exact .inr (ABD ..)
theorem aop_off(c:O7 io=true)(f:∀d,io.dst=some d->d.rs=G.Gv d.d)(b:∀s,Fj (G.Gv s) (σ s)=true)(e:Kl P G io (· =τ) σ):(∀s,s∉SB G io->τ s=σ s)/\∀s,Fj (G.Gv s) (τ s)=true:=by
 obtain⟨g,_,h⟩:=Zs c f (⟨λ_ _=>rfl,λs _=>b s⟩:Ag G (· ∈eG G io) σ σ) e;refine⟨λs a=>(h.off s a).2,λs=> ?_⟩;by_cases a:s∈SB G io
 . exact h.ag.ri s a
 . rw[(h.off s a).2];exact b s
def FE(L:e8)(W:ip)(s:Nat):Nat->Nat
 |0=>0
 |m+1=>if L m=true/\s∈W m then m+1 else FE L W s m
theorem Xk(L:e8)(W:ip)(s m:Nat):FE L W s m<=m:=by
 induction m with
 |zero=>simp[FE]
 |succ m ih=>simp only[FE];split<;>omega
section
variable{q:Nat->Sg}{L L':e8}{W R:ip}{n i:Nat}
theorem lastW_at(hi:L i=false)(o:i<n)(e:∀j s,j<n->s∉W j->q (j+1) s=q j s)(f:∀j s,j<i->s∈W j->s∈R i->L j=true)(d:∀j s,i<j->j<n->s∈W j->s∈R i->L j=true->L i=true)(c:s∈R i):q (FE L W s n) s=q i s:=by
 have:∀m,m<=n->q (FE L W s m) s=q (min m i) s:=by
  intro m;induction m with
  |zero=>intro _;simp[FE]
  |succ m ih=>
   intro p;simp only[FE];by_cases g:m<i
   . rw[show min (m+1) i=m+1 from by omega];by_cases a:s∈W m
     . rw[AAL ⟨f m s g a c,a⟩]
     . rw[AAK (λh=>a h.2),ih ah,show min m i=m from by omega,e m s ah a]
   . rw[AAK,ih ah,show min m i=i from by omega,show min (m+1) i=i from by omega];rintro⟨b,k⟩;by_cases l:m=i
     . subst l;rw[hi]at b;cases b
     . have:=d m s ah ah k c b;rw[hi]at this;cases this
 rw[this n (AAe _),show min n i=i from by omega]
theorem lastW_in(f:i<n)(c:∀j,L' j=(L j||j==i))(hi:L i=false)(e:∀j s,i<j->j<n->s∈W j->s∈W i->L j=true->L i=true)(d:s∈W i):FE L' W s n=i+1:=by
 have:∀m,i<m->m<=n->FE L' W s m=i+1:=by
  intro m;induction m with
  |zero=>intro h;omega
  |succ m ih=>
   intro l o;simp only[FE];by_cases a:m=i
   . subst a;rw[AAL ⟨by simp[c],d⟩]
   . rw[AAK,ih ah ah];rintro⟨b,g⟩;rw[c]at b;have k:L m=true:=by simpa[a]using b
     have:=e m s ah ah g d k;rw[hi]at this;cases this
 exact this n f (AAe _)
theorem xW(a:∀j,L' j=(L j||j==i))(b:s∉W i)(m:Nat):FE L' W s m=FE L W s m:=by
 induction m with
 |zero=>rfl
 |succ m ih=>
  simp only[FE,ih,a];by_cases h:m=i
  . subst h;simp[b]
  . simp[h]
theorem xV(a:∀j,j<n->L j=true)(b:∀j s,j<n->s∉W j->q (j+1) s=q j s)(s:Nat):∀m,m<=n->q (FE L W s m) s=q m s:=by
 intro m;induction m with
 |zero=>intro _;rfl
 |succ m ih=>
  intro c;simp only[FE];by_cases h:s∈W m
  . rw[AAL ⟨a m ah,h⟩]
  . rw[AAK (λx=>h x.2),ih ah,b m s ah h]
end
end
end Go.Abs
