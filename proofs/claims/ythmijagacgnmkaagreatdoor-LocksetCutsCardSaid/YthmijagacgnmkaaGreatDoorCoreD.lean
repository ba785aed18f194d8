/- A calculus of abstract states of Go memory, and that it is sound. -/
import Derived.Test.YthmijagacgnmkaaGreatDoorCoreC
import Derived.Shelf.GgClosure.Gives
import Derived.KernelRfl
import Derived.WalkKit
import Derived.ProofKit
import Derived.OpenShut
import Derived.WideKeyArgs
import Derived.SizedLaws
import Derived.DataReads
import Derived.Below
import Derived.ChangeSame
set_option linter.unusedSimpArgs false
set_option linter.unusedVariables false
namespace Go.Abs
open Go.Proofs Go.Sort Go.RowKit
variable {P:Program}
theorem dN {f g:Nat} {q:Int->Int->Bool}
 (B:∀(lb:Array Value) (p:Int->Bool) (s off cap:Nat) (d:Array Int) (w:World),PredAt P g lb (Value.int .i64) p w->PredOver P g lb (Value.int .i64) p s off d.size w->Holds (Value.int .i64) w s off d->d.size≤9223372036854775807->d.size≤cap->
  Calls P f #[.slice (some ⟨s,off,none⟩) d.size cap,.func (.func g) #[] lb] w λe w'=>e= .returned (.slice (some ⟨s,off,none⟩) (d.toList.filter λx=> !p x).length cap)/\∃q,w'=putRow (Value.int .i64) (Sort.ahead w q) s off ((d.toList.filter λx=> !p x)++List.replicate (d.size-(d.toList.filter λx=> !p x).length) (0:Int)).toArray)
 (l:∀(b off:Nat) (n x:Int) (W:World),W.cell? ⟨b,off,none⟩=some (.int .i64 n)->FnGives P g #[.pointer (some ⟨b,off,none⟩)] #[.int .i64 x] (.bool (q n x)) W)
 (zs:List Int) (n:Int) (Pk:zs≠[]) (hl:zs.length<4611686018427387904):Says P f [.own false 1 (ints zs),.nY g [[si n]]] (.own false 1 (ints (zs.filter λx=> !q n x))):=by
 intro w S ds F _ H M R;obtain⟨d,e,rfl⟩:∃d e,ds=[d,e]:=by
  have D:ds.length=2:=by simpa using congrArg List.length H
  clear H M
  match ds,D with
  |[d,e],_=>exact⟨d,e,rfl⟩
 simp only[AAy,ABF,List.cons.injEq,and_true]at H;obtain⟨hd,C⟩:=H;obtain⟨F1,F2,h1,⟨F3,F4,h3,h4,_,h6⟩,DA,h5⟩:=A8.1 M;obtain⟨v,rfl⟩:∃v,e= .lf (.nY g [[si n]]) v:=by
  cases e with
  |lf a v=>rw[Ei]at C;exact⟨v,by rw[C]⟩
  |own=>simp at C
  |agg=>simp at C
  |BM=>simp at C
 cases h3 with
 |lf _ _ _ fO hF3=>
 obtain⟨vs,rfl,L,J⟩:=fO;obtain⟨u,rfl⟩:∃u,vs=[u]:=by
  match vs,L with
  |[u],_=>exact⟨u,rfl⟩
 obtain⟨j,o,rfl,k,Z⟩:=J 0 [si n] u rfl rfl;obtain⟨u',G,N4⟩:=Z 0 (si n) rfl;cases N4;have X:=R j k;rcases YX h1 hd with⟨I,rfl,LA⟩|⟨b,c,arr,E,I,T,hc,Qy,N,hz,O⟩
 . exact absurd rfl Pk
 . have t:j≠b:=λe=>N (e▸k);have Q:∀x,F x↔F1 x:=λx=>by
    rw[h5 x];refine⟨λh=>h.elim id λh=> ?_,.inl⟩;rcases(h6 x).1 h with h|h
    . exact absurd h (hF3 x)
    . exact absurd h (h4 x)
   simp only[AAy,ABF,I,Kh];have hp:PredAt P g #[.pointer (some ⟨j,o,none⟩)] (Value.int .i64) (q n) w:=λW x hB=>l j o n x W (by rw[hB.cell (p:=⟨j,o,none⟩) X];exact G);have K:PredOver P g #[.pointer (some ⟨j,o,none⟩)] (Value.int .i64) (q n) b 0 zs.toArray.size w:=λm os dk x hdk=>l j o n x _ (by rw[World.cell?_of_block (w:=w) (a:=⟨j,o,none⟩) (by show(sortWorld _ w b 0 m dk os).heap[j]? =w.heap[j]?;unfold sortWorld;rw[heap_grow_old _ _ (by simpa[putRow,mapBlock,Sort.ahead]using X)];simp[putRow,mapBlock,Sort.ahead,Array.getElem?_modify,Ne.symm t])];exact G);refine(B #[.pointer (some ⟨j,o,none⟩)] (q n) b 0 c zs.toArray w hp K (Rz T hz) (by simpa using by omega) (by simpa using Qy)).mono ?_;rintro e w' ⟨rfl,m,rfl⟩;simp only[List.size_toArray]at*;have hle:(zs.filter λx=> !q n x).length≤zs.length:=List.length_filter_le ..;have HP:((zs.filter λx=> !q n x)++List.replicate (zs.length-(zs.filter λx=> !q n x).length) (0:Int)).length=zs.length:=(by simp;omega);have U:=Xz (n:=m) (os:= #[]) ((zs.filter λx=> !q n x)++List.replicate (zs.length-(zs.filter λx=> !q n x).length) 0).toArray T;have r:=dS (w:=w) (n:=m) (os:= #[]) (g:=b) (F:=F) ((zs.filter λx=> !q n x)++List.replicate (zs.length-(zs.filter λx=> !q n x).length) 0).toArray ((Q b).2 ((O b).2 rfl));rw[grow_empty]at U r;obtain⟨d',k1,k2,k3⟩:=W6 (S:=S) (c:=c) (zs:=zs.filter λx=> !q n x) U (by simp[putCells,hc]) (by omega) N (λi z hi=>pJ ((zs.filter λx=> !q n x)++List.replicate (zs.length-(zs.filter λx=> !q n x).length) 0) (by rw[HP];omega) i z (by rw[ABA (AAj.1 hi).1];exact hi));refine⟨d',[.lf .dead d.A0,.lf .dead (.func (.func g) #[] #[.pointer (some ⟨j,o,none⟩)])],S,λx=>x=b,by rw[k2],k1,by simp,by simp[I],?_,r,λ_ h=>h,λ_ h=>.inl h,λx r=> ?_,λx r=>.inl ((Q x).2 ((O x).2 r))⟩
   . refine A8.2 ⟨_,λ_=>False,k3,CC λy V=> ?_,λ_ _ h=>h,λx=>by simp⟩;simp only[ABH,ABa,ABU]at V;rcases V with rfl|rfl<;>exact .lf _ _ _ trivial (λ_ h=>h)
   . have:=R x r;simpa[putRow,mapBlock,Sort.ahead]using this
end Go.Abs
namespace Go.Abs
variable {P:Program} {G:Gi}
def fV (G:Gi) (rs:List RV) (res:AV) (outs:List AV) (e:Exit) (σ:Sg):Prop:=
 (match e with| .normal=>True| .ret=>True|_=>False)/\∃vs τ,GH G rs σ=some (vs,τ)/\one (vs.map yT)=res/\Tu τ 0 outs
def pL (x:AB8 (List AV×Sg)) (res:AV) (outs:List AV):Prop:=match x with
 |some (vs,τ)=>one (vs.map yT)=res/\Tu τ 0 outs
 |none=>False
theorem kQ (vs:List AV) (τ:Sg) (b:AV) (a:List AV):pL (some (vs,τ)) b a=(one (vs.map yT)=b/\Tu τ 0 a):=(rfl)
theorem sQ (G:Gi) (rs:List RV) (b:AV) (a:List AV) (σ:Sg):fV G rs b a .ret σ=pL (GH G rs σ) b a:=by
 unfold fV pL;cases GH G rs σ with
 |none=>simp
 |some x=>obtain⟨vs,τ⟩:=x;simp only[AAh,AAv,true_and,eq_iff_iff];exact⟨λ⟨_,_,⟨c,d⟩,h⟩=>by subst c;subst d;exact h,λh=>⟨_,_,⟨rfl,rfl⟩,h⟩⟩
theorem cD {f:Nat} {j:Func} {I:FI} {args:List AV} {n:AV} {a:List AV} (hm:P.follows .mixedOrders=true) (hf:P.funcs[f]? =some j) (hc:Lj P j I=true) (D:iD j args.length=true) (hn:args.length≤j.ntmps) (L:args.all I7=true) (t:a.length=args.length)
 (h:ID P I.g I.c (fV I.g I.r n a) (start args)):BA P f args n a:=by
 intro w S ds F Q N G hS;subst N;refine Qe (m:=ds.length) hm hf hc (by simpa using hn) L (λc d=>by simp only[iD,d]at D;simpa using D) Q G hS h ?_;rintro q w1 S1 δ1 F1 tmps E K e H v M O;have k:q= .normal∨q= .ret:=by obtain⟨h,_⟩:=E;cases q<;>simp_all
 refine⟨k,?_⟩;obtain⟨_,vs,τ,U,T,y⟩:=E;have R:=M.resolve_left (by rcases k with rfl|rfl<;>simp);obtain⟨Ds,FD,X,g2,C,Z,δ2,F2,k1,k2,k3,k4,k5⟩:=JQ j.results.toList K v O U;rw[← k2]at y;obtain⟨os,V,W,p,z,B⟩:=YW k1 a 0 y;have J:os.map DV.A0=ds.map DV.A0:=by
  rw[W];have hl:a.length=ds.length:=by simpa using t
  rw[hl];apply ABu;intro i;simp only[AAt];by_cases hi:i<ds.length
  . rw[List.getElem?_range' (by simpa using hi),AAo hi];simp only[ABr,Nat.one_mul,AA9,AAh];rw[k3,← v,R i hi];simp[hi]
  . rw[ABy (by simp;omega),ABy (by omega)];rfl
 obtain⟨Ds',q1,q2,q3⟩:=aZ _ C;have hO:Jm w1 (λx=>S1 x∨FD x) os p:=z.mono (λ_ _=>rfl) (λ_ _=>rfl) (λ_ h=>.inl h) λx o l=>by
  rcases l with l|l
  . exact(B2.2 z).E7 x o l
  . obtain⟨s,_,u⟩:=B x o;exact k4 s x u l
 refine⟨_,UL g2,PF Ds',os,λx=>S1 x∨FD x,p,by rw[Tr,Tr,q2],by rw[Ts,q1,X,T],V,J,A8.2 ⟨λ_=>False,p,OS q3,hO,λ_ h=>h.elim,λx=>by simp⟩,⟨e.os,e.tape,e.output,e.size,e.block⟩,λb d=>.inl (e.sub b d),?_,?_,?_⟩
 . rintro b (d|d)
   . exact e.sup b d
   . exact .inr (e.own b (Z b d))
 . rintro b (d|d)
   . exact H b d
   . exact(OS C).lt b d
 . intro x o;obtain⟨s,_,u⟩:=B x o;exact e.own x (k5 x ⟨s,u⟩)
def putK (G:Gi) (n:Nat) (x:AB8 AV) (res:AV) (d:AB8 Dn) (K:Sg->Prop) (r:Nat) (σ:Sg):Prop:=match x with
 |some t=>C3 d res K (DZ (Fq G n r σ) r t)
 |none=>False
theorem xE (n:Nat) (t a:AV) (d:AB8 Dn) (K:Sg->Prop) (r:Nat) (σ:Sg):putK G n (some t) a d K r σ=C3 d a K (DZ (Fq G n r σ) r t):=(rfl)
def sR (P:Program) (G:Gi) (r:Nat) (p:List Step) (b:Bool) (k f:Nat) (xs ys:List AV) (n:AV) (c:AB8 Nat) (d:AB8 Dn) (K:Sg->Prop) (σ:Sg):Prop:=
 ∃res out o,BA P f (xs++n::ys) res ((xs.map λ_=>.dead)++out::ys.map λ_=>.dead)/\S5 c out=some o/\Ib o=true/\clean res=true/\putK G (Te o b k p) (put (σ r) p o) res d K r σ
theorem sR.intro {r:Nat} {p:List Step} {b:Bool} {k f:Nat} {e g:List AV} {n:AV} {c:AB8 Nat} {d:AB8 Dn} {K:Sg->Prop} {σ:Sg} {a out o:AV} (h:BA P f (e++n::g) a ((e.map λ_=>.dead)++out::g.map λ_=>.dead)) (i:S5 c out=some o) (j:Ib o=true) (l:clean a=true)
 (m:putK G (Te o b k p) (put (σ r) p o) a d K r σ):sR P G r p b k f e g n c d K σ:=⟨a,out,o,h,i,j,l,m⟩
def lndB (P:Program) (G:Gi) (y:AB8 AV) (r:Nat) (p:List Step) (xs ys:List AV) (a:AV->AV) (c:AB8 Nat) (f:Nat) (d:AB8 Dn) (K:Sg->Prop) (σ:Sg):Prop:=match y with
 |some (.own b k rows)=>sR P G r p b k f xs ys (a (.own b k rows)) c d K σ
 |_=>False
theorem lndB_own (b:Bool) (k:Nat) (rows:List (List AV)) (r:Nat) (p:List Step) (e g:List AV) (a:AV->AV) (c:AB8 Nat) (f:Nat) (d:AB8 Dn) (K:Sg->Prop) (σ:Sg):lndB P G (some (.own b k rows)) r p e g a c f d K σ=sR P G r p b k f e g (a (.own b k rows)) c d K σ:=(rfl)
theorem lndK_s (r:Nat) (p:List Step) (b e:List AV) (a:AV->AV) (c:AB8 Nat) (f:Nat) (d:AB8 Dn) (K:Sg->Prop) (σ:Sg):lndK P G (some (r,p)) (some b) (some e) a c f d K σ=lndB P G (sub (σ r) p) r p b e a c f d K σ:=(rfl)
theorem lndN_own (b:Bool) (k:Nat) (rows:List (List AV)) (p:List Step):Te (.own b k rows) b k p=p.length+1:=by simp[Te]
def lbY (G:Gi) (x:AB8 AV) (r N r2:Nat) (p2:List Step) (v res:AV) (d:AB8 Dn) (K:Sg->Prop) (τ:Sg):Prop:=match x with
 |some t=>putK G p2.length (put (DZ (Fq G N r τ) r t r2) p2 v) res d K r2 (DZ (Fq G N r τ) r t)
 |none=>False
theorem lbY_some (t:AV) (r N c:Nat) (b:List Step) (v a:AV) (d:AB8 Dn) (K:Sg->Prop) (τ:Sg):lbY G (some t) r N c b v a d K τ=putK G b.length (put (DZ (Fq G N r τ) r t c) b v) a d K c (DZ (Fq G N r τ) r t):=(rfl)
theorem LbE.intro {d:AB8 Dn} {f r j:Nat} {p l:List Step} {v n:AV} {b:Bool} {k:Nat} {i:List AV} {K:Sg->Prop} {τ:Sg} {a out:AV} (h:BA P f (n::(i++[v])) a (out::((i.map λ_=>.dead)++[v]))) (c:(!(r==j)&&(Ib out&&clean a))=true)
 (g:lbY G (put (τ r) p out) r (Te out b k p) j l v a d K τ):lbQ P G d f r j p l v n b k i K τ:=by
 simp only[AAi,ABR,ABv,ne_eq]at c;refine⟨c.1,a,out,h,c.2.1,c.2.2,?_⟩;unfold lbY at g;split at g
 . rename_i t e;simp only[e];exact g
 . exact g.elim
def lbK (P:Program) (G:Gi) (a:AB8 (Nat×List Step)) (d:AB8 Dn) (f:Nat) (x:Ar) (Th:List Ar) (K:Sg->Prop) (σ:Sg):Prop:=match a with
 |some (r2,p2)=>(match Z7 G r2 p2 σ with
  |some (v,τ)=>(match xD τ x,NO τ Th with
   |some (r,p),some ms=>(match sub (τ r) p with
    |some (.own b k rows)=>lbQ P G d f r r2 p p2 v (.own b k rows) b k ms K τ
    |_=>False)
   |_,_=>False)
  |none=>False)
 |none=>False
def lbT (P:Program) (G:Gi) (a:AB8 (AV×Sg)) (r2:Nat) (p2:List Step) (d:AB8 Dn) (f:Nat) (x:Ar) (Th:List Ar) (K:Sg->Prop):Prop:=match a with
 |some (v,τ)=>(match xD τ x,NO τ Th with
  |some (r,p),some ms=>(match sub (τ r) p with
   |some (.own b k rows)=>lbQ P G d f r r2 p p2 v (.own b k rows) b k ms K τ
   |_=>False)
  |_,_=>False)
 |none=>False
def lbU (P:Program) (G:Gi) (a:AB8 (Nat×List Step)) (l:AB8 (List AV)) (r2:Nat) (p2:List Step) (d:AB8 Dn) (f:Nat) (v:AV) (K:Sg->Prop) (τ:Sg):Prop:=match a,l with
 |some (r,p),some ms=>(match sub (τ r) p with
  |some (.own b k rows)=>lbQ P G d f r r2 p p2 v (.own b k rows) b k ms K τ
  |_=>False)
 |_,_=>False
def lbV (P:Program) (G:Gi) (a:AB8 AV) (r r2:Nat) (p p2:List Step) (ms:List AV) (d:AB8 Dn) (f:Nat) (v:AV) (K:Sg->Prop) (τ:Sg):Prop:=match a with
        |some (.own b k rows)=>lbQ P G d f r r2 p p2 v (.own b k rows) b k ms K τ
        |_=>False
theorem axs_lb (d:AB8 Dn) (f:Nat) (x:Ar) (a:List Ar) (y:Ar) (b:List gD) (K:Sg->Prop) (σ:Sg):Lh P G (.lb d f x a y::b) K σ=lbK P G (xD σ y) d f x a (Lh P G b K) σ:=(rfl)
theorem lbK_some (b:Nat) (a:List Step) (d:AB8 Dn) (f:Nat) (x:Ar) (c:List Ar) (K:Sg->Prop) (σ:Sg):lbK P G (some (b,a)) d f x c K σ=lbT P G (Z7 G b a σ) b a d f x c K:=(rfl)
theorem lbT_some (v:AV) (τ:Sg) (c:Nat) (b:List Step) (d:AB8 Dn) (f:Nat) (x:Ar) (a:List Ar) (K:Sg->Prop):lbT P G (some (v,τ)) c b d f x a K=lbU P G (xD τ x) (NO τ a) c b d f v K τ:=(rfl)
theorem lbU_some (r:Nat) (p:List Step) (a:List AV) (c:Nat) (b:List Step) (d:AB8 Dn) (f:Nat) (v:AV) (K:Sg->Prop) (τ:Sg):lbU P G (some (r,p)) (some a) c b d f v K τ=lbV P G (sub (τ r) p) r c p b a d f v K τ:=(rfl)
theorem lbV_own (b:Bool) (k:Nat) (rows:List (List AV)) (r e:Nat) (p c:List Step) (a:List AV) (d:AB8 Dn) (f:Nat) (v:AV) (K:Sg->Prop) (τ:Sg):lbV P G (some (.own b k rows)) r e p c a d f v K τ=lbQ P G d f r e p c v (.own b k rows) b k a K τ:=(rfl)
attribute [go_sem] axs_lb lbK_some lbT_some lbU_some lbV_own lbY_some
attribute [go_sem] lndN_own lndK_s lndB_own xE sQ kQ
end Go.Abs
namespace Go.Abs
variable {P:Program} {G:Gi}
def uN (a b:IC):IC:=.seq a b
def BP:Nat:=18446744073709551616
abbrev BZ (s:AB9):AV:=.sc (.string s)
abbrev A1 (n:Int):Int:=IntKind.i64.wrap n
abbrev w8 (n:Int):Int:=IntKind.u8.wrap n
def gt {α:Type} (l:List α) (i:Int):AB8 α:=if 0≤i then l[i.toNat]? else none
def sgt (s:AB9) (i:Int):AB8 UInt8:=if 0≤i then s[i.toNat]? else none
theorem gt_bind {b c:Type} {l:List b} {i:Int} {f:b->AB8 c} {r:c} (h:(gt l i).bind f=some r):∃x,l[i.toNat]? =some x/\0≤i/\i<(l.length:Int)/\i.toNat<l.length/\f x=some r:=by
 unfold gt at h;by_cases a:0≤i
 . rw[AAs a]at h;cases hx:l[i.toNat]? with
   |none=>simp[hx]at h
   |some x=>have:=(AAj.1 hx).1;exact⟨x,rfl,a,by omega,this,by simpa[hx]using h⟩
 . simp[a]at h
theorem sgt_bind {b:Type} {l:AB9} {i:Int} {f:UInt8->AB8 b} {r:b} (h:(sgt l i).bind f=some r):∃x,l[i.toNat]? =some x/\0≤i/\f x=some r:=by
 unfold sgt at h;by_cases a:0≤i
 . rw[AAs a]at h;cases hx:l[i.toNat]? with
   |none=>simp[hx]at h
   |some x=>exact⟨x,rfl,a,by simpa[hx]using h⟩
 . simp[a]at h
theorem gB {g j:Type} {l:List g} {i:Int} {f:g->AB8 j} {r:j} (h:(gt l i).bind f=some r):∃x,(l[i.toNat]? =some x/\0≤i/\i<(l.length:Int)/\i.toNat<l.length)/\f x=some r:=by obtain⟨x,a,b,c,d,e⟩:=gt_bind h;exact⟨x,⟨a,b,c,d⟩,e⟩
theorem sgB {c:Type} {l:AB9} {i:Int} {f:UInt8->AB8 c} {r:c} (h:(sgt l i).bind f=some r):∃x,(l[i.toNat]? =some x/\0≤i)/\f x=some r:=by obtain⟨x,a,b,e⟩:=sgt_bind h;exact⟨x,⟨a,b⟩,e⟩
theorem bind_some {a b:Type} {o:AB8 a} {f:a->AB8 b} {r:b} (h:o.bind f=some r):∃x,o=some x/\f x=some r:=by
 cases o with
 |none=>simp at h
 |some x=>exact⟨x,rfl,h⟩
theorem G9 {c:Type} {p:Prop} [Decidable p] {a:AB8 c} {r:c} (h:(if p then a else none)=some r):p/\a=some r:=by
 by_cases b:p
 . rw[AAs b]at h;exact⟨b,h⟩
 . rw[AAp b]at h;cases h
theorem bS {a b:Type} {o:AB8 a} {f:a->AB8 b} {r:b} (h:o.bind f=some r):∃x,o=some x/\f x=some r:=bind_some h
theorem cS {b:Type} {p:Prop} [Decidable p] {a:AB8 b} {r:b} (h:(if p then a else none)=some r):p/\a=some r:=G9 h
theorem ifT {d:Type} {c:Bool} {a b r:d} (e:c=true) (h:(if c=true then a else b)=r):a=r:=by rw[AAs e]at h;exact h
theorem ifF {d:Type} {c:Bool} {a b r:d} (e:c=false) (h:(if c=true then a else b)=r):b=r:=by rw[AAp (by rw[e];decide)]at h;exact h
theorem DP {a:Type} {r:a} {C:Prop} (h:(none:AB8 a)=some r):C:=nomatch h
theorem bool_sp (c:Bool):c=true∨c=false:=by cases c<;>simp
theorem acase2 {e:Type} {i:Int} {a b:AB8 e} {x:e} (h:(if(i==0)=true then a else if(i==1)=true then b else none)=some x):(i=0/\a=some x)∨(i=1/\b=some x):=by
 by_cases c:i=0
 . subst c;exact .inl ⟨rfl,by simpa using h⟩
 . by_cases d:i=1
   . subst d;exact .inr ⟨rfl,by simpa using h⟩
   . simp[c,d]at h
theorem condK_sp {c:Bool} {a b:Sg->Prop} {σ:Sg} (d:c=true->a σ) (e:c=false->b σ):TE (.sc (.bool c)) a b σ:=by
 cases c with
 |true=>rw[qQ];exact d rfl
 |false=>rw[qP];exact e rfl
theorem gK_sp {c:Bool} {d:Bool} {a b:Sg->Prop} {σ:Sg} (e:c=true->gK (.sc (.bool true)) d a b σ) (f:c=false->gK (.sc (.bool false)) d a b σ):gK (.sc (.bool c)) d a b σ:=by
 cases c with
 |true=>exact e rfl
 |false=>exact f rfl
theorem cI {g:Type} {c:Bool} {x y z:g} {a b:Sg->Prop} {σ:Sg} (h:(if c=true then x else y)=z) (d:c=true->x=z->a σ) (f:c=false->y=z->b σ):TE (.sc (.bool c)) a b σ:=
 condK_sp (λe=>d e (ifT e h)) λe=>f e (ifF e h)
theorem gI {i:Type} {c:Bool} {x y z:i} {d:Bool} {a b:Sg->Prop} {σ:Sg} (h:(if c=true then x else y)=z) (f:c=true->x=z->gK (.sc (.bool true)) d a b σ) (g:c=false->y=z->gK (.sc (.bool false)) d a b σ):gK (.sc (.bool c)) d a b σ:=
 gK_sp (λe=>f e (ifT e h)) λe=>g e (ifF e h)
theorem awp_cut {a b:IC} {Q:Exit->Sg->Prop} {M:Sg->Prop} {σ:Sg} (c:ID P G a (Exit.RH M Q) σ) (d:∀τ,M τ->ID P G b Q τ):ID P G (uN a b) Q σ:=by
 unfold uN;rw[qK];refine gV ?_ c;intro e τ h;cases e with
 |normal=>exact d τ h
 |_=>exact h
def Imp (A B:Sg->Prop):Prop:=∀τ,A τ->B τ
theorem gBk {a c:Type} {C:Prop} {l:List a} {i:Int} {f:a->AB8 c} {r:c} (h:(gt l i).bind f=some r) (k:∀x,((∀n,i.toNat=n->l[n]? =some x)/\(∀n,i.toNat=n->n<l.length)/\0≤i/\i<(l.length:Int))->f x=some r->C):C:=by obtain⟨x,⟨d,g,j,m⟩,b⟩:=gB h;exact k x ⟨λn e=>e▸d,λn e=>e▸m,g,j⟩ b
theorem gBe {a b:Type} {C:Prop} {l:List a} {i:Int} {f:a->AB8 b} {r:b} {x:a} (h:(gt l i).bind f=some r) (g:(∀n,i.toNat=n->l[n]? =some x)/\(∀n,i.toNat=n->n<l.length)/\0≤i/\i<(l.length:Int)) (k:f x=some r->C):C:=by
 have e:gt l i=some x:=by unfold gt;rw[AAs g.2.2.1];exact g.1 _ rfl
 rw[e]at h;exact k h
theorem gBm {d j:Type} (e:d->List AV) {C:Prop} {a:d} {l:List d} {i:Int} {f:d->AB8 j} {r:j} (h:(gt (a::l) i).bind f=some r)
 (k:∀x,((∀n rows,i.toNat=n->(a::l).map e=rows->rows[n]? =some (e x))/\(∀n m,i.toNat=n->(a::l).length=m->n<m)/\0≤i/\∀m:Nat,(a::l).length=m->i<(m:Int))->f x=some r->C):C:=by
 obtain⟨x,⟨o,p,q,s⟩,b⟩:=gB h;exact k x ⟨λn rows c g=>by rw[← c,← g,AAt,o];rfl,λn m c g=>c▸g▸s,p,λm c=>c▸q⟩ b
theorem bSk {c d:Type} {C:Prop} {o:AB8 c} {f:c->AB8 d} {r:d} (h:o.bind f=some r) (k:∀x,o=some x->f x=some r->C):C:=by obtain⟨x,a,b⟩:=bS h;exact k x a b
theorem bSs {a b:Type} {C:Prop} {x:a} {f:a->AB8 b} {r:b} (h:(some x).bind f=some r) (k:f x=some r->C):C:=k h
theorem cSk {c:Type} {C:Prop} {p:Prop} [Decidable p] {a:AB8 c} {r:c} (h:(if p then a else none)=some r) (k:p->a=some r->C):C:=by obtain⟨a,b⟩:=cS h;exact k a b
theorem bI {d:Type} {C:Prop} {c:Bool} {x y z:d} (h:(if c=true then x else y)=z) (a:c=true->x=z->C) (b:c=false->y=z->C):C:=by
 cases c with
 |true=>exact a rfl (ifT rfl h)
 |false=>exact b rfl (ifF rfl h)
theorem cutH {a b:IC} {Q:Exit->Sg->Prop} (c:Sg->Prop) {σ:Sg} (h:∀M:Sg->Prop,Imp c M->ID P G a (Exit.RH M Q) σ/\∀τ,c τ->ID P G b Q τ):ID P G (uN a b) Q σ:=
 awp_cut (h c λ_ h=>h).1 (h c λ_ h=>h).2
def Nf (n:Nat) (a b:IC):IC:=.seq a b
theorem cutNH (n:Nat) {a b:IC} {Q:Exit->Sg->Prop} (c:Sg->Prop) {σ:Sg} (h:∀M:Sg->Prop,Imp c M->ID P G a (Exit.RH M Q) σ/\∀τ,c τ->ID P G b Q τ):ID P G (Nf n a b) Q σ:=cutH c h
theorem tZ {a:IC} {Q:Exit->Sg->Prop} {σ:Sg} (I:Nat->Sg->Prop) (n:Nat) (h:I n σ)
 (b:∀n τ (N:Sg->Prop),I n τ->(∀m,m<n->∀c,I m c->N c)->ID P G a (Exit.RH N Q) τ):ID P G (.loop a) Q σ:=
 AAY I n h λn τ e=>b n τ _ e λm f c d=>⟨m,f,d⟩
def Back (n:Nat) (I:Nat->Sg->Prop) (N:Sg->Prop):Prop:=∀m,m<n->∀τ',I m τ'->N τ'
theorem impI {A B:Sg->Prop} (m:Imp A B) {τ:Sg} (h:A τ):B τ:=m τ h
theorem S6 {n:Nat} {I:Nat->Sg->Prop} {N:Sg->Prop} (k:Back (n+1) I N) {τ:Sg} (h:I n τ):N τ:=k n (Nat.lt_succ_self n) τ h
theorem Pt {a:IC} {Q:Exit->Sg->Prop} {σ:Sg} (I:Nat->Sg->Prop) (h:I BP σ)
 (b:∀n τ (N:Sg->Prop),I n τ->Back n I N->ID P G a (Exit.RH N Q) τ):ID P G (.loop a) Q σ:=tZ I BP h b
theorem gK_mono {x:AV} {c:Bool} {a b e f:Sg->Prop} {σ:Sg} (i:∀σ,a σ->e σ) (g:∀σ,b σ->f σ) (h:gK x c a b σ):gK x c e f σ:=by
 unfold gK at*;split at h
 . split at h
   . rename_i d;simp only[d,AA5];exact i _ h
   . rename_i d;simp only[d,AAx];exact g _ h
 . exact g _ h
 . exact h.elim
theorem gM_mono {g:AB8 (Nat×Bool)} {d:Dn} {A a K b:Sg->Prop} {σ:Sg} (c:∀σ,A σ->a σ) (f:∀σ,K σ->b σ) (h:gM g d A K σ):gM g d a b σ:=by
 cases g with
 |none=>exact c _ h
 |some x=>obtain⟨s,e⟩:=x;exact gK_mono c (λσ i=>f _ i) h
theorem KD {K i:Sg->Mu->Prop} (h:∀σ c,K σ c->i σ c):∀{l:List mC} {σ:Sg} {c:Mu},O7 P G l K σ c->O7 P G l i σ c
 |[],_,_,ht=>h _ _ ht
 | .x _::_,_,_,ht=>K4 (λ_ a=>KD h a) ht
 | .mkm _::_,_,_,ht=>λb e=>HZ (λ_ a=>KD h a) (ht b e)
 | .lkp g d m k::l,σ,c,ht=>by
  simp only[O7]at ht ⊢;refine gM_mono (λσ a=> ?_) (λσ a=>KD h a) ht;unfold lkpK at a ⊢;split at a
  . split at a
    . exact⟨a.1,HZ (λ_ j=>KD h j) a.2⟩
    . exact a.elim
  . exact a.elim
 | .mup m k v::l,σ,c,ht=>by
  simp only[O7]at ht ⊢;unfold mupK at ht ⊢;split at ht
  . split at ht
    . exact⟨ht.1,KD h ht.2⟩
    . exact ht.elim
  . exact ht.elim
 | .rng d x::l,σ,c,ht=>by
  simp only[O7]at ht ⊢;unfold rngK at ht ⊢;split at ht
  . exactλb e=>HZ (λ_ a=>KD h a) (ht b e)
  . exact ht.elim
 | .nxt d x::l,σ,c,ht=>by
  simp only[O7]at ht ⊢;unfold nxtK at ht ⊢;split at ht
  . split at ht
    . split at ht
      . rename_i f;simp only[f,AA5];exact HZ (λ_ a=>KD h a) ht
      . rename_i f;simp only[f,AAx];exact HZ (λ_ a=>KD h a) ht
    . exact ht.elim
  . exact ht.elim
theorem tV {ic:ZY}:∀{Q j:Exit->Sg->Mu->Prop} {σ:Sg} {g:Mu},(∀e σ g,Q e σ g->j e σ g)->JD P G ic Q σ g->JD P G ic j σ g:=by
 induction ic with
 |ic c=>exactλh d=>gV (λe σ k=>h e σ _ k) d
 |Zt xs=>exactλh d=>KD (h .normal) d
 |seq a b SB ihb=>
  intro Q j σ g h d;refine SB (λe σ' l f=> ?_) d;cases e with
  |normal=>exact ihb h f
  |_=>exact h _ _ _ f
 |cond c a b SB ihb=>
  intro Q j σ g h d;rw[Xa]at d ⊢;unfold qR at d ⊢;split at d
  . split at d
    . rename_i k;simp only[k,AA5];exact SB h d
    . rename_i k;simp only[k,AAx];exact ihb h d
  . exact d.elim
 |block id a SB=>
  intro Q j σ g h d;refine SB (λe σ' l f=> ?_) d;cases e with
  |exit i=>
   rw[VF]at f ⊢;split
   . rename_i hi;rw[AAs hi]at f;exact h _ _ _ f
   . rename_i hi;rw[AAp hi]at f;exact h _ _ _ f
  |_=>exact h _ _ _ f
 |loop a SB=>
  intro Q j σ g h d;obtain⟨I,m,p⟩:=d;refine⟨I,m,λn τ q o=>SB (λe σ' l f=> ?_) (p n τ q o)⟩;cases e with
  |normal=>exact f
  |_=>exact h _ _ _ f
def iM (a b:ZY):ZY:=.seq a b
theorem AAW {a b:ZY} {Q:Exit->Sg->Mu->Prop} {M:Sg->Mu->Prop} {σ:Sg} {d:Mu} (f:JD P G a (Exit.ZA M Q) σ d) (g:∀τ c,M τ c->JD P G b Q τ c):JD P G (iM a b) Q σ d:=by
 unfold iM;rw[gS];refine tV ?_ f;intro e τ c h;cases e with
 |normal=>exact g τ c h
 |_=>exact h
def ImpM (A B:Sg->Mu->Prop):Prop:=∀τ ν,A τ ν->B τ ν
theorem iN {a b:ZY} {Q:Exit->Sg->Mu->Prop} (c:Sg->Mu->Prop) {σ:Sg} {d:Mu} (h:∀M:Sg->Mu->Prop,ImpM c M->JD P G a (Exit.ZA M Q) σ d/\∀τ e,c τ e->JD P G b Q τ e):JD P G (iM a b) Q σ d:=
 AAW (h c λ_ _ h=>h).1 (h c λ_ _ h=>h).2
theorem mU {a:ZY} {Q:Exit->Sg->Mu->Prop} {σ:Sg} {g:Mu} (I:Nat->Sg->Mu->Prop) (n:Nat) (h:I n σ g)
 (b:∀n τ f (N:Sg->Mu->Prop),I n τ f->(∀m,m<n->∀d c,I m d c->N d c)->JD P G a (Exit.ZA N Q) τ f):JD P G (.loop a) Q σ g:=
 tU I n h λn τ f i=>b n τ f _ i λm j d c e=>⟨m,j,e⟩
def BackM (n:Nat) (I:Nat->Sg->Mu->Prop) (N:Sg->Mu->Prop):Prop:=∀m,m<n->∀τ' ν',I m τ' ν'->N τ' ν'
theorem loopMH {a:ZY} {Q:Exit->Sg->Mu->Prop} {σ:Sg} {c:Mu} (I:Nat->Sg->Mu->Prop) (h:I BP σ c)
 (b:∀n τ ν (N:Sg->Mu->Prop),I n τ ν->BackM n I N->JD P G a (Exit.ZA N Q) τ ν):JD P G (.loop a) Q σ c:=mU I BP h b
def tv (s:AB9):AB9×Value:=(s,.bool true)
theorem look_set (l:List AB9) (s:AB9):Mq (l.map tv) s (.bool false)= .bool (l.any λx=>x==s):=by
 induction l with
 |nil=>rfl
 |cons x l ih=>
  unfold Mq at ih ⊢;rw[AAy,List.find?_cons,List.any_cons];cases hx:(tv x).1==s with
  |true=>simp[show(x==s)=true from hx,tv]
  |false=>simp only[show(x==s)=false from hx,Bool.false_or];exact ih
theorem all_set (l:List AB9) (s:AB9):((l.map tv).all λx=> !(x.1==s))= !(l.any λx=>x==s):=by
 induction l with
 |nil=>rfl
 |cons x l ih=>rw[AAy,ABW,List.any_cons,ih];simp[tv]
theorem add_set (l:List AB9) (s:AB9):mH (l.map tv) s (.bool true)=(l++[s]).map tv:=by simp[mH,tv]
theorem kD (b:Bool):Ge (.bool b)=true:=rfl
attribute [go_sem] look_set all_set add_set kD
theorem map_len {a b:Type} (f:a->b) (l:List a):(l.map f).length=l.length:=ABI ..
theorem map_get {a b:Type} (f:a->b) (l:List a) (i:Nat):(l.map f)[i]? =(l[i]?).map f:=AAt ..
theorem map_app {a b:Type} (f:a->b) (l m:List a):l.map f++m.map f=(l++m).map f:=(ABL ..).symm
theorem map_tk {a b:Type} (f:a->b) (l:List a) (n:Nat):(l.map f).take n=(l.take n).map f:=(ABz ..).symm
theorem map_dr {a b:Type} (f:a->b) (l:List a) (n:Nat):(l.map f).drop n=(l.drop n).map f:=(List.map_drop ..).symm
theorem dt1 {a:Type} {l:List a} {i:Nat} {x:a} (h:l[i]? =some x):(l.drop i).take 1=[x]:=by obtain⟨hi,rfl⟩:=AAj.1 h;rw[ABd hi];rfl
theorem sc_str (l:List AB9):(l.map Value.string).map AV.sc=l.map BZ:=by rw[List.map_map];rfl
theorem cast22:((22:Nat):Int)=22:=rfl
attribute [go_sem] dt1 sc_str cast22 Nat.mul_one List.getElem?_set_self List.set_set List.length_set Nat.zero_le Option.isSome_none Option.isSome_some Option.isNone_none map_len map_get map_app map_tk map_dr
theorem map_same {a b:Type} (f:a->b) (l:List a) (i:Nat) (x:a) (h:l[i]? =some x):(List.map f (l.set i x)=List.map f l)=True:=by obtain⟨hi,rfl⟩:=AAj.1 h;simp
attribute [go_sem] map_same
theorem one_nil:one []= .BM []:=rfl
attribute [go_sem] one_nil
theorem tn1:Int.toNat 1=1:=rfl
theorem tn2:Int.toNat 2=2:=rfl
theorem tn3:Int.toNat 3=3:=rfl
attribute [go_sem] tn1 tn2 tn3 Nat.reduceAdd
theorem map_ce {a:Type} (e:a->List AV) (l:List a) (h:∀x,(e x).all Fj=true):((l.map e).all λx=>x.all Fj)=true:=by rw[ABf];exact AAm.2 λx _=>h x
theorem map_pl {a:Type} (e:a->List AV) (l:List a) (h:∀x,(e x).all Hl=true):((l.map e).all λx=>x.all Hl)=true:=by rw[ABf];exact AAm.2 λx _=>h x
theorem map_fr {a:Type} (e:a->List AV) (l:List a) (h:∀x,Pb (e x)=true):Ru (l.map e)=true:=by induction l with|nil=>rfl|cons x l ih=>simp[Ru,h x,ih]
theorem xA {l:List AV} (h:l.all Hl=true):Zg l=l:=by
 induction l with
 |nil=>rfl
 |cons a l ih=>simp only[ABW,AAi]at h;rw[Zg,ih h.2];cases a<;>simp_all [Hl,JZ]
theorem map_fz {a:Type} (e:a->List AV) (l:List a) (h:∀x,(e x).all Hl=true):Ni (l.map e)=l.map e:=by
 induction l with
 |nil=>rfl
 |cons x l ih=>simp[Ni,xA (h x),ih]
theorem map_fm {a:Type} (e:a->List AV) (l:List a) (h:∀x,(e x).all Hl=true):(l.map e).map (λx=>x.map JZ)=l.map e:=by rw[← Wy];exact map_fz e l h
attribute [go_sem] implies_true map_ce map_pl map_fr map_fz map_fm
def i0 (d:Nat) (op:ZR):BN:=⟨some ⟨d,[],[]⟩,op,none⟩
def i1 (d r:Nat) (op:ZR):BN:=⟨some ⟨d,[],[r]⟩,op,none⟩
def j0 (d:Nat) (op:ZR) (g:Nat) (b:Bool):BN:=⟨some ⟨d,[],[]⟩,op,some (g,b)⟩
def j1 (d r:Nat) (op:ZR) (g:Nat) (b:Bool):BN:=⟨some ⟨d,[],[r]⟩,op,some (g,b)⟩
def iC (d s:Nat):BN:=⟨some ⟨d,[],[]⟩,.cp (.t s),none⟩
def iL (d s:Nat):BN:=⟨some ⟨d,[],[]⟩,.ld false 1 (.t s),none⟩
def Zm (d r s:Nat):BN:=⟨some ⟨d,[],[r]⟩,.ld false 1 (.t s),none⟩
def iF (d o s:Nat):BN:=⟨some ⟨d,[],[]⟩,.VK o (.t s),none⟩
def Ll (d r o s:Nat):BN:=⟨some ⟨d,[],[r]⟩,.VK o (.t s),none⟩
def iI (d k s i:Nat):BN:=⟨some ⟨d,[],[]⟩,.W4 k (.t s) (.t i),none⟩
def rL (d r k s i:Nat):BN:=⟨some ⟨d,[],[r]⟩,.W4 k (.t s) (.t i),none⟩
def iS (n a b:Nat):BN:=⟨none,.st n (.t a) (.t b),none⟩
def jL (d s g:Nat) (b:Bool):BN:=⟨some ⟨d,[],[]⟩,.ld false 1 (.t s),some (g,b)⟩
def jFr (d r o s g:Nat) (b:Bool):BN:=⟨some ⟨d,[],[r]⟩,.VK o (.t s),some (g,b)⟩
def iOr (d a b:Nat):BN:=⟨some ⟨d,[],[]⟩,.pick (.t a) (.c (.sc (.bool true))) (.t b),none⟩
def iAn (d a b:Nat):BN:=⟨some ⟨d,[],[]⟩,.pick (.t a) (.t b) (.c (.sc (.bool false))),none⟩
def iU (d:Nat) (n:Int):BN:=⟨some ⟨d,[],[]⟩,.cp (.c (.sc (.int .i64 n))),none⟩
def iZ (d s:Nat):BN:=⟨some ⟨d,[],[]⟩,.len (.t s),none⟩
def iA (d k s:Nat):BN:=⟨some ⟨d,[],[]⟩,.ld true k (.t s),none⟩
def jC (d s g:Nat) (b:Bool):BN:=⟨some ⟨d,[],[]⟩,.cp (.t s),some (g,b)⟩
def jN (d s g:Nat) (b:Bool):BN:=⟨some ⟨d,[],[]⟩,.un .not (.t s),some (g,b)⟩
def jP (d:Nat) (op:BinOp) (x:Nat) (n:Int) (g:Nat) (b:Bool):BN:=⟨some ⟨d,[],[]⟩,.bin op (.t x) (.c (.sc (.int .i64 n))),some (g,b)⟩
def cX (c id:Nat):IC:=.cond (.t c) .skip (.exit id)
def iQ (d s:Nat) (n:Int):BN:=⟨some ⟨d,[],[]⟩,.bin .eql (.t s) (.c (.sc (.int .i64 n))),none⟩
def iO (d:Nat) (op:BinOp) (a b:Nat):BN:=⟨some ⟨d,[],[]⟩,.bin op (.t a) (.t b),none⟩
def iP (d:Nat) (op:BinOp) (a:Nat) (n:Int):BN:=⟨some ⟨d,[],[]⟩,.bin op (.t a) (.c (.sc (.int .i64 n))),none⟩
def iK (d:Nat) (n:Int):BN:=⟨some ⟨d,[],[]⟩,.mv (.c (.sc (.int .i64 n))),none⟩
def iB (d:Nat) (b:Bool):BN:=⟨some ⟨d,[],[]⟩,.mv (.c (.sc (.bool b))),none⟩
def bA (k:Nat) (cs:List AV):AV:=.own true k [cs]
attribute [go_sem] iOr iAn iU iZ iA jC jN jP cX iQ iO iP iK iB bA i0 i1 j0 j1 iC iL Zm iF Ll iI rL iS jL jFr
end Go.Abs
namespace Go.Abs
variable {P:Program} {G:Gi}
theorem exI {a:Sort _} {p:a->Prop} {C:Prop} (h:∃x,p x) (k:∀x,p x->C):C:=h.elim k
theorem anI {a b C:Prop} (h:a/\b) (k:a->b->C):C:=k h.1 h.2
def CutT (n:Nat) (M0:Sg->Prop):Prop:=∀(P:Program) (G:Gi) (a b:IC) (Q:Exit->Sg->Prop) (σ:Sg),(∀M:Sg->Prop,Imp M0 M->ID P G a (Exit.RH M Q) σ/\∀τ,M0 τ->ID P G b Q τ)->ID P G (Nf n a b) Q σ
theorem Bm (n:Nat) (a:Sg->Prop):CutT n a:=λ_ _ _ _ _ _ h=>cutNH n a h
theorem CutT.use {n:Nat} {d:Sg->Prop} (c:CutT n d) {a b:IC} {Q:Exit->Sg->Prop} {σ:Sg} (h:∀M:Sg->Prop,Imp d M->ID P G a (Exit.RH M Q) σ/\∀τ,d τ->ID P G b Q τ):ID P G (Nf n a b) Q σ:=c _ _ _ _ _ _ h
def XK (I:Nat->Sg->Prop):Prop:=∀(P:Program) (G:Gi) (a:IC) (Q:Exit->Sg->Prop) (σ:Sg),I BP σ->(∀n τ (N:Sg->Prop),I n τ->Back n I N->ID P G a (Exit.RH N Q) τ)->ID P G (.loop a) Q σ
theorem Av (I:Nat->Sg->Prop):XK I:=λ_ _ _ _ _ h r=>Pt I h r
theorem XK.use {I:Nat->Sg->Prop} (c:XK I) {a:IC} {Q:Exit->Sg->Prop} {σ:Sg} (h:I BP σ) (r:∀n τ (N:Sg->Prop),I n τ->Back n I N->ID P G a (Exit.RH N Q) τ):ID P G (.loop a) Q σ:=c _ _ _ _ _ h r
theorem ac2 {c:Type} {C:Prop} {i:Int} {a b:AB8 c} {x:c} (h:(if(i==0)=true then a else if(i==1)=true then b else none)=some x) (d:i=0->a=some x->C) (e:i=1->b=some x->C):C:=(acase2 h).elim (λh=>d h.1 h.2) λh=>e h.1 h.2
theorem cal {p:Prop} (q:p:=by first| ((with_reducible have g:=a1 g);exact g)| ((with_reducible have g:=a2 g);exact g)| ((with_reducible have g:=a3 g);exact g)| ((with_reducible have g:=a4 g);exact g)| ((with_reducible have g:=a5 g);exact g)| ((with_reducible have g:=a6 g);exact g)| ((with_reducible have g:=a7 g);exact g)| ((with_reducible have g:=a8 g);exact g)| ((with_reducible have g:=a9 g);exact g)| ((with_reducible have g:=a10 g);exact g)| ((with_reducible have g:=a11 g);exact g)| ((with_reducible have g:=a12 g);exact g)| ((with_reducible have g:=a13 g);exact g)| ((with_reducible have g:=a14 g);exact g)| ((with_reducible have g:=a15 g);exact g)| ((with_reducible have g:=a16 g);exact g)| ((with_reducible have g:=a17 g);exact g)| ((with_reducible have g:=a18 g);exact g)| ((with_reducible have g:=a19 g);exact g)| ((with_reducible have g:=a20 g);exact g)| ((with_reducible have g:=a21 g);exact g)| ((with_reducible have g:=a22 g);exact g)| ((with_reducible have g:=a23 g);exact g)| ((with_reducible have g:=a24 g);exact g)| ((with_reducible have g:=a25 g);exact g)| ((with_reducible have g:=a26 g);exact g)| ((with_reducible have g:=a27 g);exact g)| ((with_reducible have g:=a28 g);exact g)| ((with_reducible have g:=a29 g);exact g)| ((with_reducible have g:=a30 g);exact g)):p:=q
theorem cas {p:Prop} (q:p:=by
  first
    | (repeat with_reducible apply Exists.intro
       with_reducible refine⟨?_,h⟩)
    | (have hq:=h
       subst_vars
       repeat with_reducible apply Exists.intro
       with_reducible refine⟨?_,hq⟩)
  first
    | (simp +decide only[go_sem, *]
       done)
    | ((try simp +decide only[go_sem, *])
       (repeat' with_reducible apply And.intro)<;>first
         |with_reducible rfl
         | (simp only[ABL,AAy,ABF,go_sem]
            done))):p:=q
theorem zer {p:Prop} (q:p:=by
 repeat (with_reducible first|refine exI h ?_|refine anI h ?_);clear h;intro _ h
 exact DP h):p:=q
theorem sgBk {b:Type} {C:Prop} {l:AB9} {i:Int} {f:UInt8->AB8 b} {r:b} (h:(sgt l i).bind f=some r) (k:∀x,((∀n,i.toNat=n->l[n]? =some x)/\0≤i)->f x=some r->C):C:=by obtain⟨x,a,h⟩:=sgB h;exact k x ⟨λn e=>e▸a.1,a.2⟩ h
theorem walk {p:Prop} (q:p:=by
  try
    unfold Run;intro C R I e1 e2 e3
    conv at e3=>lhs;cbv
    repeat
      conv at e3=>
        pattern R _ _
        rw[e2]
        cbv
    subst e3;subst e1;dsimp only
  have n1:=0;have n2:=0;have n3:=0;have n4:=0
  repeat' first
    |with_reducible exact DP h
    | (with_reducible refine exI h ?_
       clear h;intro _ h)
    | (with_reducible refine anI h ?_
       clear h;intro _ h)
    |with_reducible refine gBm eS h λ_ _ h=> ?_
    |with_reducible refine gBm eI h λ_ _ h=> ?_
    |with_reducible refine gBe h (by assumption) λh=> ?_
    |with_reducible refine gBk h λ_ _ h=> ?_
    |with_reducible refine sgBk h λ_ _ h=> ?_
    |with_reducible refine cSk h λ_ h=> ?_
    | (with_reducible refine ac2 h ?_ ?_
       all_goals
         clear h;intro e h;cases e)
    | (with_reducible refine bSs h λh=> ?_
       try simp +decide only[go_sem, *]
       refine⟨_,by first|exact a1 (by assumption)|exact a2 (by assumption)|exact a3 (by assumption)|exact a4 (by assumption)|exact a5 (by assumption)|exact a6 (by assumption)|exact a7 (by assumption)|exact a8 (by assumption)|exact a9 (by assumption)|exact a10 (by assumption)|exact a11 (by assumption)|exact a12 (by assumption)|exact a13 (by assumption)|exact a14 (by assumption)|exact a15 (by assumption)|exact a16 (by assumption)|exact a17 (by assumption)|exact a18 (by assumption)|exact a19 (by assumption)|exact a20 (by assumption)|exact a21 (by assumption)|exact a22 (by assumption)|exact a23 (by assumption)|exact a24 (by assumption)|exact a25 (by assumption)|exact a26 (by assumption)|exact a27 (by assumption)|exact a28 (by assumption)|exact a29 (by assumption)|exact a30 (by assumption),?_⟩)
    | (with_reducible refine bSk h λ_ g h=> ?_
       try simp +decide only[go_sem, *]
       first
         |refine⟨_,cal,?_⟩
         | (refine sR.intro cal rfl ?_ ?_ ?_
            . rfl
            . first|rfl|simp +decide only[go_sem, *])
         |refine LbE.intro cal (by first|rfl|simp +decide only[go_sem, *]) ?_)
    | (with_reducible cases h
       simp +decide only[go_sem, *]
       done)
    |simp only[eq_self,AA5,AAx,AAr]at h
    |simp +decide only[go_sem, *]
    | (with_reducible refine impI (by assumption) ?_
       exact cas)
    | (with_reducible refine CutT.use (by first|exact c1 n1 n2 n3 n4|exact c2 n1 n2 n3 n4|exact c3 n1 n2 n3 n4|exact c4 n1 n2 n3 n4|exact c5 n1 n2 n3 n4|exact c6 n1 n2 n3 n4|exact c7 n1 n2 n3 n4|exact c8 n1 n2 n3 n4|exact c9 n1 n2 n3 n4|exact c10 n1 n2 n3 n4|exact c11 n1 n2 n3 n4|exact c12 n1 n2 n3 n4|exact c13 n1 n2 n3 n4|exact c14 n1 n2 n3 n4|exact c15 n1 n2 n3 n4|exact c16 n1 n2 n3 n4|exact c17 n1 n2 n3 n4|exact c18 n1 n2 n3 n4|exact c19 n1 n2 n3 n4|exact c20 n1 n2 n3 n4|exact c21 n1 n2 n3 n4|exact c22 n1 n2 n3 n4|exact c23 n1 n2 n3 n4|exact c24 n1 n2 n3 n4|exact c25 n1 n2 n3 n4|exact c26 n1 n2 n3 n4|exact c27 n1 n2 n3 n4|exact c28 n1 n2 n3 n4|exact c29 n1 n2 n3 n4|exact c30 n1 n2 n3 n4) λM m=>⟨?_,?_⟩
       rotate_left;clear h;intro τ h;rotate_left)
    | (with_reducible refine XK.use (l1 n1 n2 n3 n4) ?_ ?_
       . exact cas
       clear h;rintro(_|n1) τ N h k
       . exact zer)
    | (with_reducible refine XK.use (l2 n1 n2 n3 n4) ?_ ?_
       . exact cas
       clear h;rintro(_|n2) τ N h k
       . exact zer)
    | (with_reducible refine XK.use (l3 n1 n2 n3 n4) ?_ ?_
       . exact cas
       clear h;rintro(_|n3) τ N h k
       . exact zer)
    | (with_reducible refine XK.use (l4 n1 n2 n3 n4) ?_ ?_
       . exact cas
       clear h;rintro(_|n4) τ N h k
       . exact zer)
    | (with_reducible refine S6 (by assumption) ?_
       first
         |exact cas
         | (repeat with_reducible apply Exists.intro
            with_reducible refine⟨?_,h⟩))
    |simp only[*,eq_self,AA5,AAx,AAr,decide_true,decide_false]at h
    | (with_reducible refine bI h ?_ ?_
       all_goals
         clear h;intro _ h)
    |intro _ _
    |unfold L1 at h
    |unfold L2 at h
    |unfold L3 at h
    |unfold L4 at h
    |unfold J1 at h
    |unfold J2 at h
    |unfold J3 at h
    |unfold J4 at h
    |unfold J5 at h
    |unfold J6 at h
    |unfold J7 at h
    |unfold J8 at h
    |unfold J9 at h
    |unfold QZ at h
    |unfold Z9 at h
    |unfold sM at h
    |unfold J13 at h
    |unfold J14 at h
    |unfold J15 at h
    |unfold J16 at h
    |unfold J17 at h
    |unfold J18 at h
    |unfold J19 at h
    |unfold J20 at h
    |unfold J21 at h
    |unfold J22 at h
    |unfold J23 at h
    |unfold J24 at h
    |unfold J25 at h
    |unfold J26 at h
    |unfold J27 at h
    |unfold J28 at h
    |unfold J29 at h
    |unfold J30 at h
    |rw[AZ]at h
    |rw[Cr]at h
    |rw[Gq]at h
    |rw[yG]at h
    |contradiction
    |with_reducible rfl):p:=q
end Go.Abs
namespace Go.Abs
inductive A where
 |f (o s:Nat)|F (o s:Nat)|H (r o s:Nat)|h (r o s:Nat)|m (r o s:Nat)|u (o s:Nat)|U (o s:Nat)|L (s:Nat)|l (r s:Nat)|C (s:Nat)
 |Q (s:Nat) (k:Int)|q (s:Nat) (k:Int) (d:Nat)|P (op:BinOp) (s:Nat) (k:Int)|O (op:BinOp) (a b:Nat)|M (d s:Nat)|K (d:Nat) (k:Int)|B (d:Nat) (b:Bool)
 |S (k a b:Nat)|T (a:Nat) (k:Int)|I (k s i:Nat)|J (r k s i:Nat)|A (k s:Nat)|Z (s:Nat)|V (a b:Nat)|W (a b:Nat)|N (s:Nat)|Y (k:Int)
 |p (s o:Nat)|r (s o:Nat)|D (s:Nat)|c (f:Nat) (l:List Nat) (m:Nat)|G (a:Nat) (b:Bool)|e|w (n:Nat)|o (op:ZR)|y (r:Nat) (op:ZR)|x (op:BN)|b (d:Nat) (kl:List Nat) (op:ZR)
def tN:List Nat->List Ar
 |[]=>[]
 |s::l=>.t s::tN l
def NZ:AB8 (Nat×Bool)->Nat->List A->List BN
 |_,_,[]=>[]
 |g,n,.f o s::l=>⟨some ⟨n,[],[s]⟩,.VK o (.t s),g⟩::⟨some ⟨n+1,[],[]⟩,.ld false 1 (.t n),g⟩::NZ g (n+2) l
 |g,n,.F o s::l=>⟨some ⟨n,[],[s]⟩,.VK o (.t s),g⟩::NZ g (n+1) l
 |g,n,.H r o s::l=>⟨some ⟨n,[],[r]⟩,.VK o (.t s),g⟩::NZ g (n+1) l
 |g,n,.h r o s::l=>⟨some ⟨n,[],[r]⟩,.VK o (.t s),g⟩::⟨some ⟨n+1,[],[]⟩,.ld false 1 (.t n),g⟩::NZ g (n+2) l
 |g,n,.m r o s::l=>⟨some ⟨n,[],[r]⟩,.VK o (.t s),g⟩::⟨some ⟨n+1,[],[r]⟩,.ld false 1 (.t n),g⟩::NZ g (n+2) l
 |g,n,.u o s::l=>⟨some ⟨n,[],[]⟩,.VK o (.t s),g⟩::NZ g (n+1) l
 |g,n,.U o s::l=>⟨some ⟨n,[],[]⟩,.VK o (.t s),g⟩::⟨some ⟨n+1,[],[]⟩,.ld false 1 (.t n),g⟩::NZ g (n+2) l
 |g,n,.L s::l=>⟨some ⟨n,[],[]⟩,.ld false 1 (.t s),g⟩::NZ g (n+1) l
 |g,n,.l r s::l=>⟨some ⟨n,[],[r]⟩,.ld false 1 (.t s),g⟩::NZ g (n+1) l
 |g,n,.C s::l=>⟨some ⟨n,[],[]⟩,.cp (.t s),g⟩::NZ g (n+1) l
 |g,n,.Q s k::l=>⟨some ⟨n,[],[]⟩,.bin .eql (.t s) (.c (.sc (.int .i64 k))),g⟩::NZ g (n+1) l
 |g,n,.q s k d::l=>⟨some ⟨n,[],[]⟩,.bin .eql (.t s) (.c (.sc (.int .i64 k))),g⟩::⟨some ⟨d,[],[]⟩,.mv (.t n),g⟩::NZ g (n+1) l
 |g,n,.P op s k::l=>⟨some ⟨n,[],[]⟩,.bin op (.t s) (.c (.sc (.int .i64 k))),g⟩::NZ g (n+1) l
 |g,n,.O op a b::l=>⟨some ⟨n,[],[]⟩,.bin op (.t a) (.t b),g⟩::NZ g (n+1) l
 |g,n,.M d s::l=>⟨some ⟨d,[],[]⟩,.mv (.t s),g⟩::NZ g n l
 |g,n,.K d k::l=>⟨some ⟨d,[],[]⟩,.mv (.c (.sc (.int .i64 k))),g⟩::NZ g n l
 |g,n,.B d b::l=>⟨some ⟨d,[],[]⟩,.mv (.c (.sc (.bool b))),g⟩::NZ g n l
 |g,n,.S k a b::l=>⟨none,.st k (.t a) (.t b),g⟩::NZ g n l
 |g,n,.T a k::l=>⟨none,.st 1 (.t a) (.c (.sc (.int .i64 k))),g⟩::NZ g n l
 |g,n,.I k s i::l=>⟨some ⟨n,[],[]⟩,.W4 k (.t s) (.t i),g⟩::NZ g (n+1) l
 |g,n,.J r k s i::l=>⟨some ⟨n,[],[r]⟩,.W4 k (.t s) (.t i),g⟩::NZ g (n+1) l
 |g,n,.A k s::l=>⟨some ⟨n,[],[]⟩,.ld true k (.t s),g⟩::NZ g (n+1) l
 |g,n,.Z s::l=>⟨some ⟨n,[],[]⟩,.len (.t s),g⟩::NZ g (n+1) l
 |g,n,.V a b::l=>⟨some ⟨n,[],[]⟩,.pick (.t a) (.c (.sc (.bool true))) (.t b),g⟩::NZ g (n+1) l
 |g,n,.W a b::l=>⟨some ⟨n,[],[]⟩,.pick (.t a) (.t b) (.c (.sc (.bool false))),g⟩::NZ g (n+1) l
 |g,n,.N s::l=>⟨some ⟨n,[],[]⟩,.un .not (.t s),g⟩::NZ g (n+1) l
 |g,n,.Y k::l=>⟨some ⟨n,[],[]⟩,.cp (.c (.sc (.int .i64 k))),g⟩::NZ g (n+1) l
 |g,n,.p s o::l=>⟨some ⟨n,[],[s]⟩,.cp (.t s),g⟩::⟨some ⟨n+1,[],[s]⟩,.KK (.t n),g⟩::⟨some ⟨n+2,[],[s]⟩,.VK o (.t (n+1)),g⟩::⟨some ⟨n+3,[],[]⟩,.ld false 1 (.t (n+2)),g⟩::NZ g (n+4) l
 |g,n,.r s o::l=>⟨some ⟨n,[],[s]⟩,.cp (.t s),g⟩::⟨some ⟨n+1,[],[s]⟩,.KK (.t n),g⟩::⟨some ⟨n+2,[],[s]⟩,.VK o (.t (n+1)),g⟩::⟨some ⟨n+3,[],[s]⟩,.ld false 1 (.t (n+2)),g⟩::NZ g (n+4) l
 |g,n,.D s::l=>⟨some ⟨n,[],[s]⟩,.cp (.t s),g⟩::⟨some ⟨n+1,[],[s]⟩,.KK (.t n),g⟩::NZ g (n+2) l
 |g,n,.c f a m::l=>⟨some ⟨n,[],[]⟩,.call f (tN a) m,g⟩::NZ g (n+1) l
 |_,n,.G a b::l=>NZ (some (a,b)) n l
 |_,n,.e::l=>NZ none n l
 |g,_,.w n::l=>NZ g n l
 |g,n,.o op::l=>⟨some ⟨n,[],[]⟩,op,g⟩::NZ g (n+1) l
 |g,n,.y r op::l=>⟨some ⟨n,[],[r]⟩,op,g⟩::NZ g (n+1) l
 |g,n,.x op::l=>op::NZ g n l
 |g,n,.b d k op::l=>⟨some ⟨d,k,[]⟩,op,g⟩::NZ g n l
def Ra (n:Nat) (l:List A) (b:IC):IC:=.seq (.PR (NZ none n l)) b
def Rb (n:Nat) (l:List A):IC:=.seq (.PR (NZ none n l)) .ret
def Rc (n:Nat) (l:List A):IC:=.PR (NZ none n l)
def Cn (c:Nat) (a b:IC):IC:=.cond (.t c) a b
def Ci (c:Nat) (a:IC):IC:=.cond (.t c) a .skip
def Sq (a b:IC):IC:=.seq a b
def Bk (n:Nat) (a:IC):IC:=.block n a
def Bl (n:Nat) (a:IC):IC:=.block n (.loop a)
attribute [go_sem] tN NZ Ra Rb Rc Cn Ci Sq Bk Bl
abbrev vS {α:Type} (k:Nat) (e:α->List AV) (l:List α):AV:=.sl false k (l.map e)
abbrev vO {α:Type} (k:Nat) (e:α->List AV) (l:List α):AV:=.own false k (l.map e)
attribute [go_sem] vS vO
section
variable {P:Program} {f:Nat} {fn:Func} {I:FI} {args:List AV} {res:AV} {outs:List AV}
theorem wO (hm:P.follows .mixedOrders=true) (hf:P.funcs[f]? =some fn) (h:ID P I.g I.c (Ends I.g I.r res) (start args)) (hc:Lj P fn I=true:=by kernel_rfl) (hn:args.length≤fn.ntmps:=by exact AAq (by kernel_rfl)) (ha:args.all I7=true:=by rfl):Says P f args res:=JX hm hf hc hn ha h
theorem wL (hm:P.follows .mixedOrders=true) (hf:P.funcs[f]? =some fn) (h:ID P I.g I.c (XH I.g I.r res outs) (start args)) (hc:Lj P fn I=true:=by kernel_rfl) (hD:iD fn args.length=true:=by kernel_rfl) (hn:args.length≤fn.ntmps:=by exact AAq (by kernel_rfl)) (ha:args.all I7=true:=by rfl) (hl:outs.length=args.length:=by rfl):BA P f args res outs:=lB hm hf hc hD hn ha hl h
theorem wP (hm:P.follows .mixedOrders=true) (hf:P.funcs[f]? =some fn) (h:ID P I.g I.c (fV I.g I.r res outs) (start args)) (hc:Lj P fn I=true:=by kernel_rfl) (hD:iD fn args.length=true:=by kernel_rfl) (hn:args.length≤fn.ntmps:=by exact AAq (by kernel_rfl)) (ha:args.all I7=true:=by rfl) (hl:outs.length=args.length:=by rfl):BA P f args res outs:=cD hm hf hc hD hn ha hl h
end
end Go.Abs
namespace Go.Abs
inductive Yk where
 |b|t|i (k:IntKind)|s (l q:List Nat)|l (k b:Nat) (z:List AV)|a (n k:Nat) (g:Bool)|o
structure Y where
 z:List AV
 k:Yk
def lk {α:Type} (d:α):List (Nat×α)->Nat->α
 |[],_=>d
 | (k,x)::l,n=>if k=n then x else lk d l n
structure Hn where
 T:List (Nat×Y)
 C:List (Nat×Nat)
 L:List (Nat×Nat×AB8 Nat)
 K:List (Nat×List Nat)
 Q:List (Nat×Nat)
 Z:List (Nat×Bool×Nat×List Step)
 F:List Nat
 E:List (Nat×IC)
def Hn.y (H:Hn) (t:Nat):Y:=lk ⟨[.sc (.int .i64 0)],.o⟩ H.T t
def Hn.n (H:Hn) (t:Nat):Nat:=(H.y t).z.length
def Hn.g (H:Hn) (t:Nat):Bool:=match(H.y t).k with
 | .s .. =>true
 | .a .. =>true
 |_=>false
def Hn.e (H:Hn) (t:Nat):Nat:=match(H.y t).k with
 | .l k .. =>k
 | .a _ k _=>k
 |_=>1
def fOf:Nat->List Nat->Nat->Nat×Nat×Bool
 |o,0::_,0=>(o,1,false)
 |o,n::_,0=>(o,n,true)
 |o,0::l,i+1=>fOf (o+1) l i
 |o,n::l,i+1=>fOf (o+n) l i
 |o,[],_=>(o,1,false)
def Hn.f (H:Hn) (t i:Nat):Nat×Nat×Bool:=match(H.y t).k with
 | .s l _=>fOf 0 l i
 | .a _ k g=>(i*k,k,g)
 |_=>(0,1,false)
def Hn.zv (H:Hn) (t:Nat):AV:=if H.g t then .agg (H.y t).z else(H.y t).z.headD .un
def inA (d:Nat):List Nat->Bool
 |[]=>false
 |x::l=>match compare x d with
  | .lt=>inA d l
  | .eq=>true
  | .gt=>false
def rsK (d:Nat):List (Nat×List Nat)->List Nat
 |[]=>[]
 | (r,x)::l=>if inA d x then r::rsK d l else rsK d l
def Hn.rs (H:Hn) (d:Nat):List Nat:=rsK d H.K
def Hn.d (H:Hn) (d:Nat):Dn:=⟨d,lk [] H.K d,H.rs d⟩
def insA (x:Nat):List Nat->List Nat
 |[]=>[x]
 |y::l=>match compare x y with
  | .lt=>x::y::l
  | .eq=>y::l
  | .gt=>y::insA x l
def mrg:List (Nat×List Nat)->List Nat
 |[]=>[]
 |[(_,l)]=>l
 | (_,l)::k=>(mrg k).foldl (λa x=>insA x a) l
def Hn.G (H:Hn):Gi:=⟨(mrg H.K).map λd=>(d,H.rs d)⟩
def cst (H:Hn) (t:Nat) (f:Bool):Value->AV
 | .slice none 0 0=>if f then .sl false (H.e t) []else .own false (H.e t) []
 | .agg _=>.agg (H.y t).z
 |v=>.sc v
def oa (H:Hn) (t:Nat):Operand->Ar
 | .tmp s=>.t s
 | .const v=>.c (cst H t false v)
 |_=>.c .un
def of (H:Hn) (t:Nat) (f:Bool):Operand->Ar
 | .const v=>.c (cst H t f v)
 |x=>oa H t x
def oas (H:Hn):List Operand->List Nat->List Ar
 |x::l,t::m=>oa H t x::oas H l m
 |_,_=>[]
def gop (H:Hn) (ty:Nat) (f:Bool):Op->ZR
 | .move x=>.cp (of H ty f x)
 | .assign x=>.mv (of H ty f x)
 | .pick c a b=>.pick (oa H 0 c) (oa H 0 a) (oa H 0 b)
 | .alloc t=>.bx (H.n t) (.c (H.zv t))
 | .box t x=>.bx (H.n t) (oa H t x)
 | .build t ps=>.Uc (H.y t).z (ps.toList.map λp=>((H.f t p.1).1,(H.f t p.1).2.1,oa H 0 p.2))
 | .buildSlice t n ps=>match(H.y t).k with
  | .l k _ z=>.Na k (List.replicate n z) (ps.toList.map λp=>(p.1,oa H 0 p.2))
  |_=>.bad
 | .load t a=>.ld (H.g t) (H.n t) (oa H 0 a)
 | .store t a v=>.st (H.n t) (oa H 0 a) (oa H t v)
 | .nilCheck x=>.KK (oa H 0 x)
 | .binOp op t x y _=>match(H.y t).k with
  | .b=>.beq (match op with| .neq=>true|_=>false) (oa H 0 x) (oa H 0 y)
  | .s _ q=>.Wf (match op with| .neq=>true|_=>false) q (oa H t x) (oa H t y)
  |_=>.bin op (oa H 0 x) (oa H 0 y)
 | .unOp op _ x=>.un op (oa H 0 x)
 | .convert _ d x=>.cvt (match(H.y d).k with| .i k=>k|_=>.i64) (oa H 0 x)
 | .fieldAddr t x f=>.VK (H.f t f).1 (oa H 0 x)
 | .field t x f=>.fld (H.f t f).2.2 (H.f t f).1 (H.f t f).2.1 (oa H 0 x)
 | .indexAddr t x i=>match(H.y t).k with
  | .a n k _=>.aad n k (oa H 0 x) (oa H 0 i)
  |_=>.W4 (H.e t) (oa H 0 x) (oa H 0 i)
 | .index t x i=>match(H.y t).k with
  | .a n k g=>.idx g n k (oa H 0 x) (oa H 0 i)
  |_=>.lE (oa H 0 x) (oa H 0 i)
 | .slice t x l h m=>.zC (H.e t) true (oa H 0 x) (l.map (oa H 0)) (h.map (oa H 0)) (m.map (oa H 0))
 | .extract x i=>.ext (oa H 0 x) i
 | .makeSlice t l c=>match(H.y t).k with
  | .l k b z=>.mk k b z (oa H 0 l) (oa H 0 c)
  |_=>.bad
 | .call c=>match c.callee,oas H c.args.toList c.argTypes.toList,c.argTypes.toList with
  | .builtin .len,[x],[t]=>(match(H.y t).k with| .t=>.Z6 x|_=>.len x)
  | .builtin .append,[x,y],t::_=>(match(H.y t).k with| .l k b _=>.app k b x y|_=>.bad)
  | .builtin .max,[x,y],_=>.mm true x y
  | .builtin .min,[x,y],_=>.mm false x y
  | .value (.func f),xs,_=>(match lk none (H.L.map λx=>(x.1,some x.2)) f with
   |some (i,c)=>(match xs.drop i with|x::post=>.VW f (xs.take i) x c post|_=>.bad)
   |none=>.call f xs (lk 0 H.C f))
  |_,_,_=>.bad
 |_=>.bad
def gor (H:Hn) (ops:Array Oper) (o:Oper):BN:=⟨o.dst.map H.d,gop H o.type (match o.dst with|some d=>H.F.contains d|none=>false) o.op,o.guard.map λg=>(((ops[g.1]?).bind (·.dst)).getD 0,g.2)⟩
def gzw:List (Nat×Bool×Nat×List Step)->Nat->IC->IC
 |[],_,c=>c
 | (i,b,r,p)::l,n,c=>gzw l n (if i=n then .gz b r p c else c)
def rgn (H:Hn) (id:Nat) (ops:Array Oper):IC:=match lk none (H.E.map λx=>(x.1,some x.2)) id with
 |some c=>c
 |none=>gzw H.Z id (.PR (ops.toList.map (gor H ops)))
def gco (H:Hn) (C:Nat->IC->IC->IC) (R:Nat->Array Oper->IC):Nat->Code->Nat×IC
 |n,.region id ops _=>(n,R id ops)
 |n,.seq a b=>match gco H C R (n+1) a with
  | (m,a')=>match gco H C R m b with
   | (k,b')=>(k,match lk 0 H.Q n with|0=>.seq a' b'|j=>C j a' b')
 |n,.cond c a b=>match gco H C R n a with
  | (m,a')=>match gco H C R m b with
   | (k,b')=>(k,.cond (oa H 0 c) a' b')
 |n,.block id a=>match gco H C R n a with| (m,a')=>(m,.block id a')
 |n,.loop a=>match gco H C R n a with| (m,a')=>(m,.loop a')
 |n,.scope a=>match gco H C R (n+1) a with| (m,a')=>(m,.seq .skip a')
 |n,.exit id=>(n,.exit id)
 |n,.ret=>(n,.ret)
 |n,.skip=>(n,.skip)
 |n,.label _=>(n,.skip)
 |n,_=>(n,.bad)
def mkI (H:Hn) (C:Nat->IC->IC->IC) (R:Nat->Array Oper->IC) (fn:Func):FI:=⟨(gco H C R 0 (fn.body.getD .skip)).2,H.G,fn.results.toList.map λ
 | .tmp t=>.tmp t
 | .cell a t=>.cell a (H.g t) (H.n t)⟩
theorem arrMk {a:Type} (l:List a):Array.mk l=l.toArray:=(rfl)
attribute [go_sem] arrMk
theorem awp_cg {P:Program} {G:Gi} {c:IC} {Q:Exit->Sg->Prop} {σ τ:Sg} (h:σ=τ):ID P G c Q σ=ID P G c Q τ:=h▸rfl
theorem aops_cg {P:Program} {G:Gi} {l:List BN} {K:Sg->Prop} {σ τ:Sg} (h:σ=τ):OA P G l K σ=OA P G l K τ:=h▸rfl
theorem bK_cg {K:Sg->Prop} {x y:AB8 Sg} (h:x=y):bK x K=bK y K:=h▸rfl
theorem condK_cg {a b:Sg->Prop} {x y:AV} {σ τ:Sg} (h:x=y) (g:σ=τ):TE x a b σ=TE y a b τ:=h▸g▸rfl
theorem gK_cg {a b:Sg->Prop} {w:Bool} {x y:AV} {σ τ:Sg} (h:x=y) (g:σ=τ):gK x w a b σ=gK y w a b τ:=h▸g▸rfl
theorem toDst_cg {d:AB8 Dn} {v u:AV} {K:Sg->Prop} {σ τ:Sg} (h:v=u) (g:σ=τ):C3 d v K σ=C3 d u K τ:=h▸g▸rfl
theorem resK_cg {d:AB8 Dn} {v u:AB8 AV} {K:Sg->Prop} {σ τ:Sg} (h:v=u) (g:σ=τ):pP v d K σ=pP u d K τ:=h▸g▸rfl
attribute [congr] awp_cg aops_cg bK_cg condK_cg gK_cg toDst_cg resK_cg
section
variable {P:Program} {f:Nat} {fn:Func} {args:List AV} {res:AV} {outs:List AV}
def Run (P:Program) (fn:Func) (H:Hn) (E:Gi->List RV->Exit->Sg->Prop) (args:List AV):Prop:=∀C R I,C=Nf->R=rgn H->mkI H C R fn=I->ID P I.g I.c (E I.g I.r) (start args)
theorem kO (hm:P.follows .mixedOrders=true) (hf:P.funcs[f]? =some fn) (H:Hn) (h:Run P fn H (Ends · · res) args) (hc:Lj P fn (mkI H Nf (rgn H) fn)=true:=by kernel_rfl) (hn:args.length≤fn.ntmps:=by exact AAq (by kernel_rfl)) (ha:args.all I7=true:=by rfl):Says P f args res:=JX hm hf hc hn ha (h _ _ _ rfl rfl rfl)
theorem kF (hm:P.follows .mixedOrders=true) (hf:P.funcs[f]? =some fn) (H:Hn) (h:Run P fn H (qC · · res) args) (hc:Lj P fn (mkI H Nf (rgn H) fn)=true:=by kernel_rfl) (hn:args.length≤fn.ntmps:=by exact AAq (by kernel_rfl)) (ha:args.all I7=true:=by rfl):Says P f args res:=kY hm hf hc hn ha (h _ _ _ rfl rfl rfl)
theorem kL (hm:P.follows .mixedOrders=true) (hf:P.funcs[f]? =some fn) (H:Hn) (h:Run P fn H (XH · · res outs) args) (hc:Lj P fn (mkI H Nf (rgn H) fn)=true:=by kernel_rfl) (hD:iD fn args.length=true:=by kernel_rfl) (hn:args.length≤fn.ntmps:=by exact AAq (by kernel_rfl)) (ha:args.all I7=true:=by rfl) (hl:outs.length=args.length:=by rfl):BA P f args res outs:=lB hm hf hc hD hn ha hl (h _ _ _ rfl rfl rfl)
theorem kP (hm:P.follows .mixedOrders=true) (hf:P.funcs[f]? =some fn) (H:Hn) (h:Run P fn H (fV · · res outs) args) (hc:Lj P fn (mkI H Nf (rgn H) fn)=true:=by kernel_rfl) (hD:iD fn args.length=true:=by kernel_rfl) (hn:args.length≤fn.ntmps:=by exact AAq (by kernel_rfl)) (ha:args.all I7=true:=by rfl) (hl:outs.length=args.length:=by rfl):BA P f args res outs:=cD hm hf hc hD hn ha hl (h _ _ _ rfl rfl rfl)
end
end Go.Abs
namespace Go.Abs
open Go.ChangeShapes Go.WideShapes Go.ChangeAt Go.RowKit
def Old (w:World) (b:Nat):Prop:=b<w.heap.size
def Cells (w:World) (Hq:List AV) (cs:List Value):Prop:=Hq.length=cs.length/\∀(i:Nat) a v,Hq[i]? =some a->cs[i]? =some v->Fz w (Old w) a v
theorem Cells.append {w:World} {e f:List AV} {g h:List Value} (b:Cells w e g) (j:Cells w f h):Cells w (e++f) (g++h):=by
 refine⟨by simp[b.1,j.1],λi a v d c=> ?_⟩;by_cases hi:i<e.length
 . rw[ABA hi]at d;rw[ABA (by rw[← b.1];exact hi)]at c;exact b.2 i a v d c
 . rw[ABC (by omega)]at d;rw[ABC (by rw[← b.1];omega)]at c;rw[← b.1]at c;exact j.2 _ a v d c
theorem Cells.nil (w:World):Cells w [] []:=⟨rfl,λi a v h=>by simp at h⟩
theorem Cells.one {w:World} {a:AV} {v:Value} (h:Fz w (Old w) a v):Cells w [a] [v]:=by
 refine⟨rfl,λi d e b c=> ?_⟩;cases i with
 |zero=>simp at b c;subst b;subst c;exact h
 |succ i=>simp at b
def Light {H:Type} (P:Program) (t:TypeId) (d:DataW H):Prop:=∀n∈d.weights P t,n≤reachBytes
def N7 (P:Program) (t:TypeId) (X:List AV->Prop):Prop:=
 ∀(H:Type) (enc:TypeId×Value->H) (w:World) (fuel:Nat) (cs:List Value) (d:DataW H) (ps:List MemPlace),
  DataW.trod enc P w 0 (λ_=>true) true fuel t cs=some (d,ps)->Light P t d->∃Hq,X Hq/\Cells w Hq cs
theorem N7.mono {P:Program} {t:TypeId} {X Y:List AV->Prop} (h:N7 P t X) (b:∀a,X a->Y a):N7 P t Y:=by intro H enc w fuel e d k i g;obtain⟨c,j,f⟩:=h H enc w fuel e d k i g;exact⟨c,b _ j,f⟩
theorem lY {P:Program} {t:TypeId} {k:IntKind} (h:P.underlying t=some (.int k)):N7 P t (λe=>∃n,e=[.sc (.int k n)]/\(Lit.int k n).wf=true):=by
 intro H enc w fuel f d i a g;cases fuel with
 |zero=>simp[DataW.trod]at a
 |succ fuel=>
  unfold DataW.trod at a;rw[h]at a;split at a<;>rename_i c<;>try (cases c;done)
  . cases c;split at a
    . rename_i b;obtain⟨rfl,b⟩:=b;exact⟨_,⟨_,rfl,b⟩,Cells.one (.sc _ rfl)⟩
    . cases a
  . cases a
theorem S8 {w:World} {a:Addr} {n:Nat} {c:List Value} (h:w.cells? 0 a n=some c):c.length=n/\∀(j:Nat) v,c[j]? =some v->w.cell? (a.add j)=some v:=by
 unfold World.cells? at h;rw[AAs (Nat.zero_le _)]at h;have b:=mapM_some_length h;rw[List.length_range]at b;refine⟨b,λj v e=> ?_⟩;have d:j<n:=by rw[← b];exact(AAj.1 e).1
 have:=mapM_some_get h j j (by simp[d]);rw[this];exact e
theorem ZM {H:Type} {P:Program} {e:TypeId} {l:List (DataW H)} {d:DataW H} (hd:d∈l) {n:Nat} (hn:n∈d.weights P e):n∈DataW.weightsAll P e l:=by
 induction l with
 |nil=>simp at hd
 |cons x l ih=>
  rw[DataW.weightsAll,AAz];rcases ABH.1 hd with rfl|hd
  . exact .inl hn
  . exact .inr (ih hd)
theorem qM {w:World} {a:Addr} {v:Value} (h:w.cell? a=some v):a.spot=none/\a.block<w.heap.size:=by
 unfold World.cell? at h;split at h
 . rename_i c e f1 f2 b;refine⟨?_,(ABN.1 b).1⟩;cases hs:a.spot with
   |none=>rfl
   |some x=>simp[hs]at h
 . cases h
theorem kC {P:Program} {t e:TypeId} {k:Nat} {X:List AV->Prop} (h:P.underlying t=some (.slice e)) (hk:P.cellsOf e=k) (oN:0<k) (he:N7 P e X):
 N7 P t (λB=>∃rows,B=[.sl false k rows]/\(∀g∈rows,X g/\g.length=k)/\rows.length*P.bytesOf e≤reachBytes):=by
 intro H enc w fuel cs d ps m Q;cases fuel with
 |zero=>simp[DataW.trod]at m
 |succ fuel=>
  unfold DataW.trod at m;rw[h]at m;split at m<;>rename_i T<;>try (cases T;done)
  . exact⟨_,⟨[],rfl,by simp,by simp⟩,Cells.one (.nil _ _ _ _ (by simp))⟩
  . rename_i V a len cap;obtain rfl:e=V:=(by simpa using T);simp only[hk]at m;split at m
    . rename_i hc;cases hm:(List.range len).mapM (λi=>(w.cells? 0 (a.add (i*k)) k).bind (DataW.trod enc P w 0 (λ_=>true) true fuel e))with
      |none=>simp[hm]at m
      |some elems=>
       rw[hm]at m;simp only[AAg,AA5,AA6,AAv]at m;obtain⟨r,_,rfl,_⟩:=m;have G:elems.length=len:=by have:=mapM_some_length hm;simpa using this
       -- each element
       have u:∀i,i<len->∃o x B,w.cells? 0 (a.add (i*k)) k=some o/\elems[i]? =some x/\X B/\Cells w B o:=by
        intro i hi
        have:=mapM_some_get hm i i (by simp[hi]);cases Ue:w.cells? 0 (a.add (i*k)) k with
        |none=>rw[Ue]at this;have l:elems[i]? =some elems[i]:=AAo (by omega);rw[l]at this;simp at this
        |some o=>rw[Ue]at this;have l:elems[i]? =some elems[i]:=AAo (by omega);rw[l,AAg]at this;obtain⟨B,hx,O⟩:=he H enc w fuel o elems[i].1 elems[i].2 this (λn hn=>Q n (by rw[DataW.weights,h];simp only[ABH,AAz];exact .inr (.inl (ZM (ABm (AA0 (by omega))) hn))));exact⟨o,_,B,rfl,l,hx,O⟩
       have hw:∃f:Nat->List AV×List Value,∀i,i<len->w.cells? 0 (a.add (i*k)) k=some (f i).2/\X (f i).1/\Cells w (f i).1 (f i).2:=by
        refine⟨λi=>if hi:i<len then((u i hi).choose_spec.choose_spec.choose,(u i hi).choose)else([],[]),λi hi=> ?_⟩
        have:=(u i hi).choose_spec.choose_spec.choose_spec;simp only[hi,dif_pos];exact⟨this.1,this.2.2⟩
       obtain⟨f,E⟩:=hw
       let rows:=(List.range len).map λi=>(f i).1
       have J:rows.length=len:=(by simp[rows]);have K:∀i g,rows[i]? =some g->i<len/\g=(f i).1:=(by intro i g y;have hi:i<len:=(by rw[← J];exact(AAj.1 y).1);refine⟨hi,?_⟩;simp only[rows,AAt,List.getElem?_range hi,AA9,AAh]at y;exact y.symm);have z:∀i,i<len->(f i).1.length=k:=λi hi=>(by rw[(E i hi).2.2.1];exact(S8 (E i hi).1).1);refine⟨_,⟨rows,rfl,?_,?_⟩,Cells.one ?_⟩
       . intro g y;obtain⟨i,hi⟩:=List.mem_iff_getElem?.1 y;obtain⟨l,rfl⟩:=K i g hi;exact⟨(E i l).2.1,z i l⟩
       . have:=Q ((elems.map (·.1)).length+(r.map (·.1)).length) |> λ_=>Q (((elems.map (·.1)).length+(r.map (·.1)).length)*P.bytesOf e) (by rw[DataW.weights,h];simp);rw[J];refine ABc (ABQ _ ?_) this;simp[G]
       . by_cases Z:len=0
         . subst Z;have p:rows=[]:=ABs J;rw[p];exact .nil _ _ _ _ (by simp)
         . have L:∀i j g c,rows[i]? =some g->g[j]? =some c->∃v,(f i).2[j]? =some v/\w.cell? ((a.add (i*k)).add j)=some v/\Fz w (Old w) c v:=(by intro i j g c l C;obtain⟨s,rfl⟩:=K i g l;have hj:j<(f i).2.length:=(by rw[← (E i s).2.2.1];exact(AAj.1 C).1);have D:(f i).2[j]? =some (f i).2[j]:=AAo hj;exact⟨_,D,(S8 (E i s).1).2 j _ D,(E i s).2.2.2 j c _ C D⟩);obtain⟨F,p⟩:∃F,rows[0]? =some F:=⟨rows[0]'(by omega),AAo _⟩;obtain⟨_,W⟩:=K 0 F p;obtain⟨M,N⟩:∃M,F[0]? =some M:=⟨F[0]'(by rw[W,z 0 (by omega)];exact oN),AAo _⟩;obtain⟨v0,_,R,_⟩:=L 0 0 F M p N;obtain⟨q,TQ⟩:=qM R;obtain⟨b,off,U⟩:=a;obtain rfl:U=none:=by
            unfold Addr.add at q;simp only[AA5]at q;split at q
            . exact q
            . cases U<;>simp_all
           rw[Addr.add_lit,Addr.add_lit]at TQ;have I:=Fz.sl (w:=w) (S:=Old w) false k rows b off cap (λi j=>((f i).2[j]?).getD undef) (by simp) (by rw[J];exact hc.2.1) TQ (by
            intro g y;obtain⟨i,hi⟩:=List.mem_iff_getElem?.1 y;obtain⟨l,rfl⟩:=K i g hi;exact z i l) (by
            intro i j g c l C;obtain⟨v,s,D,_⟩:=L i j g c l C;rw[s];rw[Addr.add_lit,Addr.add_lit]at D;rw[show off+(i*k+j)=off+i*k+j from by omega];exact D) (by
            intro i j g c l C;obtain⟨v,s,_,h6⟩:=L i j g c l C;rw[s];exact h6)
           rw[J]at I;exact I
    . cases m
  . cases m
end Go.Abs
namespace Go.Abs
open Go.ChangeShapes Go.WideShapes Go.ChangeAt Go.RowKit
def CatX:List (List AV->Prop)->List AV->Prop
 |[],Hq=>Hq=[]
 |X::Xs,Hq=>∃a r,Hq=a++r/\X a/\CatX Xs r
def mE (P:Program):List Field->Nat->List (List AV->Prop)->Prop
 |[],_,[]=>True
 |f::fs,off,X::Xs=>f.offset=off/\N7 P f.type X/\mE P fs (off+P.cellsOf f.type) Xs
 |_,_,_=>False
def Nh (P:Program):List Field->Nat->Nat
 |[],off=>off
 |f::fs,off=>Nh P fs (off+P.cellsOf f.type)
theorem eM {P:Program} {H:Type} {enc:TypeId×Value->H} {w:World} {fuel:Nat} {c:List Value} (b:List Field):∀(off:Nat) (Xs:List (List AV->Prop)) (k:List (DataW H×List MemPlace)),mE P b off Xs->Nh P b off≤c.length->
 b.mapM (λf=>DataW.trod enc P w 0 (λ_=>true) true fuel f.type ((c.drop f.offset).take (P.cellsOf f.type)))=some k->(∀n∈DataW.weightsEach P (b.map (·.type)) (k.map (·.1)),n≤reachBytes)->
 ∃p,CatX Xs p/\Cells w p ((c.drop off).take (Nh P b off-off)):=by
 induction b with
 |nil=>
  intro off Xs k d i h j;cases Xs with
  |nil=>exact⟨[],rfl,by simp[Nh,Cells.nil]⟩
  |cons=>exact d.elim
 |cons f b ih=>
  intro off Xs k d i h j;cases Xs with
  |nil=>exact d.elim
  |cons X Xs=>
   obtain⟨u,s,d⟩:=d;rw[List.mapM_cons]at h;cases h1:DataW.trod enc P w 0 (λ_=>true) true fuel f.type ((c.drop f.offset).take (P.cellsOf f.type))with
   |none=>simp[h1]at h
   |some x=>
    cases h2:b.mapM (λf=>DataW.trod enc P w 0 (λ_=>true) true fuel f.type ((c.drop f.offset).take (P.cellsOf f.type)))with
    |none=>simp[h1,h2]at h
    |some ys=>
     simp only[h1,h2,Option.pure_def,Option.bind_eq_bind,AAg,AAh]at h;subst h;simp only[AAy,DataW.weightsEach,AAz]at j;obtain⟨a,t,q⟩:=s H enc w fuel _ x.1 x.2 h1 (λn hn=>j n (.inl hn));obtain⟨r,v,m⟩:=ih (off+P.cellsOf f.type) Xs ys d (by simpa[Nh]using i) h2 (λn hn=>j n (.inr hn));refine⟨a++r,⟨a,r,rfl,t,v⟩,?_⟩;have y:∀(l:List Field) (o:Nat),o≤Nh P l o:=by
      intro l;induction l with
      |nil=>intro o;exact AA8 _
      |cons g l ih=>intro o;have:=ih (o+P.cellsOf g.type);simp only[Nh];omega
     have z:=y b (off+P.cellsOf f.type);have e:(c.drop off).take (Nh P (f::b) off-off)=(c.drop f.offset).take (P.cellsOf f.type)++(c.drop (off+P.cellsOf f.type)).take (Nh P b (off+P.cellsOf f.type)-(off+P.cellsOf f.type)):=(by rw[u,← List.drop_drop];simp only[Nh];rw[show Nh P b (off+P.cellsOf f.type)-off=P.cellsOf f.type+(Nh P b (off+P.cellsOf f.type)-(off+P.cellsOf f.type))from by omega,List.take_add]);rw[e];exact q.append m
theorem eN {P:Program} {t:TypeId} {b:Array Field} {Xs:List (List AV->Prop)} (h:P.underlying t=some (.struct b)) (k:mE P b.toList 0 Xs) (g:Nh P b.toList 0=P.cellsOf t):N7 P t (CatX Xs):=by
 intro H enc w fuel j d o a m;cases fuel with
 |zero=>simp[DataW.trod]at a
 |succ fuel=>
  simp only[DataW.trod,h]at a
  . split at a
    . rename_i e;cases hm:b.toList.mapM (λf=>DataW.trod enc P w 0 (λ_=>true) true fuel f.type ((j.drop f.offset).take (P.cellsOf f.type)))with
      |none=>simp[hm]at a
      |some xs=>simp only[hm,AA9,AAh,AAv]at a;obtain⟨rfl,rfl⟩:=a;obtain⟨i,l,c⟩:=eM b.toList 0 Xs xs k (by rw[g,e];exact AA8 _) hm (λn hn=>m n (by rw[DataW.weights,h];exact hn));refine⟨i,l,?_⟩;rw[g,← e]at c;simpa using c
    . cases a
def ZZ (P:Program) (t:TypeId) (Hq:List AV):AV:=if(match P.underlying t with|some (.struct _)=>true|some (.array _ _)=>true|_=>false)=true then .agg Hq else Hq.headD .dead
def zD (P:Program):List TypeId->List (List AV->Prop)->List AV->Prop
 |[],[],as'=>as'=[]
 |t::ts,X::Xs,as'=>∃Hq r,as'=ZZ P t Hq::r/\X Hq/\zD P ts Xs r
 |_,_,_=>False
def mD (P:Program):List TypeId->List (List AV->Prop)->Prop
 |[],[]=>True
 |t::ts,X::Xs=>N7 P t X/\mD P ts Xs
 |_,_=>False
theorem s9 {P:Program} {H:Type} {enc:TypeId×Value->H} {w:World} {base:Nat} (k:List TypeId):∀(Xs:List (List AV->Prop)) (vs:List Value) (ds:List (DataW H)) (J:List MemPlace),mD P k Xs->DataW.TrodAll enc P w 0 (λ_=>true) true k vs ds J->
 (∀(j:Nat) t v,k[j]? =some t->vs[j]? =some v->Value.okWide P w .any base t v)->(∀n∈DataW.weightsEach P k ds,n≤reachBytes)->
 ∃f:List AV,zD P k Xs f/\f.length=vs.length/\∀(i:Nat) a v,f[i]? =some a->vs[i]? =some v->Fz w (Old w) a v:=by
 induction k with
 |nil=>
  intro Xs vs ds J l D s B;obtain⟨rfl,rfl,rfl⟩:=trodAll_nil D;cases Xs with
  |nil=>exact⟨[],rfl,rfl,λi a v h=>by simp at h⟩
  |cons=>exact l.elim
 |cons t k ih=>
  intro Xs vs ds J l D s B;cases Xs with
  |nil=>exact l.elim
  |cons X Xs=>
   obtain⟨U,l⟩:=l;obtain⟨v,K,d,C,p,q,rfl,rfl,rfl,⟨fuel,O⟩,Q⟩:=trodAll_cons D;simp only[DataW.weightsEach,AAz]at B;obtain⟨x,V,o⟩:=U H enc w fuel _ d p O (λn hn=>B n (.inl hn));obtain⟨r,E,F,G⟩:=ih Xs K C q l Q (λj W Z M I=>s (j+1) W Z (by simpa using M) (by simpa using I)) (λn hn=>B n (.inr hn));have c:=s 0 t v rfl rfl;refine⟨ZZ P t x::r,⟨x,r,rfl,V,E⟩,by simp[F],?_⟩;intro i a u m z;cases i with
   |succ i=>simp at m z;exact G i a u m z
   |zero=>
    simp only[ABO,AAh]at m z;subst m;subst z;unfold ZZ;by_cases b:(match P.underlying t with|some (.struct _)=>true|some (.array _ _)=>true|_=>false)=true
    . rw[AAs b];obtain⟨y,rfl⟩:∃y,v= .agg y:=by
       unfold Value.okWide at c;split at c
       . exact⟨_,c.choose_spec.1⟩
       . exact⟨_,c.choose_spec.1⟩
       . rename_i R T;exfalso;split at b
         . rename_i N g;exact R N g
         . rename_i n e g;exact T n e g
         . cases b
      have:=Fz.agg (w:=w) (S:=Old w) x y.toList (by rw[o.1];rfl) (λi a v m s=>o.2 i a v m s);simpa using this
    . rw[AAp b];have L:v.cells.toList=[v]:=by
       unfold Value.okWide at c;split at c
       . rename_i g;simp[g]at b
       . rename_i g;simp[g]at b
       . cases v with
         |agg y=>
          exfalso;unfold Cell.okWide at c;split at c<;>rename_i I<;>try (cases I;done)
          . simp[Cell.ok]at c
         |_=>rfl
      rw[L]at o;obtain⟨a,rfl⟩:∃a,x=[a]:=List.length_eq_one_iff.1 o.1;exact o.2 0 a v rfl rfl
end Go.Abs
namespace Go.Abs
open Go.ChangeShapes Go.WideShapes Go.ChangeAt Go.RowKit
theorem Xp {w:World} {S:Nat->Prop} (c:List AV):∀(vs:List Value),vs.length=c.length->(∀(i:Nat) a v,c[i]? =some a->vs[i]? =some v->∃D:DV,D.er=a/\D.A0=v/\Ok w S D (λ_=>False))->
 ∃b:List DV,b.map DV.er=c/\b.map DV.A0=vs/\∀D∈b,Ok w S D (λ_=>False):=by
 induction c with
 |nil=>intro vs h _;cases vs with|nil=>exact⟨[],rfl,rfl,by simp⟩|cons=>simp at h
 |cons a c ih=>
  intro vs h e;cases vs with
  |nil=>simp at h
  |cons v vs=>
   obtain⟨b,d1,f,g⟩:=ih vs (by simpa using h) (λi a v m n=>e (i+1) a v (by simpa using m) (by simpa using n));obtain⟨D,j,k,l⟩:=e 0 a v rfl rfl;refine⟨D::b,by simp[d1,j],by simp[f,k],?_⟩;intro X d;rcases ABH.1 d with rfl|d
   . exact l
   . exact g X d
theorem fz_tree {w:World} {S:Nat->Prop} {a:AV} {v:Value} (h:Fz w S a v):∃D:DV,D.er=a/\D.A0=v/\Ok w S D (λ_=>False):=by
 induction h with
 |sc v hp=>exact⟨.lf (.sc v) v,by simp,by simp,.lf _ _ _ ⟨rfl,hp⟩ (λ_ h=>h)⟩
 |dead v=>exact⟨.lf .dead v,by simp,by simp,.lf _ _ _ trivial (λ_ h=>h)⟩
 |nil x k a c hx=>exact⟨.lf (.sl x k []) (.slice a 0 c),by simp,by simp,.lf _ _ _ (Fz.nil x k a c hx) (λ_ h=>h)⟩
 |sl x k rows b off c vs hx Qy hS hk hc hr ih=>exact⟨.lf (.sl x k rows) (.slice (some ⟨b,off,none⟩) rows.length c),by simp,by simp,.lf _ _ _ (Fz.sl x k rows b off c vs hx Qy hS hk hc hr) (λ_ h=>h)⟩
 |agg cs vs hs h ih=>obtain⟨d,d1,e,f⟩:=Xp cs vs hs ih;exact⟨.agg d,by simp[d1],by simp[e],B2.2 (CC f)⟩
 |BM cs vs hs h ih=>obtain⟨d,d1,e,f⟩:=Xp cs vs hs ih;exact⟨.BM d,by simp[d1],by simp[e],A8.2 (CC f)⟩
section
variable {H:Type} {enc:TypeId×Value->H} {P:Program}
theorem Zu {f:Func} {s:ChangeSpec} {c fresh d k:Bool} {W m:World} {args:Array Value} {v:Value} {ds n:List (DataW H)} {a pa pv:List MemPlace}
 (o:DataW.Whole enc P f.params.toList s.vars c W args.toList ds n a)
 (u:∀(b:Nat) (l:Nat->Bool) (hd:Bool),DataW.TrodAll enc P m b l hd f.resultTypes.toList (v.resultList f.resultTypes.size) (s.fn H (ds++n)).results [])
 (w:∀l:Nat->Bool,(∀p∈a,l p.block=true)->DataW.TrodAll enc P m 0 l true f.params.toList args.toList (s.fn H (ds++n)).args pa)
 (g:∀l:Nat->Bool,(∀p∈a,l p.block=true)->DataW.TrodVars enc P m l s.vars (s.fn H (ds++n)).vars pv)
 (h:a=pa++pv) (y:Below W.heap.size W m)
 (z:∀(j:Nat) (t:TypeId) (r:Value),f.resultTypes[j]? =some t->(v.resultList f.resultTypes.size)[j]? =some r->Value.okWide P m .any 0 t r):
 s.post enc P f c fresh d k W args v m:=by
 have q:∀p∈a,p.block<W.heap.size:=λp e=>o.lt p e;have i:∀p∈a,(λb=>decide (b<W.heap.size)) p.block=true:=λp e=>by simpa using q p e
 refine⟨ds,n,a,[],pa,pv,o,u _ _ _,w _ i,g _ i,World.keptBut_mono (λp e=>⟨e,?_⟩) (y.frame (· ∈a)),λ_=> ?_⟩
 . rw[h,AAz]at e;exact Or.inr e
 . obtain⟨_,_,_,_,_,C,hn⟩:=o;refine⟨z,_,_,([]++pa)++pv,⟨[]++pa,pv,trodAll_append (w _ (λ_ _=>rfl)) (u _ _ _),g _ (λ_ _=>rfl),rfl,?_,?_⟩,?_⟩
   . intro b off e;have x:MemPlace.cell b off∈a:=(by rw[h];simpa using e);rw[y.frozen (q _ x)];exact C b off x
   . intro B
     have:=hn B;rw[h]at this;simpa using this
   . intro p e _;rw[h];simpa using e
theorem Z8 (n:laidOutB P=true) {W g:World} {k:Nat->Bool} (c:List TypeId):∀{vs:List Value} {ds:List (DataW H)} {b:List MemPlace},(∀t∈c,P.readableRec t=true/\t<P.types.size)->
 DataW.TrodAll enc P W 0 (λ_=>true) true c vs ds b->(∀p∈b,W.sameAt g p)->(∀p∈b,k p.block=true)->DataW.TrodAll enc P g 0 k true c vs ds b:=by
 induction c with
 |nil=>intro vs ds b _ f _ _;obtain⟨rfl,rfl,rfl⟩:=trodAll_nil f;exact rfl
 |cons t c ih=>intro vs ds b j f h i;obtain⟨v,o,d,l,p,q,rfl,rfl,rfl,m,g2⟩:=trodAll_cons f;have e:=j t (by simp);exact⟨p,q,WideElems.Trod_stays n e.1 e.2 m (λx a=>h x (by simp[a])) (λx a=>i x (by simp[a])),ih (λt e=>j t (by simp[e])) g2 (λx a=>h x (by simp[a])) (λx a=>i x (by simp[a])),rfl⟩
theorem eF {g:Func} {f:Nat} {s:ChangeSpec} {tb:TypeId} {Xs:List (List AV->Prop)} {fresh m y:Bool} (hv:s.vars=[]) (Zl:g.resultTypes= #[tb]) (J:P.underlying tb=some .bool)
 (hl:laidOutB P=true) (Sv:∀t∈g.params.toList,P.readableRec t=true/\t<P.types.size) (hO:mD P g.params.toList Xs) (hS:∀C,zD P g.params.toList Xs C->Says P f C (sb true))
 (O:∀ds:List (DataW H),ds.length=g.params.toList.length->s.fn H ds={results:=[.lit (.bool true)],args:=ds})
 {W:World} {base:Nat} {args:Array Value} {ds gs:List (DataW H)} {o:List MemPlace}
 (Bi:∀(j:Nat) t v,g.params[j]? =some t->args[j]? =some v->Value.okWide P W .any base t v) (hW:DataW.Whole enc P g.params.toList s.vars false W args.toList ds gs o)
 (B:(DataW.weightsEach P (g.params.toList++s.plain.varTypes P) (ds++gs)).all (· ≤reachBytes)=true)
 (Nl:GI W (Old W)):Calls P f args W λe Q=>∃v,e= .returned v/\s.post enc P g false fresh m y W args v Q:=by
 have z:=hW;obtain⟨p,q,X,hV,rfl,N4,hnd⟩:=hW;rw[hv]at hV;obtain⟨rfl,rfl⟩:=trodVars_none hV;simp only[List.append_nil]at z B;have c:ds.length=g.params.toList.length:=by
  have:∀(l:List TypeId) {vs:List Value} {ds:List (DataW H)} {ps:List MemPlace},DataW.TrodAll enc P W 0 (λ_=>true) true l vs ds ps->ds.length=l.length:=by
   intro l;induction l with
   |nil=>intro vs ds ps h;obtain⟨rfl,rfl,rfl⟩:=trodAll_nil h;rfl
   |cons t l ih=>intro vs ds ps h;obtain⟨v,vs1,d,ds1,p,q,rfl,rfl,rfl,g1,g2⟩:=trodAll_cons h;simp[ih g2]
  exact this _ X
 have K:∀n∈DataW.weightsEach P g.params.toList ds,n≤reachBytes:=by
  have key:∀(l L:List TypeId) (ds:List (DataW H)),ds.length=l.length->DataW.weightsEach P (l++L) ds=DataW.weightsEach P l ds:=by
   intro l;induction l with
   |nil=>intro L ds h;obtain rfl:ds=[]:=ABs h;cases L<;>rfl
   |cons t l ih=>
    intro L ds h;cases ds with
    |nil=>simp at h
    |cons d ds=>simp only[ABV,DataW.weightsEach];rw[ih L ds (by simpa using h)]
  rw[key _ _ _ c]at B;simpa using B
 obtain⟨C,hX,G,F⟩:=s9 (base:=base) g.params.toList Xs args.toList ds p hO X (λj t v U V=>Bi j t v (by simpa using U) (by simpa using V)) K
 -- the call
 have Ja:∃u:List DV,u.map DV.er=C/\u.map DV.A0=args.toList/\Jm W (Old W) u (λ_=>False):=by obtain⟨u,d1,R,T⟩:=Xp (w:=W) (S:=Old W) C args.toList G.symm (λi a v U V=>fz_tree (F i a v U V));exact⟨u,d1,R,CC T⟩
 obtain⟨u,d1,R,T⟩:=Ja;have N:=hS C hX W (Old W) u (λ_=>False) Nl d1 (A8.2 T) (λb M=>M);rw[R]at N;have Qx:args.toList.toArray=args:=by simp
 rw[Qx]at N;refine N.mono ?_;rintro e Q ⟨r,os,S',F',rfl,D,_,_,Cj,E,_⟩;obtain⟨Fa,Fb,eC,_⟩:=A8.1 Cj;have Z:r.A0= .bool true:=by
  cases eC with
  |lf a v _ ha hF=>rw[Ei]at D;subst D;simpa using ha.1
  |nil=>simp at D
  |own=>simp at D
  |agg=>simp at D
  |BM=>simp at D
 have M:Below W.heap.size W Q:=⟨E.os,E.tape,E.output,E.size,λk hk=>E.block k hk id⟩;rw[Z];refine⟨_,rfl,Zu (pa:=p) (pv:=[]) z ?_ ?_ ?_ (by simp) M ?_⟩
 . intro b sp hd;rw[List.append_nil,O ds c,Zl];exact trodAll_cons_mk (shut_bool J _) trodAll_mk0
 . intro sp I;rw[List.append_nil,O ds c];exact Z8 hl _ Sv X (λx hx=>M.same (z.lt x hx)) (λx hx=>I x hx)
 . intro sp I;rw[List.append_nil,O ds c,hv];exact rfl
 . exact ok_one Zl rfl (okWide_bool_mk J _)
end
end Go.Abs
