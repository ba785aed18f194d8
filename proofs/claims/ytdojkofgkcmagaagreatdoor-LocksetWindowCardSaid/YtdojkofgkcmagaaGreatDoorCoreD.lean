/- A calculus of abstract states of Go memory, and that it is sound. -/
import Derived.Test.YtdojkofgkcmagaaGreatDoorCoreC
import Derived.Shelf.GgClosure.Gives
import Derived.KernelRfl
import Derived.WalkKit
import Derived.ProofKit
import Derived.OpenShut
import Derived.WideKeyArgs
import Derived.SizedLaws
import Derived.DataReads
import Derived.Below
import Derived.ChangeSame
set_option linter.defProp false
set_option linter.unusedSimpArgs false
set_option linter.unusedVariables false
namespace Go.Abs
variable{k:Nat}
section
open Go.Proofs Go.Sort Go.RowKit
variable{P:Program}
theorem cQ{g:Nat}{q:Int->Int->Bool}(B:∀(lb:Array Value)(p:Int->Bool)(s off cap:Nat)(d:Array Int)(w:World),PredAt P g lb (Value.int .i64) p w->PredOver P g lb (Value.int .i64) p s off d.size w->Holds (Value.int .i64) w s off d->d.size<=9223372036854775807->d.size<=cap->
  Calls P k #[.slice (some ⟨s,off,none⟩) d.size cap,.func (.func g) #[] lb] w λe w'=>e= .returned (.slice (some ⟨s,off,none⟩) (d.toList.filter λx=> !p x).length cap)/\∃q,w'=putRow (Value.int .i64) (Sort.ahead w q) s off ((d.toList.filter λx=> !p x)++List.replicate (d.size-(d.toList.filter λx=> !p x).length) (0:Int)).toArray)(l:∀(b off:Nat)(n x:Int)(W:World),W.cell? ⟨b,off,none⟩=some (.int .i64 n)->FnGives P g #[.pointer (some ⟨b,off,none⟩)] #[.int .i64 x] (.bool (q n x)) W)(zs:dc)(n:Int)(O1:zs≠[])(hl:zs.length<4611686018427387904):Says P k [.own false 1 (ints zs),.oT g [[si n]]] (.own false 1 (ints (zs.filter λx=> !q n x))):=by
 intro w S ds F _ H M R;obtain⟨d,e,rfl⟩:∃d e,ds=[d,e]:=by
  have D:ds.length=2:=by simpa using congrArg List.length H
  clear H M
  match ds,D with
  |[d,e],_=>exact⟨d,e,rfl⟩
 simp only[AAU,AAm,List.cons.injEq,and_true]at H;obtain⟨hd,C⟩:=H;obtain⟨F1,F2,h1,⟨F3,F4,h3,h4,_,h6⟩,C9,h5⟩:=A8.1 M;obtain⟨v,rfl⟩:∃v,e= .lf (.oT g [[si n]]) v:=by
  cases e with
  |lf a v=>rw[EY]at C;exact⟨v,by rw[C]⟩
  |own=>simp at C
  |agg=>simp at C
  |BQ=>simp at C
 cases h3 with
 |lf _ _ _ fI hF3=>
 obtain⟨vs,rfl,L,J⟩:=fI;obtain⟨u,rfl⟩:∃u,vs=[u]:=by
  match vs,L with
  |[u],_=>exact⟨u,rfl⟩
 obtain⟨j,o,rfl,f,Z⟩:=J 0 [si n] u rfl rfl;obtain⟨u',G,Nc⟩:=Z 0 (si n) rfl;cases Nc;have X:=R j f;rcases Xx h1 hd with⟨I,rfl,KU⟩|⟨b,c,arr,E,I,T,hc,QW,N,hz,O⟩
 . exact absurd rfl O1
 . have t:j≠b:=λe=>N (e▸f);have Q:∀x,F x↔F1 x:=λx=>by
    rw[h5 x];refine⟨λh=>h.elim id λh=> ?_,.inl⟩;rcases(h6 x).1 h with h|h
    . exact absurd h (hF3 x)
    . exact absurd h (h4 x)
   simp only[AAU,AAm,I,KN];have hp:PredAt P g #[.pointer (some ⟨j,o,none⟩)] (Value.int .i64) (q n) w:=λW x hB=>l j o n x W (by rw[hB.cell (p:=⟨j,o,none⟩) X];exact G);have K:PredOver P g #[.pointer (some ⟨j,o,none⟩)] (Value.int .i64) (q n) b 0 zs.toArray.size w:=λm os dk x hdk=>l j o n x _ (by rw[World.cell?_of_block (w:=w) (a:=⟨j,o,none⟩) (by show(sortWorld _ w b 0 m dk os).heap[j]? =w.heap[j]?;unfold sortWorld;rw[heap_grow_old _ _ (by simpa[putRow,mapBlock,Sort.ahead]using X)];simp[putRow,mapBlock,Sort.ahead,Array.getElem?_modify,Ne.symm t])];exact G);refine(B #[.pointer (some ⟨j,o,none⟩)] (q n) b 0 c zs.toArray w hp K (RR T hz) (by simpa using by omega) (by simpa using QW)).mono ?_;rintro e w' ⟨rfl,m,rfl⟩;simp only[List.size_toArray]at*;have hle:(zs.filter λx=> !q n x).length<=zs.length:=List.length_filter_le ..;have G3:((zs.filter λx=> !q n x)++List.replicate (zs.length-(zs.filter λx=> !q n x).length) (0:Int)).length=zs.length:=an;have U:=XQ (n:=m) (os:= #[]) ((zs.filter λx=> !q n x)++List.replicate (zs.length-(zs.filter λx=> !q n x).length) 0).toArray T;have r:=dA (w:=w) (n:=m) (os:= #[]) (g:=b) (F:=F) ((zs.filter λx=> !q n x)++List.replicate (zs.length-(zs.filter λx=> !q n x).length) 0).toArray ((Q b).2 ((O b).2 rfl));rw[grow_empty]at U r;obtain⟨d',k1,k2,k3⟩:=WM (S:=S) (c:=c) (zs:=zs.filter λx=> !q n x) U (by simp[putCells,hc]) ah N (λi z hi=>qE ((zs.filter λx=> !q n x)++List.replicate (zs.length-(zs.filter λx=> !q n x).length) 0) (by rw[G3];omega) i z (by rw[AAg (AAE.1 hi).1];exact hi));refine⟨d',[.lf .dead d.A0,.lf .dead (.func (.func g) #[] #[.pointer (some ⟨j,o,none⟩)])],S,λx=>x=b,by rw[k2],k1,ak,by simp[I],?_,r,λ_ h=>h,λ_ h=>.inl h,λx r=> ?_,λx r=>.inl ((Q x).2 ((O x).2 r))⟩
   . refine A8.2 ⟨_,λ_=>False,k3,CN λy V=> ?_,λ_ _ h=>h,λx=>ak⟩;simp only[AAn,AA3,AA2]at V;rcases V with rfl|rfl<;>exact .lf _ _ _ trivial (λ_ h=>h)
   . have:=R x r;simpa[putRow,mapBlock,Sort.ahead]using this
end
variable{V:FI}{args E:dm}{x out:AV}{r base j:Nat}{q:Bool}{K:dg}{σ τ:Sg}
section
variable{P:Program}{G:Gi}
def fR(G:Gi)(rs:il)(res:AV)(outs:dm)(e:Exit)(σ:Sg):Prop:=
 (match e with| .normal=>True| .ret=>True|_=>False)/\∃vs τ,Ft G rs σ=some (vs,τ)/\one (vs.map zY)=res/\TF τ 0 outs
def qL(x:gk)(res:AV)(outs:dm):Prop:=match x with
 |some (vs,τ)=>one (vs.map zY)=res/\TF τ 0 outs
 |none=>False
def kZ(vs:dm)(τ:Sg)(b:AV)(a:dm):qL (some (vs,τ)) b a=(one (vs.map zY)=b/\TF τ 0 a):=(rfl)
theorem uE(G:Gi)(rs:il)(b:AV)(a:dm)(σ:Sg):fR G rs b a .ret σ=qL (Ft G rs σ) b a:=by
 unfold fR qL;cases Ft G rs σ with
 |none=>simp
 |some x=>obtain⟨vs,τ⟩:=x;simp only[AAC,AAQ,true_and,eq_iff_iff];exact⟨λ⟨_,_,⟨c,d⟩,h⟩=>by subst c;subst d;exact h,λh=>⟨_,_,⟨rfl,rfl⟩,h⟩⟩
theorem bJ{j:Func}(hm:P.follows .mixedOrders=true)(hf:P.funcs[k]? =some j)(hc:M6 P j V=true)(D:iD j args.length=true)(hn:args.length<=j.ntmps)(L:args.all Is=true)(t:E.length=args.length)(h:Hg P V.g V.c (fR V.g V.r x E) (start args)):BD P k args x E:=by
 intro w S ds F Q N G hS;subst N;refine QA (m:=ds.length) hm hf hc (by simpa using hn) L (λc d=>by simp only[iD,d]at D;simpa using D) Q G hS h ?_;rintro q w1 S1 δ1 F1 tmps a K e J v M O;have f:q= .normal\/q= .ret:=by obtain⟨h,_⟩:=a;cases q<;>simp_all
 refine⟨f,?_⟩;obtain⟨_,vs,τ,U,T,y⟩:=a;have R:=M.resolve_left (by rcases f with rfl|rfl<;>simp);obtain⟨Ds,FD,X,g2,C,Z,δ2,F2,k1,k2,k3,k4,k5⟩:=JA j.results.toList K v O U;rw[<- k2]at y;obtain⟨os,I,W,p,z,B⟩:=Xw k1 E 0 y;have H:os.map DV.A0=ds.map DV.A0:=by
  rw[W];have hl:E.length=ds.length:=by simpa using t
  rw[hl];apply ABQ;intro i;simp only[AAN];by_cases hi:i<ds.length
  . rw[List.getElem?_range' (by simpa using hi),AAJ hi];simp only[ABM,Nat.one_mul,AAf,AAC];rw[k3,<- v,R i hi];simp[hi]
  . rw[ABU an,ABU ah];rfl
 obtain⟨Ds',q1,q2,q3⟩:=Z9 _ C;have hO:JQ w1 (λn=>S1 n\/FD n) os p:=z.mono (λ_ _=>rfl) (λ_ _=>rfl) (λ_ h=>.inl h) λn o l=>by
  rcases l with l|l
  . exact(B4.2 z).Et n o l
  . obtain⟨s,_,u⟩:=B n o;exact k4 s n u l
 refine⟨_,Tj g2,Om Ds',os,λn=>S1 n\/FD n,p,by rw[TC,TC,q2],by rw[TD,q1,X,T],I,H,A8.2 ⟨λ_=>False,p,N6 q3,hO,λ_ h=>h.elim,λn=>ak⟩,⟨e.os,e.tape,e.output,e.size,e.block⟩,λb d=>.inl (e.sub b d),?_,?_,?_⟩
 . rintro b (d|d)
   . exact e.sup b d
   . exact .inr (e.own b (Z b d))
 . rintro b (d|d)
   . exact J b d
   . exact(N6 C).lt b d
 . intro n o;obtain⟨s,_,u⟩:=B n o;exact e.own n (k5 n ⟨s,u⟩)
def putK(G:Gi)(n:Nat)(x:ABd AV)(res:AV)(d:dD)(K:dg)(r:Nat)(σ:Sg):Prop:=match x with
 |some t=>C2 d res K (DZ (FW G n r σ) r t)
 |none=>False
def yJ(n:Nat)(t a:AV)(d:dD)(K:dg)(r:Nat)(σ:Sg):putK G n (some t) a d K r σ=C2 d a K (DZ (FW G n r σ) r t):=(rfl)
def uF(P:Program)(G:Gi)(r:Nat)(p:di)(b:Bool)(k f:Nat)(xs ys:dm)(n:AV)(c:im)(d:dD)(K:dg)(σ:Sg):Prop:=
 ∃res out o,BD P f (xs++n::ys) res ((xs.map λ_=>.dead)++out::ys.map λ_=>.dead)/\SO c out=some o/\ID o=true/\clean res=true/\putK G (Sv o b k p) (put (σ r) p o) res d K r σ
def uF.intro{p:di}{n:AV}{c:im}{d:dD}{a:AV}(h:BD P base (args++n::E) a ((args.map λ_=>.dead)++out::E.map λ_=>.dead))(i:SO c out=some x)(j:ID x=true)(l:clean a=true)(m:putK G (Sv x q k p) (put (σ r) p x) a d K r σ):uF P G r p q k base args E n c d K σ:=⟨a,out,x,h,i,j,l,m⟩
def lndB(P:Program)(G:Gi)(y:ABd AV)(r:Nat)(p:di)(xs ys:dm)(a:AV->AV)(c:im)(f:Nat)(d:dD)(K:dg)(σ:Sg):Prop:=match y with
 |some (.own b k rows)=>uF P G r p b k f xs ys (a (.own b k rows)) c d K σ
 |_=>False
def lndB_own(b:Bool)(k:Nat)(rows:dn)(r:Nat)(p:di)(e g:dm)(a:AV->AV)(c:im)(f:Nat)(d:dD)(K:dg)(σ:Sg):lndB P G (some (.own b k rows)) r p e g a c f d K σ=uF P G r p b k f e g (a (.own b k rows)) c d K σ:=(rfl)
def lndK_s(r:Nat)(p:di)(b e:dm)(a:AV->AV)(c:im)(f:Nat)(d:dD)(K:dg)(σ:Sg):lndK P G (some (r,p)) (some b) (some e) a c f d K σ=lndB P G (sub (σ r) p) r p b e a c f d K σ:=(rfl)
theorem lndN_own(b:Bool)(k:Nat)(rows:dn)(p:di):Sv (.own b k rows) b k p=p.length+1:=by simp[Sv]
def lbY(G:Gi)(x:ABd AV)(r N r2:Nat)(p2:di)(v res:AV)(d:dD)(K:dg)(τ:Sg):Prop:=match x with
 |some t=>putK G p2.length (put (DZ (FW G N r τ) r t r2) p2 v) res d K r2 (DZ (FW G N r τ) r t)
 |none=>False
def lbY_some(t:AV)(r N c:Nat)(b:di)(v a:AV)(d:dD)(K:dg)(τ:Sg):lbY G (some t) r N c b v a d K τ=putK G b.length (put (DZ (FW G N r τ) r t c) b v) a d K c (DZ (FW G N r τ) r t):=(rfl)
theorem LbE.intro{d:dD}{p l:di}{v n:AV}{a:AV}(h:BD P base (n::(args++[v])) a (out::((args.map λ_=>.dead)++[v])))(c:(!(r==j)&&(ID out&&clean a))=true)(g:lbY G (put (τ r) p out) r (Sv out q k p) j l v a d K τ):lbQ P G d base r j p l v n q k args K τ:=by
 simp only[AAD,ABP,ABI,ne_eq]at c;refine⟨c.1,a,out,h,c.2.1,c.2.2,?_⟩;unfold lbY at g;split at g
 . rename_i t e;simp only[e];exact g
 . exact g.elim
def lbK(P:Program)(G:Gi)(a:ff)(d:dD)(f:Nat)(x:Ar)(Sx:ek)(K:dg)(σ:Sg):Prop:=match a with
 |some (r2,p2)=>(match Zh G r2 p2 σ with
  |some (v,τ)=>(match yI τ x,Ms τ Sx with
   |some (r,p),some ms=>(match sub (τ r) p with
    |some (.own b k rows)=>lbQ P G d f r r2 p p2 v (.own b k rows) b k ms K τ
    |_=>False)
   |_,_=>False)
  |none=>False)
 |none=>False
def lbT(P:Program)(G:Gi)(a:ABd (AV×Sg))(r2:Nat)(p2:di)(d:dD)(f:Nat)(x:Ar)(Sx:ek)(K:dg):Prop:=match a with
 |some (v,τ)=>(match yI τ x,Ms τ Sx with
  |some (r,p),some ms=>(match sub (τ r) p with
   |some (.own b k rows)=>lbQ P G d f r r2 p p2 v (.own b k rows) b k ms K τ
   |_=>False)
  |_,_=>False)
 |none=>False
def lbU(P:Program)(G:Gi)(a:ff)(l:ABd (List AV))(r2:Nat)(p2:di)(d:dD)(f:Nat)(v:AV)(K:dg)(τ:Sg):Prop:=match a,l with
 |some (r,p),some ms=>(match sub (τ r) p with
  |some (.own b k rows)=>lbQ P G d f r r2 p p2 v (.own b k rows) b k ms K τ
  |_=>False)
 |_,_=>False
def lbV(P:Program)(G:Gi)(a:ABd AV)(r r2:Nat)(p p2:di)(ms:dm)(d:dD)(f:Nat)(v:AV)(K:dg)(τ:Sg):Prop:=match a with
        |some (.own b k rows)=>lbQ P G d f r r2 p p2 v (.own b k rows) b k ms K τ
        |_=>False
def axs_lb(d:dD)(f:Nat)(x:Ar)(a:ek)(y:Ar)(b:iu)(K:dg)(σ:Sg):LG P G (.lb d f x a y::b) K σ=lbK P G (yI σ y) d f x a (LG P G b K) σ:=(rfl)
def lbK_some(b:Nat)(a:di)(d:dD)(f:Nat)(x:Ar)(c:ek)(K:dg)(σ:Sg):lbK P G (some (b,a)) d f x c K σ=lbT P G (Zh G b a σ) b a d f x c K:=(rfl)
def lbT_some(v:AV)(τ:Sg)(c:Nat)(b:di)(d:dD)(f:Nat)(x:Ar)(a:ek)(K:dg):lbT P G (some (v,τ)) c b d f x a K=lbU P G (yI τ x) (Ms τ a) c b d f v K τ:=(rfl)
def lbU_some(r:Nat)(p:di)(a:dm)(c:Nat)(b:di)(d:dD)(f:Nat)(v:AV)(K:dg)(τ:Sg):lbU P G (some (r,p)) (some a) c b d f v K τ=lbV P G (sub (τ r) p) r c p b a d f v K τ:=(rfl)
def lbV_own(b:Bool)(k:Nat)(rows:dn)(r e:Nat)(p c:di)(a:dm)(d:dD)(f:Nat)(v:AV)(K:dg)(τ:Sg):lbV P G (some (.own b k rows)) r e p c a d f v K τ=lbQ P G d f r e p c v (.own b k rows) b k a K τ:=(rfl)
attribute [go_sem] axs_lb lbK_some lbT_some lbU_some lbV_own lbY_some
attribute [go_sem] lndN_own lndK_s lndB_own yJ uE kZ
end
variable{a b:Type}{i:Int}{l:ABe}{p C:Prop}{c m:Bool}{N M B:dg}{Q:Exit->Sg->Prop}{T:ga}{ic F:Y3}
section
variable{P:Program}{G:Gi}
def vY(a b:IC):IC:=.seq a b
def BW:Nat:=18446744073709551616
abbrev BZ(s:ABe):AV:=.sc (.string s)
abbrev BA(n:Int):Int:=IntKind.i64.wrap n
abbrev w8(n:Int):Int:=IntKind.u8.wrap n
def gt(l:List a)(i:Int):ABd a:=if 0<=i then l[i.toNat]? else none
def sgt(s:ABe)(i:Int):ABd UInt8:=if 0<=i then s[i.toNat]? else none
theorem gt_bind{l:List b}{f:b->ABd a}{r:a}(h:(gt l i).bind f=some r):∃x,l[i.toNat]? =some x/\0<=i/\i<(l.length:Int)/\i.toNat<l.length/\f x=some r:=by
 unfold gt at h;by_cases c:0<=i
 . rw[AAL c]at h;cases hx:l[i.toNat]? with
   |none=>simp[hx]at h
   |some x=>have:=(AAE.1 hx).1;exact⟨x,rfl,c,ah,this,by simpa[hx]using h⟩
 . simp[c]at h
theorem sgt_bind{f:UInt8->ABd b}{r:b}(h:(sgt l i).bind f=some r):∃x,l[i.toNat]? =some x/\0<=i/\f x=some r:=by
 unfold sgt at h;by_cases a:0<=i
 . rw[AAL a]at h;cases hx:l[i.toNat]? with
   |none=>simp[hx]at h
   |some x=>exact⟨x,rfl,a,by simpa[hx]using h⟩
 . simp[a]at h
theorem gB{l:List a}{f:a->ABd b}{r:b}(h:(gt l i).bind f=some r):∃x,(l[i.toNat]? =some x/\0<=i/\i<(l.length:Int)/\i.toNat<l.length)/\f x=some r:=by obtain⟨x,g,j,c,d,e⟩:=gt_bind h;exact⟨x,⟨g,j,c,d⟩,e⟩
theorem sgB{f:UInt8->ABd a}{r:a}(h:(sgt l i).bind f=some r):∃x,(l[i.toNat]? =some x/\0<=i)/\f x=some r:=by obtain⟨x,c,b,e⟩:=sgt_bind h;exact⟨x,⟨c,b⟩,e⟩
theorem bind_some{a b:Type}{o:ABd a}{f:a->ABd b}{r:b}(h:o.bind f=some r):∃x,o=some x/\f x=some r:=by
 cases o with
 |none=>simp at h
 |some x=>exact⟨x,rfl,h⟩
theorem HU[Decidable p]{c:ABd a}{r:a}(h:(if p then c else none)=some r):p/\c=some r:=by
 by_cases b:p
 . rw[AAL b]at h;exact⟨b,h⟩
 . rw[AAK b]at h;cases h
def bS{o:ABd a}{f:a->ABd b}{r:b}(h:o.bind f=some r):∃x,o=some x/\f x=some r:=bind_some h
def cS[Decidable p]{a:ABd b}{r:b}(h:(if p then a else none)=some r):p/\a=some r:=HU h
theorem ifT{d b r:a}(e:c=true)(h:(if c=true then d else b)=r):d=r:=by rw[AAL e]at h;exact h
theorem ifF{d b r:a}(e:c=false)(h:(if c=true then d else b)=r):b=r:=by rw[AAK (by rw[e];decide)]at h;exact h
def ET{r:a}(h:(none:ABd a)=some r):C:=nomatch h
theorem bool_sp(c:Bool):c=true\/c=false:=by cases c<;>simp
theorem acase2{e b:ABd a}{x:a}(h:(if(i==0)=true then e else if(i==1)=true then b else none)=some x):(i=0/\e=some x)\/(i=1/\b=some x):=by
 by_cases c:i=0
 . subst c;exact .inl ⟨rfl,by simpa using h⟩
 . by_cases d:i=1
   . subst d;exact .inr ⟨rfl,by simpa using h⟩
   . simp[c,d]at h
theorem condK_sp(d:c=true->K σ)(e:c=false->N σ):SW (.sc (.bool c)) K N σ:=by
 cases c with
 |true=>rw[rW];exact d rfl
 |false=>rw[rV];exact e rfl
theorem gK_sp(e:c=true->gK (.sc (.bool true)) m K N σ)(f:c=false->gK (.sc (.bool false)) m K N σ):gK (.sc (.bool c)) m K N σ:=by
 cases c with
 |true=>exact e rfl
 |false=>exact f rfl
def cI{x y z:a}(h:(if c=true then x else y)=z)(d:c=true->x=z->K σ)(f:c=false->y=z->N σ):SW (.sc (.bool c)) K N σ:=
 condK_sp (λe=>d e (ifT e h)) λe=>f e (ifF e h)
def gI{x y z:a}(h:(if c=true then x else y)=z)(f:c=true->x=z->gK (.sc (.bool true)) m K N σ)(g:c=false->y=z->gK (.sc (.bool false)) m K N σ):gK (.sc (.bool c)) m K N σ:=
 gK_sp (λe=>f e (ifT e h)) λe=>g e (ifF e h)
theorem awp_cut{a b:IC}(c:Hg P G a (Exit.Qm M Q) σ)(d:∀τ,M τ->Hg P G b Q τ):Hg P G (vY a b) Q σ:=by
 unfold vY;rw[rP];refine gU ?_ c;intro e τ h;cases e with
 |normal=>exact d τ h
 |_=>exact h
def Imp(A B:dg):Prop:=∀τ,A τ->B τ
theorem gBk{l:List a}{f:a->ABd b}{r:b}(h:(gt l i).bind f=some r)(k:∀x,((∀n,i.toNat=n->l[n]? =some x)/\(∀n,i.toNat=n->n<l.length)/\0<=i/\i<(l.length:Int))->f x=some r->C):C:=by obtain⟨x,⟨d,g,j,m⟩,c⟩:=gB h;exact k x ⟨λn e=>e▸d,λn e=>e▸m,g,j⟩ c
theorem gBe{l:List a}{f:a->ABd b}{r:b}{x:a}(h:(gt l i).bind f=some r)(g:(∀n,i.toNat=n->l[n]? =some x)/\(∀n,i.toNat=n->n<l.length)/\0<=i/\i<(l.length:Int))(k:f x=some r->C):C:=by
 have e:gt l i=some x:=by unfold gt;rw[AAL g.2.2.1];exact g.1 _ rfl
 rw[e]at h;exact k h
theorem gBm(e:a->List AV){d:a}{l:List a}{f:a->ABd b}{r:b}(h:(gt (d::l) i).bind f=some r)(k:∀x,((∀n rows,i.toNat=n->(d::l).map e=rows->rows[n]? =some (e x))/\(∀n m,i.toNat=n->(d::l).length=m->n<m)/\0<=i/\∀m:Nat,(d::l).length=m->i<(m:Int))->f x=some r->C):C:=by
 obtain⟨x,⟨o,p,q,s⟩,j⟩:=gB h;exact k x ⟨λn rows c g=>by rw[<- c,<- g,AAN,o];rfl,λn m c g=>c▸g▸s,p,λm c=>c▸q⟩ j
theorem bSk{o:ABd a}{f:a->ABd b}{r:b}(h:o.bind f=some r)(k:∀x,o=some x->f x=some r->C):C:=by obtain⟨x,c,d⟩:=bS h;exact k x c d
def bSs{x:a}{f:a->ABd b}{r:b}(h:(some x).bind f=some r)(k:f x=some r->C):C:=k h
theorem cSk[Decidable p]{c:ABd a}{r:a}(h:(if p then c else none)=some r)(k:p->c=some r->C):C:=by obtain⟨c,b⟩:=cS h;exact k c b
theorem bI{x y z:a}(h:(if c=true then x else y)=z)(d:c=true->x=z->C)(b:c=false->y=z->C):C:=by
 cases c with
 |true=>exact d rfl (ifT rfl h)
 |false=>exact b rfl (ifF rfl h)
def cutH{a b:IC}(c:dg)(h:∀M:Sg->Prop,Imp c M->Hg P G a (Exit.Qm M Q) σ/\∀τ,c τ->Hg P G b Q τ):Hg P G (vY a b) Q σ:=
 awp_cut (h c λ_ h=>h).1 (h c λ_ h=>h).2
def Np(n:Nat)(a b:IC):IC:=.seq a b
def cutNH(n:Nat){a b:IC}(c:dg)(h:∀M:Sg->Prop,Imp c M->Hg P G a (Exit.Qm M Q) σ/\∀τ,c τ->Hg P G b Q τ):Hg P G (Np n a b) Q σ:=cutH c h
def vB{a:IC}(I:ga)(n:Nat)(h:I n σ)(b:∀n τ (N:dg),I n τ->(∀m,m<n->∀c,I m c->N c)->Hg P G a (Exit.Qm N Q) τ):Hg P G (.loop a) Q σ:=
 awp_loop I n h λn τ e=>b n τ _ e λm f c d=>⟨m,f,d⟩
def Back(n:Nat)(I:ga)(N:dg):Prop:=∀m,m<n->∀τ',I m τ'->N τ'
def impI{A:dg}(m:Imp A B)(h:A τ):B τ:=m τ h
def backI(n:Back (k+1) T N)(h:T k τ):N τ:=n k (Nat.lt_succ_self k) τ h
def kC{a:IC}(I:ga)(h:I BW σ)(b:∀n τ (N:dg),I n τ->Back n I N->Hg P G a (Exit.Qm N Q) τ):Hg P G (.loop a) Q σ:=vB I BW h b
theorem gK_mono(i:∀σ,K σ->M σ)(g:∀σ,N σ->B σ)(h:gK x c K N σ):gK x c M B σ:=by
 unfold gK at*;split at h
 . split at h
   . rename_i d;simp only[d,AAi];exact i _ h
   . rename_i d;simp only[d,AAT];exact g _ h
 . exact g _ h
 . exact h.elim
theorem gM_mono{g:dq}{d:Dp}{A:dg}(c:∀σ,A σ->N σ)(f:∀σ,K σ->M σ)(h:gM g d A K σ):gM g d N M σ:=by
 cases g with
 |none=>exact c _ h
 |some x=>obtain⟨s,e⟩:=x;exact gK_mono c (λσ i=>f _ i) h
theorem Jg{K i:dM}(h:∀σ c,K σ c->i σ c):∀{l:iv}{σ:Sg}{c:Mu},Og P G l K σ c->Og P G l i σ c
 |[],_,_,ht=>h _ _ ht
 | .x _::_,_,_,ht=>Km (λ_ a=>Jg h a) ht
 | .mkm _::_,_,_,ht=>λb e=>HC (λ_ a=>Jg h a) (ht b e)
 | .lkp g d m k::l,σ,c,ht=>by
  simp only[Og]at ht |-;refine gM_mono (λσ a=> ?_) (λσ a=>Jg h a) ht;unfold lkpK at a |-;split at a
  . split at a
    . exact⟨a.1,HC (λ_ j=>Jg h j) a.2⟩
    . exact a.elim
  . exact a.elim
 | .mup m k v::l,σ,c,ht=>by
  simp only[Og]at ht |-;unfold mupK at ht |-;split at ht
  . split at ht
    . exact⟨ht.1,Jg h ht.2⟩
    . exact ht.elim
  . exact ht.elim
 | .rng d x::l,σ,c,ht=>by
  simp only[Og]at ht |-;unfold rngK at ht |-;split at ht
  . exactλb e=>HC (λ_ a=>Jg h a) (ht b e)
  . exact ht.elim
 | .nxt d x::l,σ,c,ht=>by
  simp only[Og]at ht |-;unfold nxtK at ht |-;split at ht
  . split at ht
    . split at ht
      . rename_i f;simp only[f,AAi];exact HC (λ_ a=>Jg h a) ht
      . rename_i f;simp only[f,AAT];exact HC (λ_ a=>Jg h a) ht
    . exact ht.elim
  . exact ht.elim
theorem uZ:∀{Q j:Exit->Sg->Mu->Prop}{σ:Sg}{g:Mu},(∀e σ g,Q e σ g->j e σ g)->Iw P G ic Q σ g->Iw P G ic j σ g:=by
 induction ic with
 |ic c=>exactλh d=>gU (λe σ k=>h e σ _ k) d
 |ZQ xs=>exactλh d=>Jg (h .normal) d
 |seq a b RT ihb=>
  intro Q j σ g h d;refine RT (λe σ' l f=> ?_) d;cases e with
  |normal=>exact ihb h f
  |_=>exact h _ _ _ f
 |cond c a b RT ihb=>
  intro Q j σ g h d;rw[Ww]at d |-;unfold rX at d |-;split at d
  . split at d
    . rename_i k;simp only[k,AAi];exact RT h d
    . rename_i k;simp only[k,AAT];exact ihb h d
  . exact d.elim
 |block id a RT=>
  intro Q j σ g h d;refine RT (λe σ' l f=> ?_) d;cases e with
  |exit i=>
   rw[Uh]at f |-;split
   . rename_i hi;rw[AAL hi]at f;exact h _ _ _ f
   . rename_i hi;rw[AAK hi]at f;exact h _ _ _ f
  |_=>exact h _ _ _ f
 |loop a RT=>
  intro Q j σ g h d;obtain⟨I,m,p⟩:=d;refine⟨I,m,λn τ q o=>RT (λe σ' l f=> ?_) (p n τ q o)⟩;cases e with
  |normal=>exact f
  |_=>exact h _ _ _ f
def iM(a b:Y3):Y3:=.seq a b
theorem awpM_cut{Q:Exit->Sg->Mu->Prop}{M:dM}{d:Mu}(f:Iw P G ic (Exit.Yf M Q) σ d)(g:∀τ c,M τ c->Iw P G F Q τ c):Iw P G (iM ic F) Q σ d:=by
 unfold iM;rw[gR];refine uZ ?_ f;intro e τ c h;cases e with
 |normal=>exact g τ c h
 |_=>exact h
def ImpM(A B:dM):Prop:=∀τ d,A τ d->B τ d
def iN{Q:Exit->Sg->Mu->Prop}(c:dM){d:Mu}(h:∀M:Sg->Mu->Prop,ImpM c M->Iw P G ic (Exit.Yf M Q) σ d/\∀τ e,c τ e->Iw P G F Q τ e):Iw P G (iM ic F) Q σ d:=
 awpM_cut (h c λ_ _ h=>h).1 (h c λ_ _ h=>h).2
def nO{Q:Exit->Sg->Mu->Prop}{g:Mu}(I:ie)(n:Nat)(h:I n σ g)(b:∀n τ f (N:dM),I n τ f->(∀m,m<n->∀d c,I m d c->N d c)->Iw P G ic (Exit.Yf N Q) τ f):Iw P G (.loop ic) Q σ g:=
 uY I n h λn τ f i=>b n τ f _ i λm j d c e=>⟨m,j,e⟩
def BackM(n:Nat)(I:ie)(N:dM):Prop:=∀m,m<n->∀τ' ν',I m τ' ν'->N τ' ν'
def loopMH{Q:Exit->Sg->Mu->Prop}{c:Mu}(I:ie)(h:I BW σ c)(b:∀n τ d (N:dM),I n τ d->BackM n I N->Iw P G ic (Exit.Yf N Q) τ d):Iw P G (.loop ic) Q σ c:=nO I BW h b
def tv(s:ABe):ABe×Value:=(s,.bool true)
theorem look_set(l:dv)(s:ABe):MS (l.map tv) s (.bool false)= .bool (l.any λx=>x==s):=by
 induction l with
 |nil=>rfl
 |cons x l ih=>
  unfold MS at ih |-;rw[AAU,List.find?_cons,List.any_cons];cases hx:(tv x).1==s with
  |true=>simp[show(x==s)=true from hx,tv]
  |false=>simp only[show(x==s)=false from hx,Bool.false_or];exact ih
theorem all_set(l:dv)(s:ABe):((l.map tv).all λx=> !(x.1==s))= !(l.any λx=>x==s):=by
 induction l with
 |nil=>rfl
 |cons x l ih=>rw[AAU,AAy,List.any_cons,ih];simp[tv]
theorem add_set(l:dv)(s:ABe):mY (l.map tv) s (.bool true)=(l++[s]).map tv:=by simp[mY,tv]
theorem kJ(b:Bool):GJ (.bool b)=true:=rfl
attribute [go_sem] look_set all_set add_set kJ
def map_len(f:a->b)(l:List a):(l.map f).length=l.length:=AAo ..
def map_get(f:a->b)(l:List a)(i:Nat):(l.map f)[i]? =(l[i]?).map f:=AAN ..
def map_app(f:a->b)(l m:List a):l.map f++m.map f=(l++m).map f:=(AAp ..).symm
def map_tk(f:a->b)(l:List a)(n:Nat):(l.map f).take n=(l.take n).map f:=(ABV ..).symm
def map_dr(f:a->b)(l:List a)(n:Nat):(l.map f).drop n=(l.drop n).map f:=(List.map_drop ..).symm
theorem dt1{l:List a}{x:a}(h:l[k]? =some x):(l.drop k).take 1=[x]:=by obtain⟨hi,rfl⟩:=AAE.1 h;rw[AA7 hi];rfl
theorem sc_str(l:dv):(l.map Value.string).map AV.sc=l.map BZ:=by rw[List.map_map];rfl
theorem cast22:((22:Nat):Int)=22:=rfl
attribute [go_sem] dt1 sc_str cast22 Nat.mul_one List.getElem?_set_self List.set_set List.length_set Nat.zero_le Option.isSome_none Option.isSome_some Option.isNone_none map_len map_get map_app map_tk map_dr
theorem map_same(f:a->b)(l:List a)(i:Nat)(x:a)(h:l[i]? =some x):(List.map f (l.set i x)=List.map f l)=True:=by obtain⟨hi,rfl⟩:=AAE.1 h;simp
attribute [go_sem] map_same
theorem one_nil:one []= .BQ []:=rfl
attribute [go_sem] one_nil
theorem tn1:Int.toNat 1=1:=rfl
theorem tn2:Int.toNat 2=2:=rfl
theorem tn3:Int.toNat 3=3:=rfl
attribute [go_sem] tn1 tn2 tn3 Nat.reduceAdd
theorem map_ce(e:a->List AV)(l:List a)(h:∀x,(e x).all FN=true):((l.map e).all λx=>x.all FN)=true:=by rw[AA9];exact AAH.2 λx _=>h x
theorem map_pl(e:a->List AV)(l:List a)(h:∀x,(e x).all HP=true):((l.map e).all λx=>x.all HP)=true:=by rw[AA9];exact AAH.2 λx _=>h x
theorem map_fr(e:a->List AV)(l:List a)(h:∀x,PB (e x)=true):RM (l.map e)=true:=by induction l with|nil=>rfl|cons x l ih=>simp[RM,h x,ih]
theorem yF(h:args.all HP=true):ZB args=args:=by
 induction args with
 |nil=>rfl
 |cons a args ih=>simp only[AAy,AAD]at h;rw[ZB,ih h.2];cases a<;>simp_all [HP,JH]
theorem map_fz(e:a->List AV)(l:List a)(h:∀x,(e x).all HP=true):NG (l.map e)=l.map e:=by
 induction l with
 |nil=>rfl
 |cons x l ih=>simp[NG,yF (h x),ih]
theorem map_fm(e:a->List AV)(l:List a)(h:∀x,(e x).all HP=true):(l.map e).map (λx=>x.map JH)=l.map e:=by rw[<- WC];exact map_fz e l h
attribute [go_sem] implies_true map_ce map_pl map_fr map_fz map_fm
def i0(d:Nat)(op:Yv):BP:=⟨some ⟨d,[],[]⟩,op,none⟩
def i1(d r:Nat)(op:Yv):BP:=⟨some ⟨d,[],[r]⟩,op,none⟩
def j0(d:Nat)(op:Yv)(g:Nat)(b:Bool):BP:=⟨some ⟨d,[],[]⟩,op,some (g,b)⟩
def j1(d r:Nat)(op:Yv)(g:Nat)(b:Bool):BP:=⟨some ⟨d,[],[r]⟩,op,some (g,b)⟩
def iC(d s:Nat):BP:=⟨some ⟨d,[],[]⟩,.cp (.t s),none⟩
def iL(d s:Nat):BP:=⟨some ⟨d,[],[]⟩,.ld false 1 (.t s),none⟩
def Zk(d r s:Nat):BP:=⟨some ⟨d,[],[r]⟩,.ld false 1 (.t s),none⟩
def iF(d o s:Nat):BP:=⟨some ⟨d,[],[]⟩,.Ul o (.t s),none⟩
def LU(d r o s:Nat):BP:=⟨some ⟨d,[],[r]⟩,.Ul o (.t s),none⟩
def iI(d k s i:Nat):BP:=⟨some ⟨d,[],[]⟩,.WX k (.t s) (.t i),none⟩
def xG(d r k s i:Nat):BP:=⟨some ⟨d,[],[r]⟩,.WX k (.t s) (.t i),none⟩
def iS(n a b:Nat):BP:=⟨none,.st n (.t a) (.t b),none⟩
def jL(d s g:Nat)(b:Bool):BP:=⟨some ⟨d,[],[]⟩,.ld false 1 (.t s),some (g,b)⟩
def jFr(d r o s g:Nat)(b:Bool):BP:=⟨some ⟨d,[],[r]⟩,.Ul o (.t s),some (g,b)⟩
def iOr(d a b:Nat):BP:=⟨some ⟨d,[],[]⟩,.pick (.t a) (.c (.sc (.bool true))) (.t b),none⟩
def iAn(d a b:Nat):BP:=⟨some ⟨d,[],[]⟩,.pick (.t a) (.t b) (.c (.sc (.bool false))),none⟩
def iU(d:Nat)(n:Int):BP:=⟨some ⟨d,[],[]⟩,.cp (.c (.sc (.int .i64 n))),none⟩
def iZ(d s:Nat):BP:=⟨some ⟨d,[],[]⟩,.len (.t s),none⟩
def iA(d k s:Nat):BP:=⟨some ⟨d,[],[]⟩,.ld true k (.t s),none⟩
def jC(d s g:Nat)(b:Bool):BP:=⟨some ⟨d,[],[]⟩,.cp (.t s),some (g,b)⟩
def jN(d s g:Nat)(b:Bool):BP:=⟨some ⟨d,[],[]⟩,.un .not (.t s),some (g,b)⟩
def jP(d:Nat)(op:BinOp)(x:Nat)(n:Int)(g:Nat)(b:Bool):BP:=⟨some ⟨d,[],[]⟩,.bin op (.t x) (.c (.sc (.int .i64 n))),some (g,b)⟩
def cX(c id:Nat):IC:=.cond (.t c) .skip (.exit id)
def iQ(d s:Nat)(n:Int):BP:=⟨some ⟨d,[],[]⟩,.bin .eql (.t s) (.c (.sc (.int .i64 n))),none⟩
def iO(d:Nat)(op:BinOp)(a b:Nat):BP:=⟨some ⟨d,[],[]⟩,.bin op (.t a) (.t b),none⟩
def iP(d:Nat)(op:BinOp)(a:Nat)(n:Int):BP:=⟨some ⟨d,[],[]⟩,.bin op (.t a) (.c (.sc (.int .i64 n))),none⟩
def iK(d:Nat)(n:Int):BP:=⟨some ⟨d,[],[]⟩,.mv (.c (.sc (.int .i64 n))),none⟩
def iB(d:Nat)(b:Bool):BP:=⟨some ⟨d,[],[]⟩,.mv (.c (.sc (.bool b))),none⟩
def bA(k:Nat)(cs:dm):AV:=.own true k [cs]
attribute [go_sem] iOr iAn iU iZ iA jC jN jP cX iQ iO iP iK iB bA i0 i1 j0 j1 iC iL Zk iF LU iI xG iS jL jFr
end
variable{D:Prop}
section
variable{P:Program}{G:Gi}
def exI{a:Sort _}{p:a->Prop}(h:∃x,p x)(k:∀x,p x->C):C:=h.elim k
def anI(h:p/\D)(k:p->D->C):C:=k h.1 h.2
def CutT(n:Nat)(M0:dg):Prop:=∀(P:Program)(G:Gi)(a b:IC)(Q:Exit->Sg->Prop)(σ:Sg),(∀M:Sg->Prop,Imp M0 M->Hg P G a (Exit.Qm M Q) σ/\∀τ,M0 τ->Hg P G b Q τ)->Hg P G (Np n a b) Q σ
def Bs(n:Nat)(a:dg):CutT n a:=λ_ _ _ _ _ _ h=>cutNH n a h
def db(n:Nat)(I:Nat->Nat->Nat->Nat->Sg->Prop):=λa b c d=>Bs n (I a b c d)
def CutT.use(c:CutT k K){a b:IC}(h:∀M:Sg->Prop,Imp K M->Hg P G a (Exit.Qm M Q) σ/\∀τ,K τ->Hg P G b Q τ):Hg P G (Np k a b) Q σ:=c _ _ _ _ _ _ h
def Wd(I:ga):Prop:=∀(P:Program)(G:Gi)(a:IC)(Q:Exit->Sg->Prop)(σ:Sg),I BW σ->(∀n τ (N:dg),I n τ->Back n I N->Hg P G a (Exit.Qm N Q) τ)->Hg P G (.loop a) Q σ
def A3(I:ga):Wd I:=λ_ _ _ _ _ h r=>kC I h r
def da(I:Nat->Nat->Nat->Nat->Nat->Sg->Prop):=λa b c d=>A3 (I a b c d)
def Wd.use(c:Wd T){a:IC}(h:T BW σ)(r:∀n τ (N:dg),T n τ->Back n T N->Hg P G a (Exit.Qm N Q) τ):Hg P G (.loop a) Q σ:=c _ _ _ _ _ h r
def ac2{c b:ABd a}{x:a}(h:(if(i==0)=true then c else if(i==1)=true then b else none)=some x)(d:i=0->c=some x->C)(e:i=1->b=some x->C):C:=(acase2 h).elim (λh=>d h.1 h.2) λh=>e h.1 h.2
theorem cal{p:Prop}(q:p:=by first| ((with_reducible have g:=a1 g);exact g)| ((with_reducible have g:=a2 g);exact g)| ((with_reducible have g:=a3 g);exact g)| ((with_reducible have g:=a4 g);exact g)| ((with_reducible have g:=a5 g);exact g)| ((with_reducible have g:=a6 g);exact g)| ((with_reducible have g:=a7 g);exact g)| ((with_reducible have g:=a8 g);exact g)| ((with_reducible have g:=a9 g);exact g)| ((with_reducible have g:=a10 g);exact g)| ((with_reducible have g:=a11 g);exact g)| ((with_reducible have g:=a12 g);exact g)| ((with_reducible have g:=a13 g);exact g)| ((with_reducible have g:=a14 g);exact g)| ((with_reducible have g:=a15 g);exact g)| ((with_reducible have g:=a16 g);exact g)| ((with_reducible have g:=a17 g);exact g)| ((with_reducible have g:=a18 g);exact g)| ((with_reducible have g:=a19 g);exact g)| ((with_reducible have g:=a20 g);exact g)| ((with_reducible have g:=a21 g);exact g)| ((with_reducible have g:=a22 g);exact g)| ((with_reducible have g:=a23 g);exact g)| ((with_reducible have g:=a24 g);exact g)| ((with_reducible have g:=a25 g);exact g)| ((with_reducible have g:=a26 g);exact g)| ((with_reducible have g:=a27 g);exact g)| ((with_reducible have g:=a28 g);exact g)| ((with_reducible have g:=a29 g);exact g)| ((with_reducible have g:=a30 g);exact g)):p:=q
theorem cas{p:Prop}(q:p:=by
  first
    | (repeat with_reducible apply Exists.intro
       with_reducible refine⟨?_,h⟩)
    | (have hq:=h
       subst_vars
       repeat with_reducible apply Exists.intro
       with_reducible refine⟨?_,hq⟩)
  first
    | (simp +decide only[go_sem, *]
       done)
    | ((try simp +decide only[go_sem, *])
       (repeat' with_reducible apply And.intro)<;>first
         |with_reducible rfl
         | (simp only[AAp,AAU,AAm,go_sem]
            done))):p:=q
theorem zer{p:Prop}(q:p:=by
 repeat (with_reducible first|refine exI h ?_|refine anI h ?_);clear h;intro _ h
 exact ET h):p:=q
theorem sgBk{f:UInt8->ABd b}{r:b}(h:(sgt l i).bind f=some r)(k:∀x,((∀n,i.toNat=n->l[n]? =some x)/\0<=i)->f x=some r->C):C:=by obtain⟨x,a,h⟩:=sgB h;exact k x ⟨λn e=>e▸a.1,a.2⟩ h
theorem walk{p:Prop}(q:p:=by
  try
    unfold Run;intro C R I e1 e2 e3
    conv at e3=>lhs;cbv
    repeat
      conv at e3=>
        pattern R _ _
        rw[e2]
        cbv
    subst e3;subst e1;dsimp only
  have n1:=0;have n2:=0;have n3:=0;have n4:=0
  repeat' first
    |with_reducible exact ET h
    | (with_reducible refine exI h ?_
       clear h;intro _ h)
    | (with_reducible refine anI h ?_
       clear h;intro _ h)
    |with_reducible refine gBm eS h λ_ _ h=> ?_
    |with_reducible refine gBm eI h λ_ _ h=> ?_
    |with_reducible refine gBe h bm λh=> ?_
    |with_reducible refine gBk h λ_ _ h=> ?_
    |with_reducible refine sgBk h λ_ _ h=> ?_
    | (with_reducible refine cSk h λg h=> ?_
       try simp only[AAz]at g)
    | (with_reducible refine ac2 h ?_ ?_
       all_goals
         clear h;intro e h;cases e)
    | (with_reducible refine bSs h λh=> ?_
       try simp +decide only[go_sem, *]
       refine⟨_,by first|exact a1 bm|exact a2 bm|exact a3 bm|exact a4 bm|exact a5 bm|exact a6 bm|exact a7 bm|exact a8 bm|exact a9 bm|exact a10 bm|exact a11 bm|exact a12 bm|exact a13 bm|exact a14 bm|exact a15 bm|exact a16 bm|exact a17 bm|exact a18 bm|exact a19 bm|exact a20 bm|exact a21 bm|exact a22 bm|exact a23 bm|exact a24 bm|exact a25 bm|exact a26 bm|exact a27 bm|exact a28 bm|exact a29 bm|exact a30 bm,?_⟩)
    | (with_reducible refine bSk h λ_ g h=> ?_
       try simp +decide only[go_sem, *]
       first
         |refine⟨_,cal,?_⟩
         | (refine uF.intro cal rfl ?_ ?_ ?_
            . rfl
            . first|rfl|simp +decide only[go_sem, *])
         |refine LbE.intro cal (by first|rfl|simp +decide only[go_sem, *]) ?_)
    | (with_reducible cases h
       first
         | (simp +decide only[go_sem, *]
            done)
         | (simp +decide only[AAp,AAU,AAm,go_sem, *]
            done))
    |simp only[eq_self,AAi,AAT,AAM]at h
    |simp +decide only[go_sem, *]
    | (with_reducible refine impI bm ?_
       exact cas)
    | (with_reducible refine CutT.use (by first|exact c1 n1 n2 n3 n4|exact c2 n1 n2 n3 n4|exact c3 n1 n2 n3 n4|exact c4 n1 n2 n3 n4|exact c5 n1 n2 n3 n4|exact c6 n1 n2 n3 n4|exact c7 n1 n2 n3 n4|exact c8 n1 n2 n3 n4|exact c9 n1 n2 n3 n4|exact c10 n1 n2 n3 n4|exact c11 n1 n2 n3 n4|exact c12 n1 n2 n3 n4|exact c13 n1 n2 n3 n4|exact c14 n1 n2 n3 n4|exact c15 n1 n2 n3 n4|exact c16 n1 n2 n3 n4|exact c17 n1 n2 n3 n4|exact c18 n1 n2 n3 n4|exact c19 n1 n2 n3 n4|exact c20 n1 n2 n3 n4|exact c21 n1 n2 n3 n4|exact c22 n1 n2 n3 n4|exact c23 n1 n2 n3 n4|exact c24 n1 n2 n3 n4|exact c25 n1 n2 n3 n4|exact c26 n1 n2 n3 n4|exact c27 n1 n2 n3 n4|exact c28 n1 n2 n3 n4|exact c29 n1 n2 n3 n4|exact c30 n1 n2 n3 n4) λM m=>⟨?_,?_⟩
       rotate_left;clear h;intro τ h;rotate_left)
    | (with_reducible refine Wd.use (l1 n1 n2 n3 n4) ?_ ?_
       . exact cas
       clear h;rintro(_|n1) τ N h k
       . exact zer)
    | (with_reducible refine Wd.use (l2 n1 n2 n3 n4) ?_ ?_
       . exact cas
       clear h;rintro(_|n2) τ N h k
       . exact zer)
    | (with_reducible refine Wd.use (l3 n1 n2 n3 n4) ?_ ?_
       . exact cas
       clear h;rintro(_|n3) τ N h k
       . exact zer)
    | (with_reducible refine Wd.use (l4 n1 n2 n3 n4) ?_ ?_
       . exact cas
       clear h;rintro(_|n4) τ N h k
       . exact zer)
    | (with_reducible refine backI bm ?_
       first
         |exact cas
         | (repeat with_reducible apply Exists.intro
            with_reducible refine⟨?_,h⟩))
    |simp only[*,eq_self,AAi,AAT,AAM,decide_true,decide_false]at h
    | (with_reducible refine bI h ?_ ?_
       all_goals
         clear h;intro _ h)
    |intro _ _
    |unfold L1 at h
    |unfold L2 at h
    |unfold L3 at h
    |unfold L4 at h
    |unfold J1 at h
    |unfold J2 at h
    |unfold J3 at h
    |unfold J4 at h
    |unfold J5 at h
    |unfold J6 at h
    |unfold J7 at h
    |unfold J8 at h
    |unfold J9 at h
    |unfold Oz at h
    |unfold Y4 at h
    |unfold rK at h
    |unfold J13 at h
    |unfold J14 at h
    |unfold J15 at h
    |unfold J16 at h
    |unfold J17 at h
    |unfold J18 at h
    |unfold J19 at h
    |unfold J20 at h
    |unfold J21 at h
    |unfold J22 at h
    |unfold J23 at h
    |unfold J24 at h
    |unfold J25 at h
    |unfold J26 at h
    |unfold J27 at h
    |unfold J28 at h
    |unfold J29 at h
    |unfold J30 at h
    |rw[Aa]at h
    |rw[DF]at h
    |rw[Gg]at h
    |rw[L4r]at h
    |contradiction
    |with_reducible rfl):p:=q
end
section
inductive A where
 |f (o s:Nat)|F (o s:Nat)|H (r o s:Nat)|h (r o s:Nat)|m (r o s:Nat)|u (o s:Nat)|U (o s:Nat)|L (s:Nat)|l (r s:Nat)|C (s:Nat)
 |Q (s:Nat) (k:Int)|q (s:Nat) (k:Int) (d:Nat)|P (op:BinOp) (s:Nat) (k:Int)|O (op:BinOp) (a b:Nat)|M (d s:Nat)|K (d:Nat) (k:Int)|B (d:Nat) (b:Bool)
 |S (k a b:Nat)|T (a:Nat) (k:Int)|I (k s i:Nat)|J (r k s i:Nat)|A (k s:Nat)|Z (s:Nat)|V (a b:Nat)|W (a b:Nat)|N (s:Nat)|Y (k:Int)
 |p (s o:Nat)|r (s o:Nat)|D (s:Nat)|c (f:Nat) (l:List Nat) (m:Nat)|G (a:Nat) (b:Bool)|e|w (n:Nat)|o (op:Yv)|y (r:Nat) (op:Yv)|x (op:BP)|b (d:Nat) (kl:List Nat) (op:Yv)
def tN:List Nat->List Ar
 |[]=>[]
 |s::l=>.t s::tN l
def M5:ABd (Nat×Bool)->Nat->List A->List BP
 |_,_,[]=>[]
 |g,n,.f o s::l=>⟨some ⟨n,[],[s]⟩,.Ul o (.t s),g⟩::⟨some ⟨n+1,[],[]⟩,.ld false 1 (.t n),g⟩::M5 g (n+2) l
 |g,n,.F o s::l=>⟨some ⟨n,[],[s]⟩,.Ul o (.t s),g⟩::M5 g (n+1) l
 |g,n,.H r o s::l=>⟨some ⟨n,[],[r]⟩,.Ul o (.t s),g⟩::M5 g (n+1) l
 |g,n,.h r o s::l=>⟨some ⟨n,[],[r]⟩,.Ul o (.t s),g⟩::⟨some ⟨n+1,[],[]⟩,.ld false 1 (.t n),g⟩::M5 g (n+2) l
 |g,n,.m r o s::l=>⟨some ⟨n,[],[r]⟩,.Ul o (.t s),g⟩::⟨some ⟨n+1,[],[r]⟩,.ld false 1 (.t n),g⟩::M5 g (n+2) l
 |g,n,.u o s::l=>⟨some ⟨n,[],[]⟩,.Ul o (.t s),g⟩::M5 g (n+1) l
 |g,n,.U o s::l=>⟨some ⟨n,[],[]⟩,.Ul o (.t s),g⟩::⟨some ⟨n+1,[],[]⟩,.ld false 1 (.t n),g⟩::M5 g (n+2) l
 |g,n,.L s::l=>⟨some ⟨n,[],[]⟩,.ld false 1 (.t s),g⟩::M5 g (n+1) l
 |g,n,.l r s::l=>⟨some ⟨n,[],[r]⟩,.ld false 1 (.t s),g⟩::M5 g (n+1) l
 |g,n,.C s::l=>⟨some ⟨n,[],[]⟩,.cp (.t s),g⟩::M5 g (n+1) l
 |g,n,.Q s k::l=>⟨some ⟨n,[],[]⟩,.bin .eql (.t s) (.c (.sc (.int .i64 k))),g⟩::M5 g (n+1) l
 |g,n,.q s k d::l=>⟨some ⟨n,[],[]⟩,.bin .eql (.t s) (.c (.sc (.int .i64 k))),g⟩::⟨some ⟨d,[],[]⟩,.mv (.t n),g⟩::M5 g (n+1) l
 |g,n,.P op s k::l=>⟨some ⟨n,[],[]⟩,.bin op (.t s) (.c (.sc (.int .i64 k))),g⟩::M5 g (n+1) l
 |g,n,.O op a b::l=>⟨some ⟨n,[],[]⟩,.bin op (.t a) (.t b),g⟩::M5 g (n+1) l
 |g,n,.M d s::l=>⟨some ⟨d,[],[]⟩,.mv (.t s),g⟩::M5 g n l
 |g,n,.K d k::l=>⟨some ⟨d,[],[]⟩,.mv (.c (.sc (.int .i64 k))),g⟩::M5 g n l
 |g,n,.B d b::l=>⟨some ⟨d,[],[]⟩,.mv (.c (.sc (.bool b))),g⟩::M5 g n l
 |g,n,.S k a b::l=>⟨none,.st k (.t a) (.t b),g⟩::M5 g n l
 |g,n,.T a k::l=>⟨none,.st 1 (.t a) (.c (.sc (.int .i64 k))),g⟩::M5 g n l
 |g,n,.I k s i::l=>⟨some ⟨n,[],[]⟩,.WX k (.t s) (.t i),g⟩::M5 g (n+1) l
 |g,n,.J r k s i::l=>⟨some ⟨n,[],[r]⟩,.WX k (.t s) (.t i),g⟩::M5 g (n+1) l
 |g,n,.A k s::l=>⟨some ⟨n,[],[]⟩,.ld true k (.t s),g⟩::M5 g (n+1) l
 |g,n,.Z s::l=>⟨some ⟨n,[],[]⟩,.len (.t s),g⟩::M5 g (n+1) l
 |g,n,.V a b::l=>⟨some ⟨n,[],[]⟩,.pick (.t a) (.c (.sc (.bool true))) (.t b),g⟩::M5 g (n+1) l
 |g,n,.W a b::l=>⟨some ⟨n,[],[]⟩,.pick (.t a) (.t b) (.c (.sc (.bool false))),g⟩::M5 g (n+1) l
 |g,n,.N s::l=>⟨some ⟨n,[],[]⟩,.un .not (.t s),g⟩::M5 g (n+1) l
 |g,n,.Y k::l=>⟨some ⟨n,[],[]⟩,.cp (.c (.sc (.int .i64 k))),g⟩::M5 g (n+1) l
 |g,n,.p s o::l=>⟨some ⟨n,[],[s]⟩,.cp (.t s),g⟩::⟨some ⟨n+1,[],[s]⟩,.Jp (.t n),g⟩::⟨some ⟨n+2,[],[s]⟩,.Ul o (.t (n+1)),g⟩::⟨some ⟨n+3,[],[]⟩,.ld false 1 (.t (n+2)),g⟩::M5 g (n+4) l
 |g,n,.r s o::l=>⟨some ⟨n,[],[s]⟩,.cp (.t s),g⟩::⟨some ⟨n+1,[],[s]⟩,.Jp (.t n),g⟩::⟨some ⟨n+2,[],[s]⟩,.Ul o (.t (n+1)),g⟩::⟨some ⟨n+3,[],[s]⟩,.ld false 1 (.t (n+2)),g⟩::M5 g (n+4) l
 |g,n,.D s::l=>⟨some ⟨n,[],[s]⟩,.cp (.t s),g⟩::⟨some ⟨n+1,[],[s]⟩,.Jp (.t n),g⟩::M5 g (n+2) l
 |g,n,.c f a m::l=>⟨some ⟨n,[],[]⟩,.call f (tN a) m,g⟩::M5 g (n+1) l
 |_,n,.G a b::l=>M5 (some (a,b)) n l
 |_,n,.e::l=>M5 none n l
 |g,_,.w n::l=>M5 g n l
 |g,n,.o op::l=>⟨some ⟨n,[],[]⟩,op,g⟩::M5 g (n+1) l
 |g,n,.y r op::l=>⟨some ⟨n,[],[r]⟩,op,g⟩::M5 g (n+1) l
 |g,n,.x op::l=>op::M5 g n l
 |g,n,.b d k op::l=>⟨some ⟨d,k,[]⟩,op,g⟩::M5 g n l
def Ra(n:Nat)(l:List A)(b:IC):IC:=.seq (.T1 (M5 none n l)) b
def Rb(n:Nat)(l:List A):IC:=.seq (.T1 (M5 none n l)) .ret
def Rc(n:Nat)(l:List A):IC:=.T1 (M5 none n l)
def Cn(c:Nat)(a b:IC):IC:=.cond (.t c) a b
def Ci(c:Nat)(a:IC):IC:=.cond (.t c) a .skip
def Sq(a b:IC):IC:=.seq a b
def Bk(n:Nat)(a:IC):IC:=.block n a
def Bl(n:Nat)(a:IC):IC:=.block n (.loop a)
attribute [go_sem] tN M5 Ra Rb Rc Cn Ci Sq Bk Bl
abbrev vS{d:Type}(k:Nat)(e:d->List AV)(l:List d):AV:=.sl false k (l.map e)
abbrev vO{d:Type}(k:Nat)(e:d->List AV)(l:List d):AV:=.own false k (l.map e)
attribute [go_sem] vS vO
section
variable{P:Program}{f:Nat}{fn:Func}{I:FI}{args:dm}{res:AV}{outs:dm}
theorem wO(hm:P.follows .mixedOrders=true)(hf:P.funcs[f]? =some fn)(h:Hg P I.g I.c (Ends I.g I.r res) (start args))(hc:M6 P fn I=true:=by kernel_rfl)(hn:args.length<=fn.ntmps:=by exact AAO (by kernel_rfl))(ha:args.all Is=true:=by rfl):Says P f args res:=Lr hm hf hc hn ha h
theorem wL(hm:P.follows .mixedOrders=true)(hf:P.funcs[f]? =some fn)(h:Hg P I.g I.c (Wb I.g I.r res outs) (start args))(hc:M6 P fn I=true:=by kernel_rfl)(hD:iD fn args.length=true:=by kernel_rfl)(hn:args.length<=fn.ntmps:=by exact AAO (by kernel_rfl))(ha:args.all Is=true:=by rfl)(hl:outs.length=args.length:=by rfl):BD P f args res outs:=lO hm hf hc hD hn ha hl h
theorem wP(hm:P.follows .mixedOrders=true)(hf:P.funcs[f]? =some fn)(h:Hg P I.g I.c (fR I.g I.r res outs) (start args))(hc:M6 P fn I=true:=by kernel_rfl)(hD:iD fn args.length=true:=by kernel_rfl)(hn:args.length<=fn.ntmps:=by exact AAO (by kernel_rfl))(ha:args.all Is=true:=by rfl)(hl:outs.length=args.length:=by rfl):BD P f args res outs:=bJ hm hf hc hD hn ha hl h
end
end
variable{P:Program}{u:AV}
section
inductive Yk where
 |b|t|i (k:IntKind)|s (l q:List Nat)|l (k b:Nat) (z:List AV)|a (n k:Nat) (g:Bool)|o
structure Y where
 z:List AV
 k:Yk
def lk(d:a):List (Nat×a)->Nat->a
 |[],_=>d
 | (k,x)::l,n=>if k=n then x else lk d l n
structure Hn where
 T:List (Nat×Y)
 C:List (Nat×Nat)
 L:List (Nat×Nat×ABd Nat)
 K:List (Nat×List Nat)
 Q:List (Nat×Nat)
 Z:List (Nat×Bool×Nat×List Step)
 F:List Nat
 E:List (Nat×IC)
def Hn.y(H:Hn)(t:Nat):Y:=lk ⟨[.sc (.int .i64 0)],.o⟩ H.T t
def Hn.n(H:Hn)(t:Nat):Nat:=(H.y t).z.length
def Hn.g(H:Hn)(t:Nat):Bool:=match(H.y t).k with
 | .s .. =>true
 | .a .. =>true
 |_=>false
def Hn.e(H:Hn)(t:Nat):Nat:=match(H.y t).k with
 | .l k .. =>k
 | .a _ k _=>k
 |_=>1
def fOf:Nat->List Nat->Nat->Nat×Nat×Bool
 |o,0::_,0=>(o,1,false)
 |o,n::_,0=>(o,n,true)
 |o,0::l,i+1=>fOf (o+1) l i
 |o,n::l,i+1=>fOf (o+n) l i
 |o,[],_=>(o,1,false)
def Hn.f(H:Hn)(t i:Nat):Nat×Nat×Bool:=match(H.y t).k with
 | .s l _=>fOf 0 l i
 | .a _ k g=>(i*k,k,g)
 |_=>(0,1,false)
def Hn.zv(H:Hn)(t:Nat):AV:=if H.g t then .agg (H.y t).z else(H.y t).z.headD .un
def inA(d:Nat):List Nat->Bool
 |[]=>false
 |x::l=>match compare x d with
  | .lt=>inA d l
  | .eq=>true
  | .gt=>false
def rsK(d:Nat):List (Nat×List Nat)->List Nat
 |[]=>[]
 | (r,x)::l=>if inA d x then r::rsK d l else rsK d l
def Hn.rs(H:Hn)(d:Nat):List Nat:=rsK d H.K
def Hn.d(H:Hn)(d:Nat):Dp:=⟨d,lk [] H.K d,H.rs d⟩
def insA(x:Nat):List Nat->List Nat
 |[]=>[x]
 |y::l=>match compare x y with
  | .lt=>x::y::l
  | .eq=>y::l
  | .gt=>y::insA x l
def mrg:List (Nat×List Nat)->List Nat
 |[]=>[]
 |[(_,l)]=>l
 | (_,l)::k=>(mrg k).foldl (λa x=>insA x a) l
def Hn.G(H:Hn):Gi:=⟨(mrg H.K).map λd=>(d,H.rs d)⟩
def cst(H:Hn)(t:Nat)(f:Bool):Value->AV
 | .slice none 0 0=>if f then .sl false (H.e t) []else .own false (H.e t) []
 | .agg _=>.agg (H.y t).z
 |v=>.sc v
def oa(H:Hn)(t:Nat):Operand->Ar
 | .tmp s=>.t s
 | .const v=>.c (cst H t false v)
 |_=>.c .un
def of(H:Hn)(t:Nat)(f:Bool):Operand->Ar
 | .const v=>.c (cst H t f v)
 |x=>oa H t x
def oas(H:Hn):List Operand->List Nat->List Ar
 |x::l,t::m=>oa H t x::oas H l m
 |_,_=>[]
def gop(H:Hn)(ty:Nat)(f:Bool):Op->Yv
 | .move x=>.cp (of H ty f x)
 | .assign x=>.mv (of H ty f x)
 | .pick c a b=>.pick (oa H 0 c) (oa H 0 a) (oa H 0 b)
 | .alloc t=>.bx (H.n t) (.c (H.zv t))
 | .box t x=>.bx (H.n t) (oa H t x)
 | .build t ps=>.T2 (H.y t).z (ps.toList.map λp=>((H.f t p.1).1,(H.f t p.1).2.1,oa H 0 p.2))
 | .buildSlice t n ps=>match(H.y t).k with
  | .l k _ z=>.Nk k (List.replicate n z) (ps.toList.map λp=>(p.1,oa H 0 p.2))
  |_=>.bad
 | .load t a=>.ld (H.g t) (H.n t) (oa H 0 a)
 | .store t a v=>.st (H.n t) (oa H 0 a) (oa H t v)
 | .nilCheck x=>.Jp (oa H 0 x)
 | .binOp op t x y _=>match(H.y t).k with
  | .b=>.beq (match op with| .neq=>true|_=>false) (oa H 0 x) (oa H 0 y)
  | .s _ q=>.lR (match op with| .neq=>true|_=>false) q (oa H t x) (oa H t y)
  |_=>.bin op (oa H 0 x) (oa H 0 y)
 | .unOp op _ x=>.un op (oa H 0 x)
 | .convert _ d x=>.cvt (match(H.y d).k with| .i k=>k|_=>.i64) (oa H 0 x)
 | .fieldAddr t x f=>.Ul (H.f t f).1 (oa H 0 x)
 | .field t x f=>.fld (H.f t f).2.2 (H.f t f).1 (H.f t f).2.1 (oa H 0 x)
 | .indexAddr t x i=>match(H.y t).k with
  | .a n k _=>.aad n k (oa H 0 x) (oa H 0 i)
  |_=>.WX (H.e t) (oa H 0 x) (oa H 0 i)
 | .index t x i=>match(H.y t).k with
  | .a n k g=>.idx g n k (oa H 0 x) (oa H 0 i)
  |_=>.lS (oa H 0 x) (oa H 0 i)
 | .slice t x l h m=>.slc (H.e t) true (oa H 0 x) (l.map (oa H 0)) (h.map (oa H 0)) (m.map (oa H 0))
 | .extract x i=>.ext (oa H 0 x) i
 | .makeSlice t l c=>match(H.y t).k with
  | .l k b z=>.mk k b z (oa H 0 l) (oa H 0 c)
  |_=>.bad
 | .call c=>match c.callee,oas H c.args.toList c.argTypes.toList,c.argTypes.toList with
  | .builtin .len,[x],[t]=>(match(H.y t).k with| .t=>.Zc x|_=>.len x)
  | .builtin .append,[x,y],t::_=>(match(H.y t).k with| .l k b _=>.app k b x y|_=>.bad)
  | .builtin .max,[x,y],_=>.mm true x y
  | .builtin .min,[x,y],_=>.mm false x y
  | .value (.func f),xs,_=>(match lk none (H.L.map λx=>(x.1,some x.2)) f with
   |some (i,c)=>(match xs.drop i with|x::post=>.Uv f (xs.take i) x c post|_=>.bad)
   |none=>.call f xs (lk 0 H.C f))
  |_,_,_=>.bad
 |_=>.bad
def gor(H:Hn)(ops:Array Oper)(o:Oper):BP:=⟨o.dst.map H.d,gop H o.type (match o.dst with|some d=>H.F.contains d|none=>false) o.op,o.guard.map λg=>(((ops[g.1]?).bind (·.dst)).getD 0,g.2)⟩
def gzw:List (Nat×Bool×Nat×List Step)->Nat->IC->IC
 |[],_,c=>c
 | (i,b,r,p)::l,n,c=>gzw l n (if i=n then .gz b r p c else c)
def rgn(H:Hn)(id:Nat)(ops:Array Oper):IC:=match lk none (H.E.map λx=>(x.1,some x.2)) id with
 |some c=>c
 |none=>gzw H.Z id (.T1 (ops.toList.map (gor H ops)))
def gco(H:Hn)(C:Nat->IC->IC->IC)(R:Nat->Array Oper->IC):Nat->Code->Nat×IC
 |n,.region id ops _=>(n,R id ops)
 |n,.seq a b=>match gco H C R (n+1) a with
  | (m,a')=>match gco H C R m b with
   | (k,b')=>(k,match lk 0 H.Q n with|0=>.seq a' b'|j=>C j a' b')
 |n,.cond c a b=>match gco H C R n a with
  | (m,a')=>match gco H C R m b with
   | (k,b')=>(k,.cond (oa H 0 c) a' b')
 |n,.block id a=>match gco H C R n a with| (m,a')=>(m,.block id a')
 |n,.loop a=>match gco H C R n a with| (m,a')=>(m,.loop a')
 |n,.scope a=>match gco H C R (n+1) a with| (m,a')=>(m,.seq .skip a')
 |n,.exit id=>(n,.exit id)
 |n,.ret=>(n,.ret)
 |n,.skip=>(n,.skip)
 |n,.label _=>(n,.skip)
 |n,_=>(n,.bad)
def mkI(H:Hn)(C:Nat->IC->IC->IC)(R:Nat->Array Oper->IC)(fn:Func):FI:=⟨(gco H C R 0 (fn.body.getD .skip)).2,H.G,fn.results.toList.map λ
 | .tmp t=>.tmp t
 | .cell a t=>.cell a (H.g t) (H.n t)⟩
def arrMk(l:List a):Array.mk l=l.toArray:=(rfl)
attribute [go_sem] arrMk
def awp_cg{G:Gi}{c:IC}(h:σ=τ):Hg P G c Q σ=Hg P G c Q τ:=h▸rfl
def aops_cg{G:Gi}{l:eP}(h:σ=τ):Nh P G l K σ=Nh P G l K τ:=h▸rfl
def bK_cg{x y:ABd Sg}(h:x=y):bK x K=bK y K:=h▸rfl
def condK_cg(h:x=out)(g:σ=τ):SW x K N σ=SW out K N τ:=h▸g▸rfl
def gK_cg(h:x=out)(g:σ=τ):gK x c K N σ=gK out c K N τ:=h▸g▸rfl
def toDst_cg{d:dD}(h:x=u)(g:σ=τ):C2 d x K σ=C2 d u K τ:=h▸g▸rfl
def resK_cg{d:dD}{v u:ABd AV}(h:v=u)(g:σ=τ):qN v d K σ=qN u d K τ:=h▸g▸rfl
attribute [congr] awp_cg aops_cg bK_cg condK_cg gK_cg toDst_cg resK_cg
section
variable{P:Program}{f:Nat}{fn:Func}{args:dm}{res:AV}{outs:dm}
def Run(P:Program)(fn:Func)(H:Hn)(E:Gi->List RV->Exit->Sg->Prop)(args:dm):Prop:=∀C R I,C=Np->R=rgn H->mkI H C R fn=I->Hg P I.g I.c (E I.g I.r) (start args)
theorem kO(hm:P.follows .mixedOrders=true)(hf:P.funcs[f]? =some fn)(H:Hn)(h:Run P fn H (Ends · · res) args)(hc:M6 P fn (mkI H Np (rgn H) fn)=true:=by kernel_rfl)(hn:args.length<=fn.ntmps:=by exact AAO (by kernel_rfl))(ha:args.all Is=true:=by rfl):Says P f args res:=Lr hm hf hc hn ha (h _ _ _ rfl rfl rfl)
theorem kF(hm:P.follows .mixedOrders=true)(hf:P.funcs[f]? =some fn)(H:Hn)(h:Run P fn H (rH · · res) args)(hc:M6 P fn (mkI H Np (rgn H) fn)=true:=by kernel_rfl)(hn:args.length<=fn.ntmps:=by exact AAO (by kernel_rfl))(ha:args.all Is=true:=by rfl):Says P f args res:=lM hm hf hc hn ha (h _ _ _ rfl rfl rfl)
theorem kL(hm:P.follows .mixedOrders=true)(hf:P.funcs[f]? =some fn)(H:Hn)(h:Run P fn H (Wb · · res outs) args)(hc:M6 P fn (mkI H Np (rgn H) fn)=true:=by kernel_rfl)(hD:iD fn args.length=true:=by kernel_rfl)(hn:args.length<=fn.ntmps:=by exact AAO (by kernel_rfl))(ha:args.all Is=true:=by rfl)(hl:outs.length=args.length:=by rfl):BD P f args res outs:=lO hm hf hc hD hn ha hl (h _ _ _ rfl rfl rfl)
theorem kP(hm:P.follows .mixedOrders=true)(hf:P.funcs[f]? =some fn)(H:Hn)(h:Run P fn H (fR · · res outs) args)(hc:M6 P fn (mkI H Np (rgn H) fn)=true:=by kernel_rfl)(hD:iD fn args.length=true:=by kernel_rfl)(hn:args.length<=fn.ntmps:=by exact AAO (by kernel_rfl))(ha:args.all Is=true:=by rfl)(hl:outs.length=args.length:=by rfl):BD P f args res outs:=bJ hm hf hc hD hn ha hl (h _ _ _ rfl rfl rfl)
end
end
variable{w:World}{H:List Value}{v:Value}{t tb:TypeId}{X:List AV->Prop}
section
open Go.ChangeShapes Go.WideShapes Go.ChangeAt Go.RowKit
def Old(w:World)(b:Nat):Prop:=b<w.heap.size
def Cells(w:World)(HS:dm)(cs:List Value):Prop:=HS.length=cs.length/\∀(i:Nat) a v,HS[i]? =some a->cs[i]? =some v->Fz w (Old w) a v
theorem Cells.append{h:List Value}(b:Cells w args H)(j:Cells w E h):Cells w (args++E) (H++h):=by
 refine⟨by simp[b.1,j.1],λi a v d c=> ?_⟩;by_cases hi:i<args.length
 . rw[AAg hi]at d;rw[AAg (by rw[<- b.1];exact hi)]at c;exact b.2 i a v d c
 . rw[AAa ah]at d;rw[AAa (by rw[<- b.1];omega)]at c;rw[<- b.1]at c;exact j.2 _ a v d c
theorem Cells.nil(w:World):Cells w [] []:=⟨rfl,λi a v h=>by simp at h⟩
theorem Cells.one(h:Fz w (Old w) x v):Cells w [x] [v]:=by
 refine⟨rfl,λi d e b c=> ?_⟩;cases i with
 |zero=>simp at b c;subst b;subst c;exact h
 |succ i=>simp at b
def Light(P:Program)(t:TypeId)(d:DataW a):Prop:=∀n∈d.weights P t,n<=reachBytes
def OL(P:Program)(t:TypeId)(X:List AV->Prop):Prop:=
 ∀(H:Type)(enc:TypeId×Value->H)(w:World)(fuel:Nat)(cs:List Value)(d:DataW H)(ps:List MemPlace),
  DataW.trod enc P w 0 (λ_=>true) true fuel t cs=some (d,ps)->Light P t d->∃HS,X HS/\Cells w HS cs
theorem OL.mono{Y:List AV->Prop}(h:OL P t X)(b:∀a,X a->Y a):OL P t Y:=by intro H enc w fuel e d k i g;obtain⟨c,j,f⟩:=h H enc w fuel e d k i g;exact⟨c,b _ j,f⟩
theorem yD{k:IntKind}(h:P.underlying t=some (.int k)):OL P t (λe=>∃n,e=[.sc (.int k n)]/\(Lit.int k n).wf=true):=by
 intro H enc w fuel f d i a g;cases fuel with
 |zero=>simp[DataW.trod]at a
 |succ fuel=>
  unfold DataW.trod at a;rw[h]at a;split at a<;>rename_i c<;>try (cases c;done)
  . cases c;split at a
    . rename_i b;obtain⟨rfl,b⟩:=b;exact⟨_,⟨_,rfl,b⟩,Cells.one (.sc _ rfl)⟩
    . cases a
  . cases a
theorem SQ{a:Addr}(h:w.cells? 0 a k=some H):H.length=k/\∀(j:Nat) v,H[j]? =some v->w.cell? (a.add j)=some v:=by
 unfold World.cells? at h;rw[AAL (Nat.zero_le _)]at h;have b:=mapM_some_length h;rw[List.length_range]at b;refine⟨b,λj v e=> ?_⟩;have d:j<k:=by rw[<- b];exact(AAE.1 e).1
 have:=mapM_some_get h j j (by simp[d]);rw[this];exact e
theorem Yr{l:List (DataW a)}{d:DataW a}(hd:d∈l)(hn:k∈d.weights P t):k∈DataW.weightsAll P t l:=by
 induction l with
 |nil=>simp at hd
 |cons x l ih=>
  rw[DataW.weightsAll,AAW];rcases AAn.1 hd with rfl|hd
  . exact .inl hn
  . exact .inr (ih hd)
theorem rS{a:Addr}(h:w.cell? a=some v):a.spot=none/\a.block<w.heap.size:=by
 unfold World.cell? at h;split at h
 . rename_i c e f1 f2 b;refine⟨?_,(AAs.1 b).1⟩;cases hs:a.spot with
   |none=>rfl
   |some x=>simp[hs]at h
 . cases h
theorem kI(h:P.underlying t=some (.slice tb))(hk:P.cellsOf tb=k)(pH:0<k)(he:OL P tb X):
 OL P t (λz=>∃rows,z=[.sl false k rows]/\(∀row∈rows,X row/\row.length=k)/\rows.length*P.bytesOf tb<=reachBytes):=by
 intro H enc w fuel cs d ps l O;cases fuel with
 |zero=>simp[DataW.trod]at l
 |succ fuel=>
  unfold DataW.trod at l;rw[h]at l;split at l<;>rename_i R<;>try (cases R;done)
  . exact⟨_,⟨[],rfl,ak,ak⟩,Cells.one (.nil _ _ _ _ ak)⟩
  . rename_i U a len cap;obtain rfl:tb=U:=(by simpa using R);simp only[hk]at l;split at l
    . rename_i hc;cases hm:(List.range len).mapM (λi=>(w.cells? 0 (a.add (i*k)) k).bind (DataW.trod enc P w 0 (λ_=>true) true fuel tb))with
      |none=>simp[hm]at l
      |some elems=>
       rw[hm]at l;simp only[AAB,AAi,AAc,AAQ]at l;obtain⟨q,_,rfl,_⟩:=l;have G:elems.length=len:=by have:=mapM_some_length hm;simpa using this
       -- each element
       have s:∀i,i<len->∃m x z,w.cells? 0 (a.add (i*k)) k=some m/\elems[i]? =some x/\X z/\Cells w z m:=by
        intro i hi
        have:=mapM_some_get hm i i (by simp[hi]);cases T4:w.cells? 0 (a.add (i*k)) k with
        |none=>rw[T4]at this;have g:elems[i]? =some elems[i]:=AAJ ah;rw[g]at this;simp at this
        |some m=>rw[T4]at this;have g:elems[i]? =some elems[i]:=AAJ ah;rw[g,AAB]at this;obtain⟨z,hx,N⟩:=he H enc w fuel m elems[i].1 elems[i].2 this (λn hn=>O n (by rw[DataW.weights,h];simp only[AAn,AAW];exact .inr (.inl (Yr (ABH (AAS ah)) hn))));exact⟨m,_,z,rfl,g,hx,N⟩
       have hw:∃f:Nat->List AV×List Value,∀i,i<len->w.cells? 0 (a.add (i*k)) k=some (f i).2/\X (f i).1/\Cells w (f i).1 (f i).2:=by
        refine⟨λi=>if hi:i<len then((s i hi).choose_spec.choose_spec.choose,(s i hi).choose)else([],[]),λi hi=> ?_⟩
        have:=(s i hi).choose_spec.choose_spec.choose_spec;simp only[hi,dif_pos];exact⟨this.1,this.2.2⟩
       obtain⟨f,D⟩:=hw
       let rows:=(List.range len).map λi=>(f i).1
       have F:rows.length=len:=(by simp[rows]);have J:∀i row,rows[i]? =some row->i<len/\row=(f i).1:=(by intro i row u;have hi:i<len:=(by rw[<- F];exact(AAE.1 u).1);refine⟨hi,?_⟩;simp only[rows,AAN,List.getElem?_range hi,AAf,AAC]at u;exact u.symm);have y:∀i,i<len->(f i).1.length=k:=λi hi=>(by rw[(D i hi).2.2.1];exact(SQ (D i hi).1).1);refine⟨_,⟨rows,rfl,?_,?_⟩,Cells.one ?_⟩
       . intro row u;obtain⟨i,hi⟩:=List.mem_iff_getElem?.1 u;obtain⟨g,rfl⟩:=J i row hi;exact⟨(D i g).2.1,y i g⟩
       . have:=O ((elems.map (·.1)).length+(q.map (·.1)).length) |> λ_=>O (((elems.map (·.1)).length+(q.map (·.1)).length)*P.bytesOf tb) (by rw[DataW.weights,h];simp);rw[F];refine AA5 (AAw _ ?_) this;simp[G]
       . by_cases W:len=0
         . subst W;have o:rows=[]:=List.eq_nil_of_length_eq_zero F;rw[o];exact .nil _ _ _ _ ak
         . have K:∀i j row c,rows[i]? =some row->row[j]? =some c->∃v,(f i).2[j]? =some v/\w.cell? ((a.add (i*k)).add j)=some v/\Fz w (Old w) c v:=(by intro i j row c g B;obtain⟨r,rfl⟩:=J i row g;have hj:j<(f i).2.length:=(by rw[<- (D i r).2.2.1];exact(AAE.1 B).1);have C:(f i).2[j]? =some (f i).2[j]:=AAJ hj;exact⟨_,C,(SQ (D i r).1).2 j _ C,(D i r).2.2.2 j c _ B C⟩);obtain⟨E,o⟩:∃E,rows[0]? =some E:=⟨rows[0]' ah,AAJ _⟩;obtain⟨_,V⟩:=J 0 E o;obtain⟨L,M⟩:∃L,E[0]? =some L:=⟨E[0]'(by rw[V,y 0 (by omega)];exact pH),AAJ _⟩;obtain⟨v0,_,Q,_⟩:=K 0 0 E L o M;obtain⟨p,Sf⟩:=rS Q;obtain⟨b,off,T⟩:=a;obtain rfl:T=none:=by
            unfold Addr.add at p;simp only[AAi]at p;split at p
            . exact p
            . cases T<;>simp_all
           rw[Addr.add_lit,Addr.add_lit]at Sf;have I:=Fz.sl (w:=w) (S:=Old w) false k rows b off cap (λi j=>((f i).2[j]?).getD undef) ak (by rw[F];exact hc.2.1) Sf (by
            intro row u;obtain⟨i,hi⟩:=List.mem_iff_getElem?.1 u;obtain⟨g,rfl⟩:=J i row hi;exact y i g) (by
            intro i j row c g B;obtain⟨v,r,C,_⟩:=K i j row c g B;rw[r];rw[Addr.add_lit,Addr.add_lit]at C;rw[show off+(i*k+j)=off+i*k+j from by omega];exact C) (by
            intro i j row c g B;obtain⟨v,r,_,Z⟩:=K i j row c g B;rw[r];exact Z)
           rw[F]at I;exact I
    . cases l
  . cases l
end
section
open Go.ChangeShapes Go.WideShapes Go.ChangeAt Go.RowKit
def CatX:List (List AV->Prop)->List AV->Prop
 |[],HS=>HS=[]
 |X::Xs,HS=>∃a r,HS=a++r/\X a/\CatX Xs r
def mU(P:Program):List Field->Nat->List (List AV->Prop)->Prop
 |[],_,[]=>True
 |f::fs,off,X::Xs=>f.offset=off/\OL P f.type X/\mU P fs (off+P.cellsOf f.type) Xs
 |_,_,_=>False
def NF(P:Program):List Field->Nat->Nat
 |[],off=>off
 |f::fs,off=>NF P fs (off+P.cellsOf f.type)
theorem dX{enc:TypeId×Value->a}(b:List Field):∀(off:Nat)(Xs:gp)(fuel:List (DataW a×List MemPlace)),mU P b off Xs->NF P b off<=H.length->
 b.mapM (λf=>DataW.trod enc P w 0 (λ_=>true) true k f.type ((H.drop f.offset).take (P.cellsOf f.type)))=some fuel->(∀n∈DataW.weightsEach P (b.map (·.type)) (fuel.map (·.1)),n<=reachBytes)->
 ∃p,CatX Xs p/\Cells w p ((H.drop off).take (NF P b off-off)):=by
 induction b with
 |nil=>
  intro off Xs fuel d i h j;cases Xs with
  |nil=>exact⟨[],rfl,by simp[NF,Cells.nil]⟩
  |cons=>exact d.elim
 |cons f b ih=>
  intro off Xs fuel d i h j;cases Xs with
  |nil=>exact d.elim
  |cons X Xs=>
   obtain⟨u,s,d⟩:=d;rw[List.mapM_cons]at h;cases h1:DataW.trod enc P w 0 (λ_=>true) true k f.type ((H.drop f.offset).take (P.cellsOf f.type))with
   |none=>simp[h1]at h
   |some x=>
    cases h2:b.mapM (λf=>DataW.trod enc P w 0 (λ_=>true) true k f.type ((H.drop f.offset).take (P.cellsOf f.type)))with
    |none=>simp[h1,h2]at h
    |some ys=>
     simp only[h1,h2,Option.pure_def,Option.bind_eq_bind,AAB,AAC]at h;subst h;simp only[AAU,DataW.weightsEach,AAW]at j;obtain⟨c,t,q⟩:=s a enc w k _ x.1 x.2 h1 (λn hn=>j n (.inl hn));obtain⟨r,v,m⟩:=ih (off+P.cellsOf f.type) Xs ys d (by simpa[NF]using i) h2 (λn hn=>j n (.inr hn));refine⟨c++r,⟨c,r,rfl,t,v⟩,?_⟩;have y:∀(l:List Field)(o:Nat),o<=NF P l o:=by
      intro l;induction l with
      |nil=>intro o;exact AAe _
      |cons g l ih=>intro o;have:=ih (o+P.cellsOf g.type);simp only[NF];omega
     have z:=y b (off+P.cellsOf f.type);have e:(H.drop off).take (NF P (f::b) off-off)=(H.drop f.offset).take (P.cellsOf f.type)++(H.drop (off+P.cellsOf f.type)).take (NF P b (off+P.cellsOf f.type)-(off+P.cellsOf f.type)):=(by rw[u,<- List.drop_drop];simp only[NF];rw[show NF P b (off+P.cellsOf f.type)-off=P.cellsOf f.type+(NF P b (off+P.cellsOf f.type)-(off+P.cellsOf f.type))from by omega,List.take_add]);rw[e];exact q.append m
theorem dY{b:Array Field}{Xs:gp}(h:P.underlying t=some (.struct b))(k:mU P b.toList 0 Xs)(g:NF P b.toList 0=P.cellsOf t):OL P t (CatX Xs):=by
 intro H enc w fuel j d o a m;cases fuel with
 |zero=>simp[DataW.trod]at a
 |succ fuel=>
  simp only[DataW.trod,h]at a
  . split at a
    . rename_i e;cases hm:b.toList.mapM (λf=>DataW.trod enc P w 0 (λ_=>true) true fuel f.type ((j.drop f.offset).take (P.cellsOf f.type)))with
      |none=>simp[hm]at a
      |some xs=>simp only[hm,AAf,AAC,AAQ]at a;obtain⟨rfl,rfl⟩:=a;obtain⟨i,l,c⟩:=dX b.toList 0 Xs xs k (by rw[g,e];exact AAe _) hm (λn hn=>m n (by rw[DataW.weights,h];exact hn));refine⟨i,l,?_⟩;rw[g,<- e]at c;simpa using c
    . cases a
def gN(P:Program)(t:TypeId)(HS:dm):AV:=if(match P.underlying t with|some (.struct _)=>true|some (.array _ _)=>true|_=>false)=true then .agg HS else HS.headD .dead
def ArgsX(P:Program):List TypeId->List (List AV->Prop)->List AV->Prop
 |[],[],as'=>as'=[]
 |t::ts,X::Xs,as'=>∃HS r,as'=gN P t HS::r/\X HS/\ArgsX P ts Xs r
 |_,_,_=>False
def mT(P:Program):List TypeId->List (List AV->Prop)->Prop
 |[],[]=>True
 |t::ts,X::Xs=>OL P t X/\mT P ts Xs
 |_,_=>False
theorem uP{enc:TypeId×Value->a}(k:List TypeId):∀(Xs:gp)(vs:List Value)(ds:List (DataW a)) (J:List MemPlace),mT P k Xs->DataW.TrodAll enc P w 0 (λ_=>true) true k vs ds J->
 (∀(j:Nat) t v,k[j]? =some t->vs[j]? =some v->Value.okWide P w .any base t v)->(∀n∈DataW.weightsEach P k ds,n<=reachBytes)->
 ∃f:List AV,ArgsX P k Xs f/\f.length=vs.length/\∀(i:Nat) H v,f[i]? =some H->vs[i]? =some v->Fz w (Old w) H v:=by
 induction k with
 |nil=>
  intro Xs vs ds J l D s B;obtain⟨rfl,rfl,rfl⟩:=trodAll_nil D;cases Xs with
  |nil=>exact⟨[],rfl,rfl,λi H v h=>by simp at h⟩
  |cons=>exact l.elim
 |cons t k ih=>
  intro Xs vs ds J l D s B;cases Xs with
  |nil=>exact l.elim
  |cons X Xs=>
   obtain⟨U,l⟩:=l;obtain⟨v,K,d,C,p,q,rfl,rfl,rfl,⟨fuel,O⟩,Q⟩:=trodAll_cons D;simp only[DataW.weightsEach,AAW]at B;obtain⟨x,V,o⟩:=U a enc w fuel _ d p O (λn hn=>B n (.inl hn));obtain⟨r,E,F,G⟩:=ih Xs K C q l Q (λj W Z M I=>s (j+1) W Z (by simpa using M) (by simpa using I)) (λn hn=>B n (.inr hn));have c:=s 0 t v rfl rfl;refine⟨gN P t x::r,⟨x,r,rfl,V,E⟩,by simp[F],?_⟩;intro i H u m z;cases i with
   |succ i=>simp at m z;exact G i H u m z
   |zero=>
    simp only[AAt,AAC]at m z;subst m;subst z;unfold gN;by_cases b:(match P.underlying t with|some (.struct _)=>true|some (.array _ _)=>true|_=>false)=true
    . rw[AAL b];obtain⟨y,rfl⟩:∃y,v= .agg y:=by
       unfold Value.okWide at c;split at c
       . exact⟨_,c.choose_spec.1⟩
       . exact⟨_,c.choose_spec.1⟩
       . rename_i R T;exfalso;split at b
         . rename_i N g;exact R N g
         . rename_i n e g;exact T n e g
         . cases b
      have:=Fz.agg (w:=w) (S:=Old w) x y.toList (by rw[o.1];rfl) (λi H v m s=>o.2 i H v m s);simpa using this
    . rw[AAK b];have L:v.cells.toList=[v]:=by
       unfold Value.okWide at c;split at c
       . rename_i g;simp[g]at b
       . rename_i g;simp[g]at b
       . cases v with
         |agg y=>
          exfalso;unfold Cell.okWide at c;split at c<;>rename_i I<;>try (cases I;done)
          . simp[Cell.ok]at c
         |_=>rfl
      rw[L]at o;obtain⟨H,rfl⟩:∃H,x=[H]:=List.length_eq_one_iff.1 o.1;exact o.2 0 H v rfl rfl
end
variable{S:de}{L:ChangeSpec}{W:World}{O:Array Value}{o pa pv:List MemPlace}
section
open Go.ChangeShapes Go.WideShapes Go.ChangeAt Go.RowKit
theorem XH(c:dm):∀(vs:List Value),vs.length=c.length->(∀(i:Nat) a v,c[i]? =some a->vs[i]? =some v->∃D:DV,D.er=a/\D.A0=v/\Ok w S D (λ_=>False))->
 ∃b:List DV,b.map DV.er=c/\b.map DV.A0=vs/\∀D∈b,Ok w S D (λ_=>False):=by
 induction c with
 |nil=>intro vs h _;cases vs with|nil=>exact⟨[],rfl,rfl,ak⟩|cons=>simp at h
 |cons a c ih=>
  intro vs h e;cases vs with
  |nil=>simp at h
  |cons v vs=>
   obtain⟨b,d1,f,g⟩:=ih vs (by simpa using h) (λi a v m n=>e (i+1) a v (by simpa using m) (by simpa using n));obtain⟨D,j,k,l⟩:=e 0 a v rfl rfl;refine⟨D::b,by simp[d1,j],by simp[f,k],?_⟩;intro X d;rcases AAn.1 d with rfl|d
   . exact l
   . exact g X d
theorem fz_tree(h:Fz w S x v):∃D:DV,D.er=x/\D.A0=v/\Ok w S D (λ_=>False):=by
 induction h with
 |sc v hp=>exact⟨.lf (.sc v) v,ak,ak,.lf _ _ _ ⟨rfl,hp⟩ (λ_ h=>h)⟩
 |dead v=>exact⟨.lf .dead v,ak,ak,.lf _ _ _ trivial (λ_ h=>h)⟩
 |nil a k x c hx=>exact⟨.lf (.sl a k []) (.slice x 0 c),ak,ak,.lf _ _ _ (Fz.nil a k x c hx) (λ_ h=>h)⟩
 |sl a k rows b off c vs hx QW hS hk hc hr ih=>exact⟨.lf (.sl a k rows) (.slice (some ⟨b,off,none⟩) rows.length c),ak,ak,.lf _ _ _ (Fz.sl a k rows b off c vs hx QW hS hk hc hr) (λ_ h=>h)⟩
 |agg cs vs hs h ih=>obtain⟨d,d1,e,f⟩:=XH cs vs hs ih;exact⟨.agg d,by simp[d1],by simp[e],B4.2 (CN f)⟩
 |BQ cs vs hs h ih=>obtain⟨d,d1,e,f⟩:=XH cs vs hs ih;exact⟨.BQ d,by simp[d1],by simp[e],A8.2 (CN f)⟩
section
variable{H:Type}{enc:TypeId×Value->H}{P:Program}
theorem ZR{f:Func}{fresh:Bool}{ds d:List (DataW H)}(n:DataW.Whole enc P f.params.toList L.vars c W O.toList ds d o)(i:∀(b:Nat)(k:e8)(hd:Bool),DataW.TrodAll enc P w b k hd f.resultTypes.toList (v.resultList f.resultTypes.size) (L.fn H (ds++d)).results [])(u:∀k:Nat->Bool,(∀p∈o,k p.block=true)->DataW.TrodAll enc P w 0 k true f.params.toList O.toList (L.fn H (ds++d)).args pa)(g:∀k:Nat->Bool,(∀p∈o,k p.block=true)->DataW.TrodVars enc P w k L.vars (L.fn H (ds++d)).vars pv)(h:o=pa++pv)(x:Below W.heap.size W w)(y:∀(j:Nat)(t:TypeId)(r:Value),f.resultTypes[j]? =some t->(v.resultList f.resultTypes.size)[j]? =some r->Value.okWide P w .any 0 t r):
 L.post enc P f c fresh m q W O v w:=by
 have a:∀p∈o,p.block<W.heap.size:=λp e=>n.lt p e;have hold:∀p∈o,(λb=>decide (b<W.heap.size)) p.block=true:=λp e=>by simpa using a p e
 refine⟨ds,d,o,[],pa,pv,n,i _ _ _,u _ hold,g _ hold,World.keptBut_mono (λp e=>⟨e,?_⟩) (x.frame (· ∈o)),λ_=> ?_⟩
 . rw[h,AAW]at e;exact Or.inr e
 . obtain⟨_,_,_,_,_,B,hn⟩:=n;refine⟨y,_,_,([]++pa)++pv,⟨[]++pa,pv,trodAll_append (u _ (λ_ _=>rfl)) (i _ _ _),g _ (λ_ _=>rfl),rfl,?_,?_⟩,?_⟩
   . intro b off e;have l:MemPlace.cell b off∈o:=(by rw[h];simpa using e);rw[x.frozen (a _ l)];exact B b off l
   . intro z
     have:=hn z;rw[h]at this;simpa using this
   . intro p e _;rw[h];simpa using e
theorem Zi(n:laidOutB P=true){k:e8}(c:List TypeId):∀{vs:List Value}{ds:List (DataW H)} {b:List MemPlace},(∀t∈c,P.readableRec t=true/\t<P.types.size)->
 DataW.TrodAll enc P W 0 (λ_=>true) true c vs ds b->(∀p∈b,W.sameAt w p)->(∀p∈b,k p.block=true)->DataW.TrodAll enc P w 0 k true c vs ds b:=by
 induction c with
 |nil=>intro vs ds b _ f _ _;obtain⟨rfl,rfl,rfl⟩:=trodAll_nil f;exact rfl
 |cons t c ih=>intro vs ds b j f h i;obtain⟨v,o,d,l,p,q,rfl,rfl,rfl,m,g2⟩:=trodAll_cons f;have e:=j t ak;exact⟨p,q,WideElems.Trod_stays n e.1 e.2 m (λx a=>h x (by simp[a])) (λx a=>i x (by simp[a])),ih (λt e=>j t (by simp[e])) g2 (λx a=>h x (by simp[a])) (λx a=>i x (by simp[a])),rfl⟩
theorem dP{g:Func}{Xs:gp}{fresh:Bool}(hv:L.vars=[])(ZI:g.resultTypes= #[tb])(J:P.underlying tb=some .bool)(hl:laidOutB P=true)(SF:∀t∈g.params.toList,P.readableRec t=true/\t<P.types.size)(hO:mT P g.params.toList Xs)(hS:∀C,ArgsX P g.params.toList Xs C->Says P k C (sb true))(O:∀ds:List (DataW H),ds.length=g.params.toList.length->L.fn H ds={results:=[.lit (.bool true)],args:=ds}){args:Array Value}{ds gs:List (DataW H)}(Bg:∀(j:Nat) t v,g.params[j]? =some t->args[j]? =some v->Value.okWide P W .any base t v)(hW:DataW.Whole enc P g.params.toList L.vars false W args.toList ds gs o)(B:(DataW.weightsEach P (g.params.toList++L.plain.varTypes P) (ds++gs)).all (· <=reachBytes)=true)(NJ:GI W (Old W)):Calls P k args W λe Q=>∃v,e= .returned v/\L.post enc P g false fresh m c W args v Q:=by
 have z:=hW;obtain⟨p,q,X,hV,rfl,Nc,hnd⟩:=hW;rw[hv]at hV;obtain⟨rfl,rfl⟩:=trodVars_none hV;simp only[ABc]at z B;have y:ds.length=g.params.toList.length:=by
  have:∀(l:List TypeId){vs:List Value}{ds:List (DataW H)} {ps:List MemPlace},DataW.TrodAll enc P W 0 (λ_=>true) true l vs ds ps->ds.length=l.length:=by
   intro l;induction l with
   |nil=>intro vs ds ps h;obtain⟨rfl,rfl,rfl⟩:=trodAll_nil h;rfl
   |cons t l ih=>intro vs ds ps h;obtain⟨v,vs1,d,ds1,p,q,rfl,rfl,rfl,g1,g2⟩:=trodAll_cons h;simp[ih g2]
  exact this _ X
 have K:∀n∈DataW.weightsEach P g.params.toList ds,n<=reachBytes:=by
  have key:∀(l s:List TypeId)(ds:List (DataW H)),ds.length=l.length->DataW.weightsEach P (l++s) ds=DataW.weightsEach P l ds:=by
   intro l;induction l with
   |nil=>intro s ds h;obtain rfl:ds=[]:=List.eq_nil_of_length_eq_zero h;cases s<;>rfl
   |cons t l ih=>
    intro s ds h;cases ds with
    |nil=>simp at h
    |cons d ds=>simp only[AAx,DataW.weightsEach];rw[ih s ds (by simpa using h)]
  rw[key _ _ _ y]at B;simpa using B
 obtain⟨C,hX,G,F⟩:=uP (base:=base) g.params.toList Xs args.toList ds p hO X (λj t v U V=>Bg j t v (by simpa using U) (by simpa using V)) K
 -- the call
 have JJ:∃u:List DV,u.map DV.er=C/\u.map DV.A0=args.toList/\JQ W (Old W) u (λ_=>False):=by obtain⟨u,d1,R,T⟩:=XH (w:=W) (S:=Old W) C args.toList G.symm (λi a v U V=>fz_tree (F i a v U V));exact⟨u,d1,R,CN T⟩
 obtain⟨u,d1,R,T⟩:=JJ;have N:=hS C hX W (Old W) u (λ_=>False) NJ d1 (A8.2 T) (λb M=>M);rw[R]at N;have QV:args.toList.toArray=args:=ak
 rw[QV]at N;refine N.mono ?_;rintro e Q ⟨r,os,S',F',rfl,D,_,_,Cm,E,_⟩;obtain⟨Fa,Fb,dJ,_⟩:=A8.1 Cm;have Z:r.A0= .bool true:=by
  cases dJ with
  |lf a v _ ha hF=>rw[EY]at D;subst D;simpa using ha.1
  |nil=>simp at D
  |own=>simp at D
  |agg=>simp at D
  |BQ=>simp at D
 have M:Below W.heap.size W Q:=⟨E.os,E.tape,E.output,E.size,λf hk=>E.block f hk id⟩;rw[Z];refine⟨_,rfl,ZR (pa:=p) (pv:=[]) z ?_ ?_ ?_ ak M ?_⟩
 . intro b sp hd;rw[ABc,O ds y,ZI];exact trodAll_cons_mk (shut_bool J _) trodAll_mk0
 . intro sp I;rw[ABc,O ds y];exact Zi hl _ SF X (λx hx=>M.same (z.lt x hx)) (λx hx=>I x hx)
 . intro sp I;rw[ABc,O ds y,hv];exact rfl
 . exact ok_one ZI rfl (okWide_bool_mk J _)
end
end
end Go.Abs
