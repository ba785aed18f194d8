/- What the typed programs give, in plain Lean. -/
import Derived.Test.YtkpdblcoclbgbaaGreatDoorPlainA
import Derived.Test.YtkpdblcoclbgbaaGreatDoorWalkA
import Derived.Lib.SlicesCompact
import Derived.Test.YtkpdblcoclbgbaaGreatDoorWalkF
import Derived.Test.YtkpdblcoclbgbaaGreatDoorWalkG
import Derived.Test.YtkpdblcoclbgbaaGreatDoorWalkH
import Derived.Test.YtkpdblcoclbgbaaGreatDoorWalkI
import Derived.Test.YtkpdblcoclbgbaaGreatDoorWalkB
import Derived.Test.YtkpdblcoclbgbaaGreatDoorWalkJ
import Derived.Test.YtkpdblcoclbgbaaGreatDoorWalkE
import Derived.Shelf.Slices.SearchI
set_option linter.unusedSimpArgs false
set_option linter.unusedVariables false
namespace Go.Abs
set_option maxHeartbeats 4000000
def fE {α:Type} (o:Option α) (Q:α->Prop):Prop:=∀r,o=some r->Q r
theorem pR {α:Type} {r:α} {Q:α->Prop} (h:Q r):fE (some r) Q:=λ_ e=>by cases e;exact h
theorem pN {α:Type} {Q:α->Prop}:fE (none:Option α) Q:=λ_ e=>by cases e
theorem pB {α β:Type} {o:Option α} {Q:α->Prop} {f:α->Option β} {R:β->Prop} (h:fE o Q) (k:∀x,Q x->fE (f x) R):fE (o.bind f) R:=by
 intro r e
 cases o with
 |none=>cases e
 |some x=>exact k x (h x rfl) r e
theorem pB' {α β:Type} {o:Option α} {f:α->Option β} {R:β->Prop} (k:∀x,fE (f x) R):fE (o.bind f) R:=pB (Q:=λ_=>True) (λ_ _=>trivial) λx _=>k x
theorem pE {α β:Type} {o:Option α} {y:α} {f:α->Option β} {R:β->Prop} (h:o=some y) (k:fE (f y) R):fE (o.bind f) R:=by rw[h];exact k
theorem pC {α:Type} {p:Prop} [Decidable p] {a:Option α} {R:α->Prop} (k:p->fE a R):fE (if p then a else none) R:=by
 by_cases h:p
 . rw[if_pos h];exact k h
 . rw[if_neg h];exact pN
theorem pI {α:Type} {c:Bool} {a b:Option α} {R:α->Prop} (h1:c=true->fE a R) (h2:c=false->fE b R):fE (if c=true then a else b) R:=by
 cases c with
 |true=>exact h1 rfl
 |false=>exact h2 rfl
theorem pD {α:Type} {p:Prop} [Decidable p] {a b:Option α} {R:α->Prop} (h1:p->fE a R) (h2:¬p->fE b R):fE (if decide p=true then a else b) R:=by
 by_cases h:p
 . simpa[h]using h1 h
 . simpa[h]using h2 h
theorem pM {α:Type} {o:Option α} {Q R:α->Prop} (h:fE o Q) (k:∀x,Q x->R x):fE o R:=λr e=>k r (h r e)
theorem pT {α:Type} {o:Option α} {Q:α->Prop} (h:B2 o Q):fE o Q:=by
 obtain⟨x,rfl,hx⟩:=h;exact pR hx
theorem pA {α:Type} {o:Option α} {P Q:α->Prop} (h:fE o P) (k:fE o Q):fE o λr=>P r/\Q r:=λr e=>⟨h r e,k r e⟩
theorem tP {α:Type} {o:Option α} {P Q:α->Prop} (h:B2 o P) (k:fE o Q):B2 o λr=>P r/\Q r:=by
 obtain⟨x,e,hx⟩:=h;exact⟨x,e,hx,k x e⟩
theorem pLs {σ α:Type} {Q:α->Prop} (N:Nat) (I:Nat->σ->Prop) {F:Nat->σ->Int->Option α} (hF:∀s i,F 0 s i=none) (hN:N<1000000000000) {s0:σ} (h0:I 0 s0)
 (h:∀n (i:Nat) s,i≤N->I i s->(∀s',i<N->I (i+1) s'->fE (F n s' (BE (i+1))) Q)->fE (F (n+1) s i) Q):fE (F Bo s0 0) Q:=by
 have key:∀n (i:Nat) s,i≤N->I i s->fE (F n s i) Q:=by
  intro n
  induction n with
  |zero=>intro i s _ _;rw[hF];exact pN
  |succ n ih=>
   intro i s h2 h3
   refine h n i s h2 h3 λs' h4 h5=> ?_
   rw[A0 (by omega)]
   exact ih (i+1) s' (by omega) h5
 exact key Bo 0 s0 (by omega) h0
def StI (l:List AW) (k m:Nat):Prop:=∃x,l[k]? =some x/\Vw x.Op=true/\(x.Op=5/\x.A=(m:Int)∨x.Op≠5/\m=k+1)
def Rr (l:List AW) (a b:Nat):Nat->Nat->Nat->Prop
 |0,k,m=>k=m
 |n+1,k,m=>(a≤k/\k<b)/\∃j,StI l k j/\Rr l a b n j m
def Ev (l:List AW) (m:Nat):Prop:=∃x,l[m]? =some x/\Vw x.Op=false
theorem Rr.frame {l l':List AW} {a b a' b':Nat} (h:∀i,a≤i->i<b->l[i]? =l'[i]?) (ha:a'≤a) (hb:b≤b'):∀{n k m},Rr l a b n k m->Rr l' a' b' n k m
 |0,_,_,e=>e
 |n+1,k,m,⟨⟨h1,h2⟩,j,⟨x,x1,x2⟩,h4⟩=>⟨⟨by omega,by omega⟩,j,⟨x,by rw[← h k h1 h2];exact x1,x2⟩,h4.frame h ha hb⟩
theorem Rr.trans {l:List AW} {a b:Nat}:∀{n k m p q},Rr l a b n k m->Rr l a b p m q->Rr l a b (n+p) k q
 |0,_,_,p,_,e,h=>by cases e;rw[Nat.zero_add];exact h
 |n+1,_,_,p,_,⟨h1,j,h2,h3⟩,h=>by rw[Nat.succ_add];exact⟨h1,j,h2,h3.trans h⟩
theorem Rr.one {l:List AW} {a b k m:Nat} (h:a≤k/\k<b) (s:StI l k m):Rr l a b 1 k m:=⟨h,m,s,rfl⟩
structure LV (w:AB) (lo hi:Int) (c:Nat) (x:AW):Prop where
 o:1≤x.Op/\x.Op≤27
 ob:Ad w x=some true
 g:∀y∈rg x,0≤y/\y<32
 s:lo≤x.Site/\x.Site<hi
 j:x.Op=5->0≤x.A/\x.A≤c
 b:x.Op=10->0≤x.B/\x.B≤c
structure SG (w:AB) (lo hi:Int) (l:List AW) (a b c:Nat):Prop where
 h:a≤b/\b≤l.length
 i:∀k x,a≤k->k<b->l[k]? =some x->LV w lo hi c x
 f:∀k,a≤k->k<b->(∃n m,Rr l a b n k m/\(a≤m/\m<b)/\Ev l m/\n+a+1≤b)∨∃n,Rr l a b n k b/\n+k≤b
section
variable {w:AB} {lo hi lo' hi':Int} {l l':List AW} {a b c d:Nat}
theorem LV.mono {x:AW} (h:LV w lo hi c x) (h1:lo'≤lo) (h2:hi≤hi') (h3:c≤d):LV w lo' hi' d x:=
 ⟨h.o,h.ob,h.g,⟨by have:=h.s;omega,by have:=h.s;omega⟩,λe=>by have:=h.j e;omega,λe=>by have:=h.b e;omega⟩
theorem SG.frame (h:SG w lo hi l a b c) (hl:∀i,a≤i->i<b->l[i]? =l'[i]?) (hb:b≤l'.length) (h1:lo'≤lo) (h2:hi≤hi') (h3:c≤d):SG w lo' hi' l' a b d:=by
 refine⟨⟨h.h.1,hb⟩,λk x k1 k2 hx=>(h.i k x k1 k2 (by rw[hl k k1 k2];exact hx)).mono h1 h2 h3,λk k1 k2=> ?_⟩
 rcases h.f k k1 k2 with⟨n,m,r,m1,⟨x,x1,x2⟩,hn⟩|⟨n,r,hn⟩
 . exact .inl ⟨n,m,r.frame hl (by omega) (by omega),m1,⟨x,by rw[← hl m m1.1 m1.2];exact x1,x2⟩,hn⟩
 . exact .inr ⟨n,r.frame hl (by omega) (by omega),hn⟩
theorem SG.mono (h:SG w lo hi l a b c) (h1:lo'≤lo) (h2:hi≤hi') (h3:c≤d):SG w lo' hi' l a b d:=h.frame (λ_ _ _=>rfl) h.h.2 h1 h2 h3
theorem SG.nil (h:a≤l.length):SG w lo hi l a a c:=⟨⟨by omega,h⟩,λk x _ _=>by omega,λk _ _=>by omega⟩
theorem SG.app {e:Nat} (h:SG w lo hi l a b c) (g:SG w lo hi l b e c):SG w lo hi l a e c:=by
 have hh:=h.h;have gh:=g.h
 refine⟨⟨by omega,gh.2⟩,λk x k1 k2 hx=> ?_,λk k1 k2=> ?_⟩
 . by_cases hk:k<b
   . exact h.i k x k1 hk hx
   . exact g.i k x (by omega) k2 hx
 . have up:∀{n k m},Rr l b e n k m->Rr l a e n k m:=λr=>r.frame (λ_ _ _=>rfl) (by omega) (by omega)
   have up':∀{n k m},Rr l a b n k m->Rr l a e n k m:=λr=>r.frame (λ_ _ _=>rfl) (by omega) (by omega)
   by_cases hk:k<b
   . rcases h.f k k1 hk with⟨n,m,r,m1,ev,hn⟩|⟨n,r,hn⟩
     . exact .inl ⟨n,m,up' r,by omega,ev,by omega⟩
     . by_cases hbe:b<e
       . rcases g.f b (by omega) hbe with⟨n',m,r',m1,ev,hn'⟩|⟨n',r',hn'⟩
         . exact .inl ⟨n+n',m,(up' r).trans (up r'),by omega,ev,by omega⟩
         . exact .inr ⟨n+n',(up' r).trans (up r'),by omega⟩
       . have:b=e:=by omega
         subst this
         exact .inr ⟨n,up' r,by omega⟩
   . rcases g.f k (by omega) k2 with⟨n,m,r,m1,ev,hn⟩|⟨n,r,hn⟩
     . exact .inl ⟨n,m,up r,by omega,ev,by omega⟩
     . exact .inr ⟨n,up r,hn⟩
theorem SG.one {x:AW} (hx:l[a]? =some x) (hv:LV w lo hi c x) (h5:x.Op≠5):SG w lo hi l a (a+1) c:=by
 have hl:=(List.getElem?_eq_some_iff.1 hx).1
 refine⟨⟨by omega,by omega⟩,λk y k1 k2 hy=> ?_,λk k1 k2=> ?_⟩
 . obtain rfl:k=a:=by omega
   rw[hx]at hy;cases hy;exact hv
 . obtain rfl:k=a:=by omega
   cases hs:Vw x.Op with
   |false=>exact .inl ⟨0,k,rfl,by omega,⟨x,hx,hs⟩,by omega⟩
   |true=>exact .inr ⟨1,Rr.one (by omega) ⟨x,hx,hs,.inr ⟨h5,rfl⟩⟩,by omega⟩
theorem SG.jump {j e:Nat} {x:AW} (h:SG w lo hi l a j c) (hx:l[j]? =some x) (hv:LV w lo hi c x) (h5:x.Op=5) (hA:x.A=(e:Int)) (g:SG w lo hi l (j+1) e c):SG w lo hi l a e c:=by
 have hh:=h.h;have gh:=g.h
 have s:StI l j e:=⟨x,hx,by rw[h5];rfl,.inl ⟨h5,hA⟩⟩
 have up:∀{n k m},Rr l (j+1) e n k m->Rr l a e n k m:=λr=>r.frame (λ_ _ _=>rfl) (by omega) (by omega)
 have up':∀{n k m},Rr l a j n k m->Rr l a e n k m:=λr=>r.frame (λ_ _ _=>rfl) (by omega) (by omega)
 refine⟨⟨by omega,gh.2⟩,λk y k1 k2 hy=> ?_,λk k1 k2=> ?_⟩
 . by_cases hk:k<j
   . exact h.i k y k1 hk hy
   . by_cases hk2:k=j
     . subst hk2;rw[hx]at hy;cases hy;exact hv
     . exact g.i k y (by omega) k2 hy
 . by_cases hk:k<j
   . rcases h.f k k1 hk with⟨n,m,r,m1,ev,hn⟩|⟨n,r,hn⟩
     . exact .inl ⟨n,m,up' r,by omega,ev,by omega⟩
     . exact .inr ⟨n+1,(up' r).trans (Rr.one (by omega) s),by omega⟩
   . by_cases hk2:k=j
     . subst hk2;exact .inr ⟨1,Rr.one (by omega) s,by omega⟩
     . rcases g.f k (by omega) k2 with⟨n,m,r,m1,ev,hn⟩|⟨n,r,hn⟩
       . exact .inl ⟨n,m,up r,by omega,ev,by omega⟩
       . exact .inr ⟨n,up r,hn⟩
theorem SG.back {p j:Nat} {x y:AW} (h:SG w lo hi l a p c) (hy:l[p]? =some y) (hy1:LV w lo hi c y) (hy2:Vw y.Op=false) (g:SG w lo hi l (p+1) j c) (hx:l[j]? =some x) (hv:LV w lo hi c x) (h5:x.Op=5) (hA:x.A=(a:Int)):SG w lo hi l a (j+1) c:=by
 have hh:=h.h;have gh:=g.h
 have hl:=(List.getElem?_eq_some_iff.1 hx).1
 have s:StI l j a:=⟨x,hx,by rw[h5];rfl,.inl ⟨h5,hA⟩⟩
 have up:∀{n k m},Rr l (p+1) j n k m->Rr l a (j+1) n k m:=λr=>r.frame (λ_ _ _=>rfl) (by omega) (by omega)
 have up':∀{n k m},Rr l a p n k m->Rr l a (j+1) n k m:=λr=>r.frame (λ_ _ _=>rfl) (by omega) (by omega)
 have ey:Ev l p:=⟨y,hy,hy2⟩
 -- from the beginning on
 have beg:∃n m,Rr l a (j+1) n a m/\(a≤m/\m<j+1)/\Ev l m/\n+a≤p:=by
  by_cases ha:a<p
  . rcases h.f a (by omega) ha with⟨n,m,r,m1,ev,hn⟩|⟨n,r,hn⟩
    . exact⟨n,m,up' r,by omega,ev,by omega⟩
    . exact⟨n,p,up' r,by omega,ey,by omega⟩
  . have:a=p:=by omega
    exact⟨0,p,this,by omega,ey,by omega⟩
 obtain⟨n0,m0,r0,b0,e0,l0⟩:=beg
 refine⟨⟨by omega,by omega⟩,λk z k1 k2 hz=> ?_,λk k1 k2=>.inl ?_⟩
 . by_cases hk:k<p
   . exact h.i k z k1 hk hz
   . by_cases hk2:k=p
     . subst hk2;rw[hy]at hz;cases hz;exact hy1
     . by_cases hk3:k<j
       . exact g.i k z (by omega) hk3 hz
       . obtain rfl:k=j:=by omega
         rw[hx]at hz;cases hz;exact hv
 . by_cases hk:k<p
   . rcases h.f k k1 hk with⟨n,m,r,m1,ev,hn⟩|⟨n,r,hn⟩
     . exact⟨n,m,up' r,by omega,ev,by omega⟩
     . exact⟨n,p,up' r,by omega,ey,by omega⟩
   . by_cases hk2:k=p
     . subst hk2;exact⟨0,k,rfl,by omega,ey,by omega⟩
     . by_cases hk3:k<j
       . rcases g.f k (by omega) hk3 with⟨n,m,r,m1,ev,hn⟩|⟨n,r,hn⟩
         . exact⟨n,m,up r,by omega,ev,by omega⟩
         . exact⟨n+(1+n0),m0,(up r).trans ((Rr.one (by omega) s).trans r0),b0,e0,by omega⟩
       . obtain rfl:k=j:=by omega
         exact⟨1+n0,m0,(Rr.one (by omega) s).trans r0,b0,e0,by omega⟩
end
end Go.Abs
namespace Go.Abs
theorem Tr {a b:List Int} (ha:a.Pairwise (· < ·)) (hb:b.Pairwise (· < ·)) (h:∀x,x∈a↔x∈b):a=b:=by
 induction a generalizing b with
 |nil=>
  cases b with
  |nil=>rfl
  |cons y b=>have:=(h y).2 (by simp);simp at this
 |cons x a ih=>
  cases b with
  |nil=>have:=(h x).1 (by simp);simp at this
  |cons y b=>
   rw[List.pairwise_cons]at ha hb
   have hxy:x=y:=by
    have h1:=(h x).1 (by simp)
    have h2:=(h y).2 (by simp)
    rcases List.mem_cons.1 h1 with e|h1
    . exact e
    . rcases List.mem_cons.1 h2 with e|h2
      . exact e.symm
      . have:=hb.1 x h1;have:=ha.1 y h2;omega
   subst hxy
   congr 1
   refine ih ha.2 hb.2 λz=> ?_
   have hz:=h z
   simp only[List.mem_cons]at hz
   constructor
   . intro hm
     have:=ha.1 z hm
     rcases hz.1 (.inr hm)with e|e
     . omega
     . exact e
   . intro hm
     have:=hb.1 z hm
     rcases hz.2 (.inr hm)with e|e
     . omega
     . exact e
theorem ML (d:Array Int) (hd:∀i j,i≤j->j<d.size->d[i]! ≤d[j]!):∀m,m≤d.size->(∀x,x∈Lib.compactUpTo d m↔∃i,i<m/\d[i]! =x)/\(Lib.compactUpTo d m).Pairwise (· < ·):=by
 intro m
 induction m with
 |zero=>intro _;exact⟨λx=>by simp[Lib.compactUpTo],by simp[Lib.compactUpTo]⟩
 |succ m ih=>
  intro hm
  obtain⟨h1,h2⟩:=ih (by omega)
  rw[Lib.compactUpTo_succ]
  by_cases hk:Lib.keeps d m=true
  . rw[if_pos hk]
    refine⟨λx=> ?_,?_⟩
    . rw[List.mem_append,h1 x,List.mem_singleton]
      constructor
      . rintro(⟨i,hi,e⟩|e)
        . exact⟨i,by omega,e⟩
        . exact⟨m,by omega,e.symm⟩
      . rintro⟨i,hi,e⟩
        by_cases him:i=m
        . exact .inr (by rw[← e,him])
        . exact .inl ⟨i,by omega,e⟩
    . rw[List.pairwise_append]
      refine⟨h2,by simp,λx hx y hy=> ?_⟩
      rw[List.mem_singleton]at hy
      subst hy
      obtain⟨i,hi,e⟩:=(h1 x).1 hx
      have hk':m=0∨d[m]! ≠d[m-1]! :=by simpa[Lib.keeps]using hk
      have h3:=hd i (m-1) (by omega) (by omega)
      have h4:=hd (m-1) m (by omega) (by omega)
      rcases hk' with h5|h5
      . omega
      . rw[← e];omega
  . rw[if_neg hk,List.append_nil]
    refine⟨λx=> ?_,h2⟩
    have hk':¬(m=0∨d[m]! ≠d[m-1]!):=by simpa[Lib.keeps]using hk
    rw[not_or]at hk'
    have he:d[m]! =d[m-1]! :=by have:=hk'.2;simpa using this
    rw[h1 x]
    constructor
    . rintro⟨i,hi,e⟩;exact⟨i,by omega,e⟩
    . rintro⟨i,hi,e⟩
      by_cases him:i=m
      . exact⟨m-1,by omega,by rw[← he,← him,e]⟩
      . exact⟨i,by omega,e⟩
def Lt (l:List Int):List Int:=l.mergeSort λx y=>decide (x≤y)
def RX (l:List Int):List Int:=Lib.compact (Lt l)
theorem NX (l:List Int):(Lt l).length=l.length:=by simp[Lt]
theorem ZJ (l:List Int) (x:Int):x∈Lt l↔x∈l:=by simp[Lt]
theorem NY (l:List Int):(Lt l).Pairwise (· ≤ ·):=by
 have:=List.pairwise_mergeSort (le:=λx y:Int=>decide (x≤y)) (by simp;omega) (by simp;omega) l
 simpa[Lt]using this
theorem Lq (l:List Int) (h:l.Pairwise (· ≤ ·)):(∀x,x∈Lib.compact l↔x∈l)/\(Lib.compact l).Pairwise (· < ·):=by
 have hd:∀i j,i≤j->j<l.toArray.size->l.toArray[i]! ≤l.toArray[j]! :=by
  intro i j hij hj
  have hj':j<l.length:=by simpa using hj
  rcases Nat.lt_or_eq_of_le hij with h1|rfl
  . have:=List.pairwise_iff_getElem.1 h i j (by omega) hj' h1
    rw[getElem!_pos l.toArray i (by simp;omega),getElem!_pos l.toArray j (by simpa using hj')]
    simpa using this
  . exact Int.le_refl _
 obtain⟨h1,h2⟩:=ML l.toArray hd l.length (by simp)
 refine⟨λx=> ?_,h2⟩
 show x∈Lib.compactUpTo l.toArray l.length↔_
 rw[h1 x,List.mem_iff_getElem]
 constructor
 . rintro⟨i,hi,e⟩
   rw[getElem!_pos l.toArray i (by simpa using hi)]at e
   exact⟨i,hi,by simpa using e⟩
 . rintro⟨i,hi,e⟩
   exact⟨i,hi,by rw[getElem!_pos l.toArray i (by simpa using hi)];simpa using e⟩
theorem Wg (l:List Int):(Lib.compact l).length≤l.length:=by
 unfold Lib.compact Lib.compactUpTo
 rw[List.length_map]
 exact Nat.le_trans (List.length_filter_le _ _) (by simp)
theorem OW (l:List Int) (x:Int):x∈RX l↔x∈l:=by
 unfold RX;rw[(Lq _ (NY l)).1,ZJ]
theorem OA (l:List Int):(RX l).Pairwise (· < ·):=(Lq _ (NY l)).2
theorem UD (l:List Int):(RX l).length≤l.length:=by
 have:=Wg (Lt l);rw[NX]at this;exact this
def Ek (out:List Int) (x:Int):Nat:=(out.takeWhile λy=>decide (y<x)).length
def ins (out:List Int) (x:Int):List Int:=if out[Ek out x]? =some x then out else out.take (Ek out x)++x::out.drop (Ek out x)
theorem Sy (out:List Int) (x:Int) (i:Nat) (hi:i≤out.length) (h1:∀(k:Nat) (hk:k<out.length),k<i->out[k]<x) (h2:∀(hl:i<out.length),¬out[i]<x):Ek out x=i:=by
 unfold Ek
 induction out generalizing i with
 |nil=>simp at hi;simp[hi]
 |cons y out ih=>
  by_cases hy:y<x
  . cases i with
    |zero=>exact absurd hy (h2 (by simp))
    |succ i=>
     rw[List.takeWhile_cons_of_pos (by simpa using hy),List.length_cons]
     rw[ih i (by simpa using hi) (λk hk hki=>by have:=h1 (k+1) (by simpa using hk) (by omega);simpa using this) (λhl=>by have:=h2 (by simpa using hl);simpa using this)]
  . cases i with
    |zero=>rw[List.takeWhile_cons_of_neg (by simpa using hy)];rfl
    |succ i=>have:=h1 0 (by simp) (by omega);simp at this;exact absurd this hy
theorem Qh (out:List Int) (x:Int):(ins out x).length≤out.length+1:=by
 unfold ins;split
 . omega
 . simp;omega
def cV (l:List Int):List Int:=l.foldl ins []
theorem Y5 (out:List Int) (x:Int) (h:out.Pairwise (· < ·)):(ins out x).Pairwise (· < ·)/\∀z,z∈ins out x↔z∈out∨z=x:=by
 have key:∀(out:List Int),out.Pairwise (· < ·)->(∀(k:Nat) (hk:k<out.length),k<Ek out x->out[k]<x)/\(∀(k:Nat) (hk:k<out.length),Ek out x≤k->x≤out[k])/\Ek out x≤out.length:=by
  intro out
  induction out with
  |nil=>intro _;simp[Ek]
  |cons y out ih=>
   intro hp
   rw[List.pairwise_cons]at hp
   obtain⟨g1,g2,g3⟩:=ih hp.2
   by_cases hy:y<x
   . have e:Ek (y::out) x=Ek out x+1:=by unfold Ek;rw[List.takeWhile_cons_of_pos (by simpa using hy)];rfl
     rw[e]
     refine⟨λk hk hki=> ?_,λk hk hki=> ?_,by simp;omega⟩
     . cases k with
       |zero=>simpa using hy
       |succ k=>have:=g1 k (by simpa using hk) (by omega);simpa using this
     . cases k with
       |zero=>omega
       |succ k=>have:=g2 k (by simpa using hk) (by omega);simpa using this
   . have e:Ek (y::out) x=0:=by unfold Ek;rw[List.takeWhile_cons_of_neg (by simpa using hy)];rfl
     rw[e]
     refine⟨λk hk hki=>by omega,λk hk _=> ?_,by simp⟩
     cases k with
     |zero=>simp;omega
     |succ k=>
      have hk':k<out.length:=by simpa using hk
      have:=hp.1 out[k] (List.getElem_mem hk')
      simp;omega
 obtain⟨g1,g2,g3⟩:=key out h
 unfold ins
 split
 . rename_i he
   obtain⟨hl,he⟩:=List.getElem?_eq_some_iff.1 he
   refine⟨h,λz=>⟨.inl,?_⟩⟩
   rintro(hz|rfl)
   . exact hz
   . rw[← he];exact List.getElem_mem hl
 . rename_i he
   have htd:out=out.take (Ek out x)++out.drop (Ek out x):=(List.take_append_drop _ _).symm
   refine⟨?_,λz=> ?_⟩
   . rw[List.pairwise_append,List.pairwise_cons]
     refine⟨h.sublist (List.take_sublist _ _),⟨λz hz=> ?_,h.sublist (List.drop_sublist _ _)⟩,λy hy z hz=> ?_⟩
     . obtain⟨k,hk,rfl⟩:=List.mem_iff_getElem.1 hz
       rw[List.getElem_drop]
       rw[List.length_drop]at hk
       have h1:=g2 (Ek out x+k) (by omega) (by omega)
       by_cases hk0:k=0
       . subst hk0
         have:out[Ek out x+0]≠x:=λe=>he (by rw[List.getElem?_eq_getElem (by omega)];simpa using e)
         omega
       . have h2:=g2 (Ek out x) (by omega) (by omega)
         have h3:=List.pairwise_iff_getElem.1 h (Ek out x) (Ek out x+k) (by omega) (by omega) (by omega)
         omega
     . obtain⟨k,hk,rfl⟩:=List.mem_iff_getElem.1 hy
       rw[List.getElem_take]
       rw[List.length_take]at hk
       have h1:=g1 k (by omega) (by omega)
       rcases List.mem_cons.1 hz with rfl|hz
       . exact h1
       . obtain⟨k',hk',rfl⟩:=List.mem_iff_getElem.1 hz
         rw[List.getElem_drop]
         rw[List.length_drop]at hk'
         have h2:=g2 (Ek out x+k') (by omega) (by omega)
         omega
   . rw[List.mem_append,List.mem_cons]
     constructor
     . rintro(hz|rfl|hz)
       . exact .inl (List.mem_of_mem_take hz)
       . exact .inr rfl
       . exact .inl (List.mem_of_mem_drop hz)
     . rintro(hz|rfl)
       . rw[htd,List.mem_append]at hz
         exact hz.imp id .inr
       . exact .inr (.inl rfl)
theorem Y4 (l:List Int):cV l=RX l:=by
 have key:∀(l acc:List Int),acc.Pairwise (· < ·)->(l.foldl ins acc).Pairwise (· < ·)/\∀z,z∈l.foldl ins acc↔z∈acc∨z∈l:=by
  intro l
  induction l with
  |nil=>intro acc h;exact⟨h,by simp⟩
  |cons x l ih=>
   intro acc h
   obtain⟨h1,h2⟩:=Y5 acc x h
   obtain⟨h3,h4⟩:=ih (ins acc x) h1
   refine⟨h3,λz=> ?_⟩
   rw[List.foldl_cons,h4 z,h2 z,List.mem_cons]
   constructor
   . rintro((h|h)|h)
     . exact .inl h
     . exact .inr (.inl h)
     . exact .inr (.inr h)
   . rintro(h|h|h)
     . exact .inl (.inl h)
     . exact .inl (.inr h)
     . exact .inr h
 obtain⟨h1,h2⟩:=key l [] (by simp)
 exact Tr h1 (OA l) λz=>by rw[OW];have:=h2 z;simpa[cV]using this
end Go.Abs
namespace Go.Abs
set_option maxHeartbeats 4000000
theorem HQ (i:Int) (n:Nat):CV i (n:Int)=some (Fe i n):=OK i n
theorem VX (i:Int) (n:Nat):E4 i (n:Int)=some (Fe i n):=OK i n
def Hn (wv:AB) (s:AO):Bool:=wv.Au.all (λc=>Fe c.Mutex wv.AG.length)&&(s.AG.length==wv.AG.length&&(s.Ce.length==wv.AH.length&&s.AA.length==wv.AA.length))
theorem LF (a b:Nat):((a:Int)==(b:Int))=(a==b):=by rw[Bool.eq_iff_iff,beq_iff_eq,beq_iff_eq];omega
theorem W0 (a b:Nat):((a:Int) != (b:Int))= !(a==b):=by rw[← LF];rfl
theorem I6 (wv:AB) (hw:Small wv):∀(n i:Nat),i≤wv.Au.length->wv.Au.length<n+i->DY.Ac wv n (i:Int)=some ((wv.Au.drop i).all λc=>Fe c.Mutex wv.AG.length)
 |0,i,h1,h2=>by omega
 |n+1,i,h1,h2=>by
  have:=hw.d
  unfold DY.Ac DY.L1
  by_cases hi:i<wv.Au.length
  . rw[BI (by omega),DG hi,Option.bind_some,EM hi,A0 (by omega),I6 wv hw n (i+1) (by omega) (by omega),List.all_cons,HQ,Option.bind_some]
    cases Fe wv.Au[i].Mutex wv.AG.length<;>simp
  . rw[Ab (by omega),Ey hi];rfl
theorem Ka (wv:AB) (hw:Small wv) (s:AO):DY wv s=some (Hn wv s):=by
 have hl:=I6 wv hw Bo 0 (by omega) (by have:=hw.d;have:=Bx;omega)
 rw[List.drop_zero]at hl
 unfold DY DY.J1 Hn
 rw[W0,W0,W0,show(0:Int)=((0:Nat):Int)from rfl,hl]
 cases(s.AG.length==wv.AG.length)<;>cases(s.Ce.length==wv.AH.length)<;>cases(s.AA.length==wv.AA.length)<;>simp
theorem Jm (wv:AB) (hw:Small wv) (s:AO):∀(n i:Nat),i≤wv.Au.length->wv.Au.length<n+i->Dd.Ac s wv n (i:Int)=some (((wv.Au.drop i).all λc=>Fe c.Mutex wv.AG.length)&&(s.AG.length==wv.AG.length&&(s.Ce.length==wv.AH.length&&s.AA.length==wv.AA.length)))
 |0,i,h1,h2=>by omega
 |n+1,i,h1,h2=>by
  have:=hw.d
  unfold Dd.Ac Dd.L1
  by_cases hi:i<wv.Au.length
  . unfold Dd.J1
    rw[BI (by omega),DG hi,Option.bind_some,EM hi,A0 (by omega),Jm wv hw s n (i+1) (by omega) (by omega),List.all_cons]
    generalize wv.Au[i]=c
    by_cases a1:c.Mutex<0
    . have:Fe c.Mutex wv.AG.length=false:=by simp[Fe];omega
      simp[a1,this]
    . by_cases a2:c.Mutex≥(wv.AG.length:Int)
      . have:Fe c.Mutex wv.AG.length=false:=by simp[Fe];omega
        simp[a1,a2,this]
      . have h:Fe c.Mutex wv.AG.length=true:=by simp[Fe];omega
        rw[Ab a1,if_neg (by simpa using a2),h,Bool.true_and]
  . rw[Ab (by omega),Ey hi]
    unfold Dd.J2 Dd.J3
    rw[LF,LF,LF]
    cases(s.AG.length==wv.AG.length)<;>cases(s.Ce.length==wv.AH.length)<;>simp
theorem K1 (wv:AB) (hw:Small wv) (s:AO):Dd wv s=some (Hn wv s):=by
 have hl:=Jm wv hw s Bo 0 (by omega) (by have:=hw.d;have:=Bx;omega)
 rw[List.drop_zero]at hl
 exact hl
def P3 (wv:AB) (s:AM):Bool:=Hn wv s.Sync&&(s.Cells.length==wv.Cells.length&&(s.AH.length==wv.AH.length&&s.Count.length==wv.AA.length))
theorem Mp (wv:AB) (hw:Small wv) (s:AM):DS wv s=some (P3 wv s):=by
 unfold DS DS.J1 P3
 rw[Ka wv hw,Option.bind_some,LF,LF,LF]
 cases Hn wv s.Sync<;>cases(s.Cells.length==wv.Cells.length)<;>cases(s.AH.length==wv.AH.length)<;>simp
def DT (wv:AB) (k o:Int):Bool:=
 if k=1∨k=2∨k=5∨k=12∨k=13∨k=14∨k=15 then o== -1
 else if k=3∨k=4 then Fe o wv.Cells.length
 else if k=6∨k=7 then Fe o wv.AG.length&& !(ix wv.AG o).RW
 else if k=8∨k=9∨k=10∨k=11 then Fe o wv.AG.length&&(ix wv.AG o).RW
 else if k=16∨k=17∨k=18∨k=19 then Fe o wv.Au.length
 else if k=20∨k=21 then Fe o wv.AA.length
 else if k=22∨k=23 then Fe o wv.AH.length
 else false
theorem dK {α:Type} (l:List Iy) (o:Int) (f g:Bool->Option α) (y:Option α) (hf:∀b,f b=g b) (hn:y=g false) (b':Iy->Bool):(if Fe o l.length=true then(gt l o).bind λx=>f (b' x)else y)=g (Fe o l.length&&b' (ix l o)):=by
 cases h:Fe o l.length with
 |false=>simp[hn]
 |true=>rw[if_pos rfl,Co h,Option.bind_some,hf];simp
theorem Ie (wv:AB) (o:Int):∀k,Bc wv k o=some (DT wv k o):=by
 refine kinds ?_ ?_ ?_ ?_ ?_ ?_ ?_ ?_ ?_ ?_ ?_ ?_ ?_ ?_ ?_ ?_ ?_ ?_ ?_ ?_ ?_ ?_ ?_ (λk e1 e2 e3 e4 e5 e6 e7 e8 e9 e10 e11 e12 e13 e14 e15 e16 e17 e18 e19 e20 e21 e22 e23=> ?_)
 all_goals
  unfold Bc Bc.J1
  simp(decide:=true)only[DT,Bc.J2,Bc.J3,Bc.J4,Bc.J5,Bc.J6,Bc.J7,Bc.J8,Bc.J9,HQ,Option.bind_some,beq_self_eq_true,if_true,if_false,beq_iff_eq,or_false,or_true,true_or,false_or,Bool.false_eq_true]
 all_goals first
  |done
  | (simp only[e1,e2,e3,e4,e5,e6,e7,e8,e9,e10,e11,e12,e13,e14,e15,e16,e17,e18,e19,e20,e21,e22,e23,if_false,or_self];done)
  |exact dK wv.AG o some some (some false) (λ_=>rfl) rfl (λx=> !x.RW)
  |exact dK wv.AG o some some (some false) (λ_=>rfl) rfl (λx=>x.RW)
theorem RK (wv:AB) (k o:Int):Fw wv k o=some (DT wv k o):=Ie wv o k
theorem P9 (l:List Int) (v:Int) (hl:l.length≤1000000000):∀(n i:Nat),i≤l.length->l.length<n+i->∃r,EE.Ac l v n (i:Int)=some r/\(0≤r↔v∈l.drop i)
 |0,i,h1,h2=>by omega
 |n+1,i,h1,h2=>by
  unfold EE.Ac EE.L1
  by_cases hi:i<l.length
  . rw[BI (by omega),DG hi,Option.bind_some,A0 (by omega),EM hi]
    obtain⟨r,hr,hr'⟩:=P9 l v hl n (i+1) (by omega) (by omega)
    generalize l.drop (i+1)=rest at hr' ⊢
    by_cases hx:v=l[i]
    . exact⟨i,by simp[hx],by simp[hx]⟩
    . exact⟨r,by simpa[hx]using hr,by simpa[hx]using hr'⟩
  . rw[Ab (by omega),Ey hi]
    exact⟨-1,rfl,by simp⟩
theorem UT (l:List Int) (v:Int) (hl:l.length≤1000000000):Em l v=some (l.contains v):=by
 obtain⟨r,h1,h2⟩:=P9 l v hl Bo 0 (by omega) (by have:=Bx;omega)
 rw[List.drop_zero]at h2
 unfold Em EE
 rw[show(0:Int)=((0:Nat):Int)from rfl,h1,Option.bind_some]
 congr 1
 rw[Bool.eq_iff_iff,decide_eq_true_iff,List.contains_iff_mem]
 exact h2
theorem UX (l:List Int) (v:Int) (hl:l.length≤1000000000):∀(n i:Nat),i≤l.length->l.length<n+i->Eh.Ac l v n (i:Int)=some ((l.drop i).contains v)
 |0,i,h1,h2=>by omega
 |n+1,i,h1,h2=>by
  unfold Eh.Ac Eh.L1
  by_cases hi:i<l.length
  . rw[BI (by omega),DG hi,Option.bind_some,A0 (by omega),EM hi,UX l v hl n (i+1) (by omega) (by omega)]
    generalize l.drop (i+1)=rest
    by_cases hx:l[i]=v
    . simp[hx]
    . have:¬v=l[i]:=λh=>hx h.symm
      simp[hx,this]
  . rw[Ab (by omega),Ey hi];rfl
theorem Zu (l:List Int) (v:Int) (hl:l.length≤1000000000):Eh l v=some (l.contains v):=UX l v hl Bo 0 (by omega) (by have:=Bx;omega)
def RB (N:Nat) (s:AO):Prop:=∀x∈s.AG,x.BW.length≤N
theorem RB.ix {N:Nat} {s:AO} (h:RB N s) (i:Int):(ix s.AG i).BW.length≤N:=by
 unfold Abs.ix
 cases hx:s.AG[i.toNat]? with
 |none=>exact Nat.zero_le _
 |some x=>exact h x (List.mem_of_getElem? hx)
def Q3 (wv:AB) (s:AO) (t k o:Int):Bool:=
 let me:=ix s.AA t
 if k=1 then me.Status==1
 else if k=17 then me.Status==4&&(me.Ef==o&&(ix s.AG (ix wv.Au o).Mutex).En== -1)
 else me.Status==2&&(
  if k=6 then(ix s.AG o).En== -1
  else if k=10 then(ix s.AG o).En== -1&&((ix s.AG o).BW.length:Int)==0
  else if k=8 then(ix s.AG o).En== -1&& !(ix s.AG o).BW.contains t
  else if k=7∨k=11 then(ix s.AG o).En==t
  else if k=9 then(ix s.AG o).BW.contains t
  else if k=12 then s.Tx== -1
  else if k=13 then s.Tx==t
  else if k=14 then !me.Atomic
  else if k=15 then me.Atomic
  else if k=16∨k=18∨k=19 then(ix s.AG (ix wv.Au o).Mutex).En==t
  else if k=20 then o != t&&(ix s.AA o).Status==0
  else if k=21 then o != t&&(ix s.AA o).Status==5
  else if k=22 then !ix s.Ce o
  else if k=23 then ix s.Ce o
  else true)
def Di (wv:AB) (s:AO) (t k o:Int):Bool:=Hn wv s&&(Fe t wv.AA.length&&(DT wv k o&&Q3 wv s t k o))
theorem Gq {wv:AB} {s:AO} (h:Hn wv s=true):s.AG.length=wv.AG.length/\s.Ce.length=wv.AH.length/\s.AA.length=wv.AA.length:=by
 unfold Hn at h
 simp only[Bool.and_eq_true,beq_iff_eq]at h
 exact h.2
theorem Gr {wv:AB} {s:AO} (h:Hn wv s=true) {o:Int} (ho:Fe o wv.Au.length=true):Fe (ix wv.Au o).Mutex wv.AG.length=true:=by
 unfold Hn at h
 simp only[Bool.and_eq_true,List.all_eq_true]at h
 obtain⟨h0,h1⟩:=EX.1 ho
 have hl:o.toNat<wv.Au.length:=by omega
 refine h.1 _ ?_
 unfold ix
 rw[List.getElem?_eq_getElem hl]
 exact List.getElem_mem hl
theorem Ib (wv:AB) (hw:Small wv) (s:AO) (hr:RB 1000000000 s) (t o:Int):∀k,Cg wv s t k o=some (Di wv s t k o):=by
 intro k
 unfold Cg Di
 rw[Ka wv hw,Option.bind_some]
 cases hf:Hn wv s with
 |false=>rfl
 |true=>
  rw[HQ,Option.bind_some]
  cases ht:Fe t wv.AA.length with
  |false=>rfl
  |true=>
   rw[Ie,Option.bind_some]
   cases ha:DT wv k o with
   |false=>rfl
   |true=>
    obtain⟨l1,l2,l3⟩:=Gq hf
    have gT:gt s.AA t=some (ix s.AA t):=Co (by rw[l3];exact ht)
    unfold Cg.J1
    simp only[Bool.not_true,Bool.false_eq_true,if_false,Bool.true_and]
    rw[gT,Option.bind_some]
    revert ha
    have hR:=hr.ix o
    have hCo:=UT (ix s.AG o).BW t (hr.ix o)
    revert k
    refine kinds ?_ ?_ ?_ ?_ ?_ ?_ ?_ ?_ ?_ ?_ ?_ ?_ ?_ ?_ ?_ ?_ ?_ ?_ ?_ ?_ ?_ ?_ ?_ (λk e1 e2 e3 e4 e5 e6 e7 e8 e9 e10 e11 e12 e13 e14 e15 e16 e17 e18 e19 e20 e21 e22 e23=> ?_)
    all_goals
     intro ha
     unfold Q3
     simp(decide:=true)only[DT,or_false,or_true,true_or,false_or,if_true,if_false,Bool.and_eq_true]at ha
     simp(decide:=true)only[Cg.J2,Cg.J3,C9,C9.J1,C9.J2,C9.J3,C9.J4,C9.J5,C9.J6,beq_self_eq_true,beq_iff_eq,if_true,if_false,or_false,or_true,true_or,false_or,Bool.false_eq_true]
    all_goals first
     |done
     | (rw[Co (l:=wv.Au) ha,Option.bind_some,Co (l:=s.AG) (by rw[l1];exact Gr hf ha)];simp only[Option.bind_some];generalize (ix s.AA t).Status=x;generalize (ix s.AA t).Ef=y;by_cases h1:x=4<;>by_cases h2:y=o<;>simp[h1,h2];done)
     | (rw[Co (l:=wv.Au) ha,Option.bind_some,Co (l:=s.AG) (by rw[l1];exact Gr hf ha)];simp only[Option.bind_some];generalize (ix s.AA t).Status=x;by_cases h1:x=2<;>simp[h1];done)
     | (rw[Co (l:=s.AG) (by rw[l1];exact ha.1)];simp only[Option.bind_some,hCo];generalize (ix s.AA t).Status=x;by_cases h1:x=2<;>by_cases h2:(ix s.AG o).En= -1<;>simp[h1,h2];done)
     | (rw[Co (l:=s.AA) (by rw[l3];exact ha)];simp only[Option.bind_some];generalize (ix s.AA t).Status=x;by_cases h1:x=2<;>by_cases h2:o=t<;>simp[h1,h2];done)
     | (rw[Co (l:=s.Ce) (by rw[l2];exact ha)];simp only[Option.bind_some];generalize (ix s.AA t).Status=x;by_cases h1:x=2<;>simp[h1];done)
     | (generalize (ix s.AA t).Status=x;by_cases h1:x=2<;>simp[h1];done)
     | (simp only[gT,Option.bind_some];generalize (ix s.AA t).Status=x;by_cases h1:x=2<;>simp[h1];done)
     | (exfalso;revert ha;simp only[e1,e2,e3,e4,e5,e6,e7,e8,e9,e10,e11,e12,e13,e14,e15,e16,e17,e18,e19,e20,e21,e22,e23,if_false,or_self,Bool.false_eq_true,imp_self];done)
     |skip
theorem Ms (wv:AB) (hw:Small wv) (s:AO) (hr:RB 1000000000 s) (t o:Int):∀k,B1 wv s t k o=some (Di wv s t k o):=by
 intro k
 unfold B1 Di
 rw[K1 wv hw,Option.bind_some]
 cases hf:Hn wv s with
 |false=>rfl
 |true=>
  rw[VX,Option.bind_some]
  cases ht:Fe t wv.AA.length with
  |false=>rfl
  |true=>
   rw[RK,Option.bind_some]
   cases ha:DT wv k o with
   |false=>rfl
   |true=>
    obtain⟨l1,l2,l3⟩:=Gq hf
    have gT:gt s.AA t=some (ix s.AA t):=Co (by rw[l3];exact ht)
    unfold B1.J1
    simp only[Bool.not_true,Bool.false_eq_true,if_false,Bool.true_and]
    rw[gT,Option.bind_some]
    revert ha
    have hR:=hr.ix o
    have hCo:=Zu (ix s.AG o).BW t (hr.ix o)
    revert k
    refine kinds ?_ ?_ ?_ ?_ ?_ ?_ ?_ ?_ ?_ ?_ ?_ ?_ ?_ ?_ ?_ ?_ ?_ ?_ ?_ ?_ ?_ ?_ ?_ (λk e1 e2 e3 e4 e5 e6 e7 e8 e9 e10 e11 e12 e13 e14 e15 e16 e17 e18 e19 e20 e21 e22 e23=> ?_)
    all_goals
     intro ha
     unfold Q3
     simp(decide:=true)only[DT,or_false,or_true,true_or,false_or,if_true,if_false,Bool.and_eq_true]at ha
     simp(decide:=true)only[B1.J2,B1.J3,B1.J4,B1.J5,B1.J6,B1.J7,B1.J8,beq_self_eq_true,beq_iff_eq,if_true,if_false,or_false,or_true,true_or,false_or,Bool.false_eq_true]
    all_goals first
     |done
     | (rw[Co (l:=wv.Au) ha,Option.bind_some,Co (l:=s.AG) (by rw[l1];exact Gr hf ha)];simp only[Option.bind_some];generalize (ix s.AA t).Status=x;generalize (ix s.AA t).Ef=y;by_cases h1:x=4<;>by_cases h2:y=o<;>simp[h1,h2];done)
     | (rw[Co (l:=wv.Au) ha,Option.bind_some,Co (l:=s.AG) (by rw[l1];exact Gr hf ha)];simp only[Option.bind_some];generalize (ix s.AA t).Status=x;by_cases h1:x=2<;>simp[h1];done)
     | (rw[Co (l:=s.AG) (by rw[l1];exact ha.1)];simp only[Option.bind_some,hCo];generalize (ix s.AA t).Status=x;by_cases h1:x=2<;>by_cases h2:(ix s.AG o).En= -1<;>simp[h1,h2];done)
     | (rw[Co (l:=s.AA) (by rw[l3];exact ha)];simp only[Option.bind_some];generalize (ix s.AA t).Status=x;by_cases h1:x=2<;>by_cases h2:o=t<;>simp[h1,h2];done)
     | (rw[Co (l:=s.Ce) (by rw[l2];exact ha)];simp only[Option.bind_some];generalize (ix s.AA t).Status=x;by_cases h1:x=2<;>simp[h1];done)
     | (generalize (ix s.AA t).Status=x;by_cases h1:x=2<;>simp[h1];done)
     | (simp only[gT,Option.bind_some];generalize (ix s.AA t).Status=x;by_cases h1:x=2<;>simp[h1];done)
     | (exfalso;revert ha;simp only[e1,e2,e3,e4,e5,e6,e7,e8,e9,e10,e11,e12,e13,e14,e15,e16,e17,e18,e19,e20,e21,e22,e23,if_false,or_self,Bool.false_eq_true,imp_self];done)
     |skip
theorem Ua (l:List Int) (x:Int) (hl:l.length≤1000000000):∀(n i:Nat),i≤l.length->l.length<n+i->(∀(k:Nat) (hk:k<l.length),k<i->l[k]<x)->DI.Ac l x n (i:Int)=some (ins l x)
 |0,i,h1,h2,_=>by omega
 |n+1,i,h1,h2,h3=>by
  unfold DI.Ac DI.L1
  have step:∀(b:Bool),(∀(hi:i<l.length),b=decide (l[i]<x))->(¬i<l.length->b=false)->DI.J1 (DI.Ac l x n) (i:Int) l x b=some (ins l x):=by
   intro b hb hb'
   unfold DI.J1
   by_cases hi:i<l.length
   . rw[hb hi]
     by_cases hx:l[i]<x
     . rw[BI hx,A0 (by omega)]
       refine Ua l x hl n (i+1) (by omega) (by omega) λk hk hki=> ?_
       by_cases e:k=i
       . subst e;exact hx
       . exact h3 k hk (by omega)
     . rw[Ab hx]
       have hp:=Sy l x i h1 h3 (λ_=>hx)
       unfold DI.J2 DI.J3 ins
       rw[BI (by omega),DG hi,Option.bind_some,hp,List.getElem?_eq_getElem hi]
       by_cases e:l[i]=x
       . simp[e]
       . have:(l[i]==x)=false:=by simpa using e
         rw[this,if_neg (by simp),Int.toNat_natCast,if_pos ⟨by omega,by omega⟩,BT (by simp;omega),BT (by simp;omega),if_pos ⟨by omega,by omega⟩,BT (by simp;omega),if_neg (by simpa using e)]
         have ht:(l.drop i).take (l.length-i)=l.drop i:=List.take_of_length_le (by rw[List.length_drop];omega)
         rw[ht];simp
   . rw[hb' hi,if_neg (by simp)]
     have hp:=Sy l x i h1 h3 (λh=>absurd h hi)
     have hil:i=l.length:=by omega
     unfold DI.J2 DI.J3 ins
     rw[Ab (by omega),if_neg (by simp),hp,Int.toNat_natCast,if_pos ⟨by omega,by omega⟩,BT (by simp;omega),BT (by simp;omega),if_pos ⟨by omega,by omega⟩,BT (by simp;omega),if_neg (by simp[hil])]
     congr 1
     simp[hil]
  by_cases hi:i<l.length
  . rw[BI (by omega),DG hi,Option.bind_some]
    exact step _ (λ_=>rfl) (λh=>absurd hi h)
  . rw[Ab (by omega)]
    exact step _ (λh=>absurd h hi) (λ_=>rfl)
theorem aD (l:List Int) (x:Int) (hl:l.length≤1000000000):DI l x=some (ins l x):=Ua l x hl Bo 0 (by omega) (by have:=Bx;omega) (λk hk h=>by omega)
theorem Union.L2 (b:List Int):∀(n i:Nat) (out:List Int),i≤b.length->b.length<n+i->out.length+b.length≤1000000000+i->b.length≤1000000000->Cx.Da b n out (i:Int)=some ((b.drop i).foldl ins out)
 |0,i,out,h1,h2,h3,h4=>by omega
 |n+1,i,out,h1,h2,h3,h4=>by
  unfold Cx.Da Cx.L2
  by_cases hi:i<b.length
  . have hl:=Qh out b[i]
    rw[BI (by omega),DG hi,Option.bind_some,aD _ _ (by omega),Option.bind_some,A0 (by omega),Union.L2 b n (i+1) _ (by omega) (by omega) (by omega) h4,EM hi,List.foldl_cons]
  . rw[Ab (by omega),Ey hi];rfl
theorem Union.L1 (a b:List Int) (hb:a.length+b.length≤1000000000):∀(n i:Nat) (out:List Int),i≤a.length->a.length<n+i->out.length≤i->Cx.Ac a b n out (i:Int)=some (b.foldl ins ((a.drop i).foldl ins out))
 |0,i,out,h1,h2,h3=>by omega
 |n+1,i,out,h1,h2,h3=>by
  unfold Cx.Ac Cx.L1
  by_cases hi:i<a.length
  . have hl:=Qh out a[i]
    rw[BI (by omega),DG hi,Option.bind_some,aD _ _ (by omega),Option.bind_some,A0 (by omega),Union.L1 a b hb n (i+1) _ (by omega) (by omega) (by omega),EM hi,List.foldl_cons]
  . rw[Ab (by omega),Ey hi]
    unfold Cx.J1
    have:=Union.L2 b Bo 0 out (by omega) (by have:=Bx;omega) (by omega) (by omega)
    rw[List.drop_zero]at this
    exact this
theorem Uc (a b:List Int) (hb:a.length+b.length≤1000000000):Cx a b=some (RX (a++b)):=by
 have:=Union.L1 a b hb Bo 0 [] (by omega) (by have:=Bx;omega) (by simp)
 rw[List.drop_zero,← List.foldl_append]at this
 refine Eq.trans this ?_
 rw[← Y4];rfl
theorem JZ (l:List Int) (x:Int) (hl:l.length≤1000000000):∀(n i:Nat) (out:List Int),i≤l.length->l.length<n+i->out.length≤i->C0.Ac l x n out (i:Int)=some (out++(l.drop i).filter λy=> !(y==x))
 |0,i,out,h1,h2,h3=>by omega
 |n+1,i,out,h1,h2,h3=>by
  unfold C0.Ac C0.L1
  by_cases hi:i<l.length
  . unfold C0.J1
    rw[BI (by omega),DG hi,Option.bind_some,EM hi,List.filter_cons,A0 (by omega)]
    by_cases e:l[i]=x
    . have h1':(l[i] != x)=false:=by simp[e]
      have h2':(!(l[i]==x))=false:=by simp[e]
      rw[h1',h2',if_neg (by simp),if_neg (by simp)]
      exact JZ l x hl n (i+1) out (by omega) (by omega) (by omega)
    . have h1':(l[i] != x)=true:=by simpa using e
      have h2':(!(l[i]==x))=true:=by simpa using e
      rw[h1',h2',if_pos rfl,if_pos rfl,BT (by omega),JZ l x hl n (i+1) _ (by omega) (by omega) (by simp;omega)]
      simp
  . rw[Ab (by omega),Ey hi]
    simp[C0.J2]
theorem XN (l:List Int) (x:Int) (hl:l.length≤1000000000):C0 l x=some (l.filter λy=> !(y==x)):=by
 have:=JZ l x hl Bo 0 [] (by omega) (by have:=Bx;omega) (by simp)
 rw[List.drop_zero]at this
 exact this
def Hx (x:AD) (o:Int):Bool:=x.Status==3&&x.Ef==o
def CP (o:Int):Nat->List AD->List Int
 |_,[]=>[]
 |i,x::r=>if Hx x o=true then(i:Int)::CP o (i+1) r else CP o (i+1) r
theorem Ro (o:Int) (T:List AD):∀i,(CP o i T).length≤T.length:=by
 induction T with
 |nil=>intro i;simp[CP]
 |cons x r ih=>
  intro i
  have:=ih (i+1)
  unfold CP
  split<;>simp<;>omega
theorem Iw (o:Int) (T:List AD):∀(i:Nat) (u:Int),u∈CP o i T->(i:Int)≤u/\u<((i+T.length:Nat):Int):=by
 induction T with
 |nil=>intro i u h;simp[CP]at h
 |cons x r ih=>
  intro i u h
  unfold CP at h
  split at h
  . rcases List.mem_cons.1 h with rfl|h
    . simp;omega
    . have:=ih (i+1) u h;simp at this ⊢;omega
  . have:=ih (i+1) u h;simp at this ⊢;omega
theorem Vp (x:AD) (o:Int):EA x o=some (Hx x o):=by
 unfold EA EA.J1 Hx
 cases(x.Status==3)<;>simp
theorem JE (s:AO) (o:Int) (hl:s.AA.length≤1000):∀(n i:Nat) (l:List Int),i≤s.AA.length->s.AA.length<n+i->l.length≤i->CO.Ac o s n l (i:Int)=some (l++CP o i (s.AA.drop i))
 |0,i,l,h1,h2,h3=>by omega
 |n+1,i,l,h1,h2,h3=>by
  unfold CO.Ac CO.L1
  by_cases hi:i<s.AA.length
  . unfold CO.J1 CO.J2
    rw[BI (by omega),DG hi,Option.bind_some,EM hi,CP,A0 (by omega),BT (by omega)]
    have a1:=JE s o hl n (i+1) (l++[(i:Int)]) (by omega) (by omega) (by simp;omega)
    have a2:=JE s o hl n (i+1) l (by omega) (by omega) (by omega)
    unfold Hx
    rw[a1,a2]
    cases(s.AA[i].Status==3)<;>cases(s.AA[i].Ef==o)<;>simp
  . rw[Ab (by omega),Ey hi]
    simp[CO.J3,CP]
theorem Ud (s:AO) (o:Int) (hl:s.AA.length≤1000):CO s o=some (CP o 0 s.AA):=by
 have:=JE s o hl Bo 0 [] (by omega) (by have:=Bx;omega) (by simp)
 rw[List.drop_zero]at this
 exact this
def IY (wake:Int):Int->List Int->Int
 |c,[]=>c
 |c,w::r=>IY wake (if c<0∨w=wake then w else c) r
theorem Ux (wake:Int) (W:List Int) (hW:∀w∈W,0≤w):∀c,0≤c->IY wake c W=if W.contains wake=true then wake else c:=by
 induction W with
 |nil=>intro c _;simp[IY]
 |cons w r ih=>
  intro c hc
  have hr:=ih (λw h=>hW w (List.mem_cons_of_mem _ h))
  unfold IY
  by_cases e:w=wake
  . rw[if_pos (.inr e),hr w (hW w (List.mem_cons_self ..))]
    subst e;simp
  . have e':¬wake=w:=λh=>e h.symm
    rw[if_neg (by simp[e];omega),hr c hc]
    simp[e']
def Eu (wake:Int) (W:List Int):Int:=if W=[]then -1 else if W.contains wake=true then wake else W.headD 0
theorem Wf (wake:Int) (W:List Int) (hW:∀w∈W,0≤w):IY wake (-1) W=Eu wake W:=by
 cases W with
 |nil=>rfl
 |cons w r=>
  unfold IY Eu
  rw[if_pos (.inl (by omega)),Ux wake r (λw h=>hW w (List.mem_cons_of_mem _ h)) w (hW w (List.mem_cons_self ..)),if_neg (c:=w::r=[]) (by simp)]
  by_cases e:wake=w
  . subst e
    have hc:(wake::r).contains wake=true:=by simp
    rw[hc,if_pos rfl]
    split<;>rfl
  . have hc:(w::r).contains wake=r.contains wake:=by simp[e]
    rw[hc];rfl
theorem Ox (T:List AD) (o wake:Int) (hl:T.length≤1000):∀(n i:Nat) (c:Int),i≤T.length->T.length<n+i->CU.Ac o T wake n c (i:Int)=CU.J3 T (IY wake c (CP o i (T.drop i)))
 |0,i,c,h1,h2=>by omega
 |n+1,i,c,h1,h2=>by
  unfold CU.Ac CU.L1
  by_cases hi:i<T.length
  . unfold CU.J1 CU.J2
    rw[BI (by omega),DG hi,Option.bind_some,Vp,Option.bind_some,EM hi,CP,A0 (by omega)]
    have ih:=λc=>Ox T o wake hl n (i+1) c (by omega) (by omega)
    simp only[ih]
    cases Hx T[i] o with
    |false=>simp
    |true=>
     simp only[if_true,IY]
     by_cases hc:c<0
     . simp[hc]
     . by_cases hw:(i:Int)=wake<;>simp[hc,hw]
  . rw[Ab (by omega),Ey hi];rfl
def OI (x:AD):AD:=⟨4,x.Ef,x.Atomic⟩
def HE (o:Int) (x:AD):AD:=if Hx x o=true then OI x else x
theorem ZL (tx:Int) (T:List AD) (o wake:Int) (hl:T.length≤1000):CU tx T o wake=some (Eu wake (CP o 0 T),if CP o 0 T=[]then T else T.set (Eu wake (CP o 0 T)).toNat (OI (ix T (Eu wake (CP o 0 T))))):=by
 have h:=Ox T o wake hl Bo 0 (-1) (by omega) (by have:=Bx;omega)
 rw[List.drop_zero,Wf _ _ (λw hw=>(Iw o T 0 w hw).1)]at h
 refine Eq.trans h ?_
 unfold CU.J3 CU.J4
 by_cases e:CP o 0 T=[]
 . rw[e];simp[Eu]
 . have hm:Eu wake (CP o 0 T)∈CP o 0 T:=by
    unfold Eu
    rw[if_neg e]
    split
    . rename_i h;simpa using h
    . cases hW:CP o 0 T with
      |nil=>exact absurd hW e
      |cons w r=>simp
   have hb:=Iw o T 0 _ hm
   rw[if_neg e,BI (by omega),Co (EX.2 (by simpa using hb))]
   rfl
theorem IP (T:List AD) (o:Int) (hl:T.length≤1000):∀(n i:Nat) (c:Nat),i≤T.length->T.length<n+i->c≤i->
 CR.Ac o T n ((T.take i).map (HE o)++T.drop i) (c:Int) (i:Int)=some (((c+(CP o i (T.drop i)).length:Nat):Int),T.map (HE o))
 |0,i,c,h1,h2,_=>by omega
 |n+1,i,c,h1,h2,h3=>by
  unfold CR.Ac CR.L1
  by_cases hi:i<T.length
  . have hlen:((T.take i).map (HE o)).length=i:=by simp;omega
    have hx:gt ((T.take i).map (HE o)++T.drop i) (i:Int)=some T[i]:=by
     rw[JM,List.getElem?_append_right (by omega),hlen,Nat.sub_self,EM hi];rfl
    unfold CR.J1
    rw[BI (by omega),hx,Option.bind_some,Vp,Option.bind_some,A0 (i:=i) (by omega),A0 (i:=c) (by omega),Int.toNat_natCast]
    have hmap:∀y,y=HE o T[i]->(T.take i).map (HE o)++y::T.drop (i+1)=(T.take (i+1)).map (HE o)++T.drop (i+1):=by
     rintro y rfl
     rw[← List.take_append_getElem hi,List.map_append];simp
    have hset:((T.take i).map (HE o)++T.drop i).set i (AD.mk 4 T[i].Ef T[i].Atomic)=(T.take i).map (HE o)++AD.mk 4 T[i].Ef T[i].Atomic::T.drop (i+1):=by
     rw[List.set_append_right _ _ (by omega),hlen,Nat.sub_self,EM hi];rfl
    have hkeep:(T.take i).map (HE o)++T.drop i=(T.take i).map (HE o)++T[i]::T.drop (i+1):=by rw[← EM hi]
    rw[hset,hkeep,EM hi,CP]
    cases hw:Hx T[i] o with
    |true=>
     rw[if_pos rfl,if_pos rfl,hmap _ (by simp[HE,hw,OI]),IP T o hl n (i+1) (c+1) (by omega) (by omega) (by omega)]
     congr 3
     simp;omega
    |false=>
     rw[if_neg (by simp),if_neg (by simp),hmap _ (by simp[HE,hw]),IP T o hl n (i+1) c (by omega) (by omega) (by omega)]
  . rw[Ab (by omega),Ey hi,List.take_of_length_le (by omega)]
    simp[CR.J2,CP]
theorem Tz (tx:Int) (T:List AD) (o:Int) (hl:T.length≤1000):CR tx T o=some (((CP o 0 T).length:Int),T.map (HE o)):=by
 have:=IP T o hl Bo 0 0 (by omega) (by have:=Bx;omega) (by omega)
 simp only[List.take_zero,List.map_nil,List.drop_zero,List.nil_append,Nat.zero_add]at this
 exact this
structure P4 (s:AO):Prop where
 l:s.AG.length≤1000
 d:s.Ce.length≤1000
 t:s.AA.length≤1000
 r:RB 1000000 s
theorem QS (s:AO) (hs:P4 s):∀(n i:Nat),i≤s.AG.length->s.AG.length<n+i->
 C8.Ac s n (s.AG.take i++List.replicate (s.AG.length-i) ⟨0,[]⟩) (i:Int)=some s
 |0,i,h1,h2=>by omega
 |n+1,i,h1,h2=>by
  have:=hs.l;have:=hs.d;have:=hs.t
  unfold C8.Ac C8.L1
  by_cases hi:i<s.AG.length
  . have hlen:(s.AG.take i).length=i:=by simp;omega
    have e:List.replicate (s.AG.length-i) (AY.mk 0 [])=AY.mk 0 []::List.replicate (s.AG.length-(i+1)) (AY.mk 0 []):=by
     rw[show s.AG.length-i=(s.AG.length-(i+1))+1 from by omega,List.replicate_succ]
    have hx:gt (s.AG.take i++List.replicate (s.AG.length-i) (AY.mk 0 [])) (i:Int)=some ⟨0,[]⟩:=by
     rw[JM,e,List.getElem?_append_right (by omega),hlen];simp
    have hset:(s.AG.take i++List.replicate (s.AG.length-i) (AY.mk 0 [])).set i s.AG[i]=s.AG.take (i+1)++List.replicate (s.AG.length-(i+1)) (AY.mk 0 []):=by
     rw[e,List.set_append_right _ _ (by omega),hlen,Nat.sub_self,List.set_cons_zero,← List.take_append_getElem hi,List.append_assoc];rfl
    have hr:=hs.r _ (List.getElem_mem hi)
    unfold slices_Clone_int
    rw[BI (by omega),DG hi,Option.bind_some,BT (by omega),Option.bind_some,hx,Option.bind_some,A0 (by omega),Int.toNat_natCast]
    show C8.Ac s n ((s.AG.take i++List.replicate (s.AG.length-i) (AY.mk 0 [])).set i s.AG[i]) _=_
    rw[hset]
    exact QS s hs n (i+1) (by omega) (by omega)
  . rw[Ab (by omega),List.take_of_length_le (by omega),show s.AG.length-i=0 from by omega]
    unfold C8.J1 HD EU
    rw[BT (by omega),Option.bind_some,BT (by omega),Option.bind_some]
    simp
theorem bV (s:AO) (hs:P4 s):C8 s=some s:=by
 have:=hs.l
 unfold C8
 rw[if_pos ⟨by omega,by omega,Ba (by omega)⟩]
 have h:=QS s hs Bo 0 (by omega) (by have:=Bx;omega)
 rw[List.take_zero,List.nil_append]at h
 exact h
theorem SY (s:AO) (hs:P4 s) (tx:Int) (D:List Bool) (T:List AD):∀(n i:Nat),i≤s.AG.length->s.AG.length<n+i->
 EP.Ac s n ⟨s.AG.take i,tx,D,T⟩ (i:Int)=some ⟨s.AG,tx,D,T⟩
 |0,i,h1,h2=>by omega
 |n+1,i,h1,h2=>by
  have:=hs.l
  unfold EP.Ac EP.L1
  by_cases hi:i<s.AG.length
  . have hr:=hs.r _ (List.getElem_mem hi)
    rw[BI (by omega),DG hi,Option.bind_some,BT (by omega),BT (by simp;omega),A0 (by omega)]
    simp only[List.take_append_getElem hi]
    exact SY s hs tx D T n (i+1) (by omega) (by omega)
  . rw[Ab (by omega),List.take_of_length_le (by omega)];rfl
theorem XU (s:AO) (hs:P4 s):EP s=some s:=by
 have:=hs.l;have:=hs.d;have:=hs.t
 unfold EP
 rw[BT (by omega),BT (by omega)]
 exact SY s hs s.Tx s.Ce s.AA Bo 0 (by omega) (by have:=Bx;omega)
def SV (s:AO) (i:Int) (f:AD->AD):AO:=⟨s.AG,s.Tx,s.Ce,s.AA.set i.toNat (f (ix s.AA i))⟩
def N9 (s:AO) (i:Int) (f:AY->AY):AO:=⟨s.AG.set i.toNat (f (ix s.AG i)),s.Tx,s.Ce,s.AA⟩
def FR (wv:AB) (s:AO) (t k o wake:Int):AO×Int:=
 if k=1 then(SV s t λx=>⟨2,x.Ef,x.Atomic⟩,0)
 else if k=2 then(SV s t λx=>⟨5,x.Ef,x.Atomic⟩,0)
 else if k=6∨k=10 then(N9 s o λx=>⟨t,x.BW⟩,0)
 else if k=7∨k=11 then(N9 s o λx=>⟨-1,x.BW⟩,0)
 else if k=8 then(N9 s o λx=>⟨x.En,RX (x.BW++[t])⟩,0)
 else if k=9 then(N9 s o λx=>⟨x.En,x.BW.filter λy=> !(y==t)⟩,0)
 else if k=12 then(⟨s.AG,t,s.Ce,s.AA⟩,0)
 else if k=13 then(⟨s.AG, -1,s.Ce,s.AA⟩,0)
 else if k=14 then(SV s t λx=>⟨x.Status,x.Ef,true⟩,0)
 else if k=15 then(SV s t λx=>⟨x.Status,x.Ef,false⟩,0)
 else if k=16 then(SV (N9 s (ix wv.Au o).Mutex λx=>⟨-1,x.BW⟩) t λx=>⟨3,o,x.Atomic⟩,0)
 else if k=17 then(SV (N9 s (ix wv.Au o).Mutex λx=>⟨t,x.BW⟩) t λx=>⟨2,0,x.Atomic⟩,0)
 else if k=18 then(if CP o 0 s.AA=[]then s else SV s (Eu wake (CP o 0 s.AA)) OI,Eu wake (CP o 0 s.AA))
 else if k=19 then(⟨s.AG,s.Tx,s.Ce,s.AA.map (HE o)⟩,((CP o 0 s.AA).length:Int))
 else if k=20 then(SV s o λx=>⟨1,x.Ef,x.Atomic⟩,0)
 else if k=22 then(⟨s.AG,s.Tx,s.Ce.set o.toNat true,s.AA⟩,0)
 else(s,0)
def Wl:AO:=⟨[],0,[],[]⟩
def KC (wv:AB) (s:AO) (t k o wake:Int):AO×Int×Bool:=if Di wv s t k o=true then((FR wv s t k o wake).1,(FR wv s t k o wake).2,true)else(Wl,0,false)
theorem RY {l:List AD} {t:Int} (ht:Fe t l.length=true) (a:AD):gt (l.set t.toNat a) t=some a:=by
 obtain⟨h0,h1⟩:=EX.1 ht
 have:t.toNat<l.length:=by omega
 unfold gt
 rw[if_pos h0,List.getElem?_set_self this]
theorem P4.of {wv:AB} (hw:Small wv) {s:AO} (hf:Hn wv s=true) (hr:RB 1000000 s):P4 s:=by
 obtain⟨l1,l2,l3⟩:=Gq hf
 have:=hw.l;have:=hw.f;have:=hw.t
 exact⟨by omega,by omega,by omega,hr⟩
theorem RB.mono {N M:Nat} {s:AO} (h:RB N s) (hM:N≤M):RB M s:=λx hx=>Nat.le_trans (h x hx) hM
theorem fS (l:List Int) (hl:l.length≤1000000000):Il l=some (Lt l):=by
 unfold Il;rw[if_pos (by omega)];rfl
theorem Vy (l:List Int) (hl:l.length≤1000000000):slices_Compact l=some (Lib.compact l):=by
 unfold slices_Compact;rw[if_pos (by omega)]
theorem PO (wv:AB) (hw:Small wv) (s:AO) (hr:RB 1000000 s) (t o wake:Int):∀k,Dm wv s t k o wake=some (KC wv s t k o wake):=by
  intro k
  unfold Dm KC
  rw[Ib wv hw s (hr.mono (by omega)),Option.bind_some]
  cases he:Di wv s t k o with
  |false=>rfl
  |true=>
    have he':=he
    unfold Di at he'
    simp only[Bool.and_eq_true]at he'
    obtain⟨hf,ht,ha,hrd⟩:=he'
    obtain⟨l1,l2,l3⟩:=Gq hf
    have hfi:=P4.of hw hf hr
    have ht':Fe t s.AA.length=true:=by rw[l3];exact ht
    have gT:gt s.AA t=some (ix s.AA t):=Co ht'
    have gTT:=RY ht'
    have hix:=hr.ix o
    have hsl:(Lt ((ix s.AG o).BW++[t])).length≤1000000000:=by rw[NX];simp;omega
    have hN:=ZL s.Tx s.AA o wake hfi.t
    have hA:=Tz s.Tx s.AA o hfi.t
    rw[bV s hfi,Option.bind_some,if_neg (by simp)]
    clear he
    revert ha hrd
    revert k
    refine kinds ?_ ?_ ?_ ?_ ?_ ?_ ?_ ?_ ?_ ?_ ?_ ?_ ?_ ?_ ?_ ?_ ?_ ?_ ?_ ?_ ?_ ?_ ?_ (λk e1 e2 e3 e4 e5 e6 e7 e8 e9 e10 e11 e12 e13 e14 e15 e16 e17 e18 e19 e20 e21 e22 e23=> ?_)
    all_goals
      intro ha hrd
      unfold FR
      simp(decide:=true)only[DT,or_false,or_true,true_or,false_or,if_true,if_false,Bool.and_eq_true]at ha
      simp(decide:=true)only[Dm.J1,Dm.J2,Dm.J3,beq_self_eq_true,beq_iff_eq,if_true,if_false,or_false,or_true,true_or,false_or,Bool.false_eq_true]
    all_goals first
      |done
      | (rw[gT,Option.bind_some];rfl)
      | (rw[Co (l:=s.AG) (by rw[l1];exact ha.1),Option.bind_some];rfl)
      | (rw[Co (l:=s.AG) (by rw[l1];exact ha.1),Option.bind_some,BT (by omega),fS _ (by simp;omega),Option.bind_some,Vy _ hsl,Option.bind_some];rfl)
      | (rw[Co (l:=s.AG) (by rw[l1];exact ha.1),Option.bind_some]
         unfold F6
         have hne:(ix s.AG o).BW≠[]:=by
           intro h
           simp(decide:=true)only[Q3,if_true,if_false,or_false,or_true,true_or,false_or,h,List.contains_nil,Bool.and_false,Bool.false_eq_true]at hrd
         rw[if_pos ⟨hne,by omega⟩,Option.bind_some];rfl)
      | (rw[Co (l:=wv.Au) ha,Option.bind_some,Co (l:=s.AG) (by rw[l1];exact Gr hf ha),Option.bind_some,gT,Option.bind_some,gTT,Option.bind_some];simp only[List.set_set];rfl)
      | (rw[hN,Option.bind_some];simp only;by_cases hW:CP o 0 s.AA=[]<;>simp only[hW,if_true,if_false]<;>rfl)
      | (rw[hA,Option.bind_some];done)
      | (rw[Co (l:=s.AA) (by rw[l3];exact ha),Option.bind_some];rfl)
      | (rw[Co (l:=s.Ce) (by rw[l2];exact ha),Option.bind_some];done)
      |rfl
      | (exfalso;revert ha;simp only[e1,e2,e3,e4,e5,e6,e7,e8,e9,e10,e11,e12,e13,e14,e15,e16,e17,e18,e19,e20,e21,e22,e23,if_false,or_self,Bool.false_eq_true,imp_self];done)
      |skip
theorem sN (o:Int) (suf:List AD):∀(pre:List AD),(CP o pre.length suf).foldl (λT (u:Int)=>T.set u.toNat (OI (ix T u))) (pre++suf)=pre++suf.map (HE o):=by
 induction suf with
 |nil=>intro pre;simp[CP]
 |cons x r ih=>
  intro pre
  unfold CP
  have hix:ix (pre++x::r) ((pre.length:Nat):Int)=x:=by
   unfold ix;rw[Int.toNat_natCast,List.getElem?_append_right (Nat.le_refl _)];simp
  have ihp:=λy=>ih (pre++[y])
  simp only[List.length_append,List.length_cons,List.length_nil,Nat.zero_add,List.append_assoc,List.singleton_append]at ihp
  cases hw:Hx x o with
  |true=>
   rw[if_pos rfl,List.foldl_cons,hix,Int.toNat_natCast,List.set_append_right _ _ (Nat.le_refl _),Nat.sub_self,List.set_cons_zero,ihp]
   simp[HE,hw]
  |false=>
   rw[if_neg (by simp),ihp]
   simp[HE,hw]
theorem Oz (W:List Int) (hl:W.length≤1000000):∀(n i:Nat) (s:AO),i≤W.length->W.length<n+i->(∀u∈W,Fe u s.AA.length=true)->
 Cj.Ac W n s (i:Int)=some (⟨s.AG,s.Tx,s.Ce,(W.drop i).foldl (λT (u:Int)=>T.set u.toNat (OI (ix T u))) s.AA⟩,(W.length:Int),true)
 |0,i,s,h1,h2,_=>by omega
 |n+1,i,s,h1,h2,h3=>by
  unfold Cj.Ac Cj.L1
  by_cases hi:i<W.length
  . rw[BI (by omega),DG hi,Option.bind_some,Co (h3 _ (List.getElem_mem hi)),Option.bind_some,A0 (by omega),Oz W hl n (i+1) _ (by omega) (by omega) (by simpa using h3),EM hi,List.foldl_cons]
    rfl
  . rw[Ab (by omega),Ey hi];rfl
theorem O2 (wv:AB) (hw:Small wv) (s:AO) (hr:RB 1000000 s) (t o wake:Int):∀k,Cj wv s t k o wake=some (KC wv s t k o wake):=by
 intro k
 unfold Cj KC
 rw[Ms wv hw s (hr.mono (by omega)),Option.bind_some]
 cases he:Di wv s t k o with
 |false=>rfl
 |true=>
  have he':=he
  unfold Di at he'
  simp only[Bool.and_eq_true]at he'
  obtain⟨hf,ht,ha,hrd⟩:=he'
  obtain⟨l1,l2,l3⟩:=Gq hf
  have hfi:=P4.of hw hf hr
  have ht':Fe t s.AA.length=true:=by rw[l3];exact ht
  have gT:gt s.AA t=some (ix s.AA t):=Co ht'
  have gTT:=RY ht'
  have hix:=hr.ix o
  have hW:=Ud s o hfi.t
  have hWl:=Ro o s.AA 0
  have hWt:=hfi.t
  rw[XU s hfi,Option.bind_some,if_neg (by simp)]
  clear he
  revert ha hrd
  revert k
  refine kinds ?_ ?_ ?_ ?_ ?_ ?_ ?_ ?_ ?_ ?_ ?_ ?_ ?_ ?_ ?_ ?_ ?_ ?_ ?_ ?_ ?_ ?_ ?_ (λk e1 e2 e3 e4 e5 e6 e7 e8 e9 e10 e11 e12 e13 e14 e15 e16 e17 e18 e19 e20 e21 e22 e23=> ?_)
  all_goals
   intro ha hrd
   unfold FR
   simp(decide:=true)only[DT,or_false,or_true,true_or,false_or,if_true,if_false,Bool.and_eq_true]at ha
   simp(decide:=true)only[Cj.J1,Cj.J2,Cj.J5,beq_self_eq_true,beq_iff_eq,if_true,if_false,or_false,or_true,true_or,false_or,Bool.false_eq_true]
  all_goals first
   |done
   | (rw[gT,Option.bind_some];rfl)
   | (rw[Co (l:=s.AG) (by rw[l1];exact ha.1),Option.bind_some];rfl)
   | (rw[Co (l:=s.AG) (by rw[l1];exact ha.1),Option.bind_some,Uc _ _ (by simp;omega),Option.bind_some];rfl)
   | (rw[Co (l:=s.AG) (by rw[l1];exact ha.1),Option.bind_some,XN _ _ (by omega),Option.bind_some];rfl)
   | (rw[Co (l:=wv.Au) ha,Option.bind_some,Co (l:=s.AG) (by rw[l1];exact Gr hf ha),Option.bind_some,gT,Option.bind_some,gTT,Option.bind_some];simp only[List.set_set];rfl)
   | (rw[Co (l:=s.AA) (by rw[l3];exact ha),Option.bind_some];rfl)
   | (rw[Co (l:=s.Ce) (by rw[l2];exact ha),Option.bind_some];done)
   |rfl
   | (exfalso;revert ha;simp only[e1,e2,e3,e4,e5,e6,e7,e8,e9,e10,e11,e12,e13,e14,e15,e16,e17,e18,e19,e20,e21,e22,e23,if_false,or_self,Bool.false_eq_true,imp_self];done)
   |skip
  . -- a notification
    rw[hW,Option.bind_some]
    cases hWW:CP o 0 s.AA with
    |nil=>rfl
    |cons w r=>
     have hlen:(w::r).length≤1000:=by rw[← hWW];omega
     have hm:∀u,u∈w::r->Fe u s.AA.length=true:=λu hu=>by
      have:=Iw o s.AA 0 u (by rw[hWW];exact hu)
      exact EX.2 (by simpa using this)
     have h0:gt (w::r) 0=some w:=rfl
     rw[BI (by simp only[List.length_cons];omega),h0,Option.bind_some,Zu _ _ (by omega),Option.bind_some]
     unfold Cj.J3 Cj.J5 Eu
     rw[if_neg (c:=w::r=[]) (by simp),if_neg (c:=w::r=[]) (by simp)]
     cases hc:(w::r).contains wake with
     |true=>
      rw[if_pos rfl,Co (hm wake (by simpa using hc)),Option.bind_some];rfl
     |false=>
      rw[if_neg (by simp),Co (hm w (List.mem_cons_self ..)),Option.bind_some];rfl
  . -- of all
    have hm:∀u,u∈CP o 0 s.AA->Fe u s.AA.length=true:=λu hu=>by
     have:=Iw o s.AA 0 u hu
     exact EX.2 (by simpa using this)
    have h1:=Oz (CP o 0 s.AA) (by omega) Bo 0 s (by omega) (by have:=Bx;omega) hm
    have h2:=sN o s.AA []
    simp only[List.length_nil,List.nil_append]at h2
    rw[List.drop_zero,h2]at h1
    rw[hW,Option.bind_some]
    exact h1
instance:Inhabited AO:=⟨Wl⟩
def QZ:AM:=⟨Wl,[],[],[]⟩
def UP (ev:AN):Prop:=ev.Dy.length<4611686018427387904/\ev.Db.length<4611686018427387904
def MB (wv:AB) (ev:AN):Bool:=if ev.Kind=1∨ev.Kind=2 then ev.Site== -1 else Fe ev.Site wv.BA.length&&(ix wv.BA ev.Site).Thread==ev.Thread
def HG (c:Int):Int->List Int->Bool
 |_,[]=>true
 |last,x::r=>decide (last<x)&&(decide (x<c)&&HG c x r)
def QY (wv:AB) (ev:AN):Bool:=if ev.Kind=3∨ev.Kind=4 then(ix wv.Cells ev.Obj).Bn != 0 else false
def Fk (wv:AB) (s:AM) (ev:AN):Bool:=
 ((ev.Dy.isEmpty||(ev.Kind==5||QY wv ev))&&HG (ix s.Count ev.Thread) 0 ev.Dy)&&((ev.Db.isEmpty||(ev.Kind==4||ev.Kind==22))&&HG (ix s.Count ev.Thread) 0 ev.Db)
def IV (s:AM) (ev:AN):Bool:=
 if ev.Kind=3 then ev.Value==ix s.Cells ev.Obj
 else if ev.Kind=23 then ev.Value==ix s.AH ev.Obj
 else if ev.Kind=5 then ev.Value==0||ev.Value==1
 else if ev.Kind=4∨ev.Kind=22 then true
 else if ev.Kind=18 then(CP ev.Obj 0 s.Sync.AA).contains ev.Value||((CP ev.Obj 0 s.Sync.AA).isEmpty&&ev.Value== -1)
 else if ev.Kind=19 then ev.Value==((CP ev.Obj 0 s.Sync.AA).length:Int)
 else ev.Value==0
theorem ZQ (wv:AB) (ev:AN):CW wv ev=some (MB wv ev):=by
 unfold CW CW.J1 MB
 by_cases h1:ev.Kind=1
 . simp[h1]
 . by_cases h2:ev.Kind=2
   . simp[h2]
   . have e1:(ev.Kind==1)=false:=by simpa using h1
     have e2:(ev.Kind==2)=false:=by simpa using h2
     rw[e1,e2,if_neg (c:=ev.Kind=1∨ev.Kind=2) (by simp[h1,h2])]
     simp only[Bool.false_eq_true,if_false]
     unfold CW.J2
     by_cases a1:ev.Site≥0
     . by_cases a2:ev.Site<(wv.BA.length:Int)
       . have hi:Fe ev.Site wv.BA.length=true:=EX.2 ⟨a1,a2⟩
         rw[BI a1,BI a2,Co hi,Option.bind_some,hi];rfl
       . have:Fe ev.Site wv.BA.length=false:=by simp[Fe];omega
         rw[BI a1,Ab a2,this];rfl
     . have:Fe ev.Site wv.BA.length=false:=by simp[Fe];omega
       rw[Ab a1,this];rfl
theorem dec.L2 (L1:Int->Option Bool) (ev:AN) (l:List Int) (s:AM) (t:Int) (hc:gt s.Count ev.Thread=some (ix s.Count ev.Thread)) (hl:l.length<4611686018427387904):∀(n i:Nat) (last:Int),i≤l.length->l.length<n+i->
 AR.Da L1 ev l s t n last (i:Int)=if HG (ix s.Count ev.Thread) last (l.drop i)=true then AR.J6 L1 t else some false
 |0,i,last,h1,h2=>by omega
 |n+1,i,last,h1,h2=>by
  unfold AR.Da AR.L2
  by_cases hi:i<l.length
  . unfold AR.J5
    rw[BI (by omega),DG hi,Option.bind_some,hc,EM hi,A0 (by omega),dec.L2 L1 ev l s t hc hl n (i+1) _ (by omega) (by omega)]
    generalize l[i]=x
    rw[HG]
    by_cases a1:x≤last
    . have:¬last<x:=by omega
      simp[a1,this]
    . have b1:last<x:=by omega
      by_cases a2:x≥ix s.Count ev.Thread
      . have:¬x<ix s.Count ev.Thread:=by omega
        simp[a1,b1,a2,this]
      . have:x<ix s.Count ev.Thread:=by omega
        simp[a1,b1,a2,this]
  . rw[Ab (by omega),Ey hi]
    simp[HG]
theorem Ur:Bo=(Bo-3)+3:=rfl
theorem kT.J4 (L1:Int->Option Bool) (ev:AN) (l:List Int) (s:AM) (t:Int) (hc:gt s.Count ev.Thread=some (ix s.Count ev.Thread)) (hl:l.length<4611686018427387904) (b:Bool):
 AR.J4 L1 ev l s t b=if(!b&&HG (ix s.Count ev.Thread) 0 l)=true then AR.J6 L1 t else some false:=by
 unfold AR.J4
 cases b with
 |true=>simp
 |false=>
  have:=dec.L2 L1 ev l s t hc hl Bo 0 0 (by omega) (by have:=Bx;omega)
  rw[List.drop_zero]at this
  simpa using this
theorem kT.J2 (wv:AB) (s:AM) (ev:AN) (he:UP ev) (hc:gt s.Count ev.Thread=some (ix s.Count ev.Thread)) (a b:Bool):
 AR.J2 ev s a b=some (((ev.Dy.isEmpty||a)&&HG (ix s.Count ev.Thread) 0 ev.Dy)&&((ev.Db.isEmpty||b)&&HG (ix s.Count ev.Thread) 0 ev.Db)):=by
 unfold AR.J2
 rw[Ur]
 generalize Bo-3=m
 have r3:AR.Ac a b ev s (m+1) 2=some true:=by
  unfold AR.Ac AR.L1;rfl
 have hJ3:∀(L1:Int->Option Bool) (t:Int) (l:List Int) (c:Bool),l.length<4611686018427387904->(t=0/\c=a∨t=1/\c=b)->AR.J3 L1 a b ev s t l=if((l.isEmpty||c)&&HG (ix s.Count ev.Thread) 0 l)=true then AR.J6 L1 t else some false:=by
  intro L1 t l c hl hx
  unfold AR.J3
  rw[kT.J4 _ _ _ _ _ hc hl,kT.J4 _ _ _ _ _ hc hl,kT.J4 _ _ _ _ _ hc hl]
  cases l with
  |nil=>simp
  |cons x r=>
   rw[BI (by simp only[List.length_cons];omega)]
   rcases hx with⟨rfl,rfl⟩|⟨rfl,rfl⟩<;>simp
 have r2:AR.Ac a b ev s (m+2) 1=some ((ev.Db.isEmpty||b)&&HG (ix s.Count ev.Thread) 0 ev.Db):=by
  unfold AR.Ac AR.L1
  rw[BI (by decide),if_neg (by decide),if_pos (by decide),hJ3 _ 1 ev.Db b he.2 (.inr ⟨rfl,rfl⟩)]
  unfold AR.J6
  rw[show BE (1+1)=2 from rfl,r3]
  cases((ev.Db.isEmpty||b)&&HG (ix s.Count ev.Thread) 0 ev.Db)<;>rfl
 unfold AR.Ac AR.L1
 rw[BI (by decide),if_pos (by decide),hJ3 _ 0 ev.Dy a he.1 (.inl ⟨rfl,rfl⟩)]
 unfold AR.J6
 rw[show BE (0+1)=1 from rfl,r2]
 cases((ev.Dy.isEmpty||a)&&HG (ix s.Count ev.Thread) 0 ev.Dy)<;>simp
theorem Rz (wv:AB) (s:AM) (ev:AN) (he:UP ev) (hc:gt s.Count ev.Thread=some (ix s.Count ev.Thread)) (hcell:ev.Kind=3∨ev.Kind=4->Fe ev.Obj wv.Cells.length=true):AR wv s ev=some (Fk wv s ev):=by
 have hJ1:∀e,e=QY wv ev->AR.J1 ev s e=some (Fk wv s ev):=by
  intro e h
  unfold AR.J1 Fk
  rw[kT.J2 wv s ev he hc,kT.J2 wv s ev he hc,kT.J2 wv s ev he hc,kT.J2 wv s ev he hc,h]
  by_cases h5:ev.Kind=5
  . simp[h5]
  . by_cases h4:ev.Kind=4
    . simp[h4]
    . have e5:(ev.Kind==5)=false:=by simpa using h5
      have e4:(ev.Kind==4)=false:=by simpa using h4
      simp[e5,e4]
 unfold AR
 by_cases h3:ev.Kind=3
 . rw[if_pos (by simp[h3]),Co (hcell (.inl h3)),Option.bind_some]
   exact hJ1 _ (by simp[QY,h3])
 . rw[if_neg (by simpa using h3)]
   by_cases h4:ev.Kind=4
   . rw[if_pos (by simp[h4]),Co (hcell (.inr h4)),Option.bind_some]
     exact hJ1 _ (by simp[QY,h4])
   . rw[if_neg (by simpa using h4)]
     exact hJ1 _ (by simp[QY,h3,h4])
theorem Rj.L1 (ev:AN) (s:AM) (hl:s.Sync.AA.length≤1000):∀(n i w:Nat) (b:Bool),i≤s.Sync.AA.length->s.Sync.AA.length<n+i->w≤i->
 Am.Ac ev s n (w:Int) b (i:Int)=some ((b||(CP ev.Obj i (s.Sync.AA.drop i)).contains ev.Value)||((w+(CP ev.Obj i (s.Sync.AA.drop i)).length==0)&&ev.Value== -1))
 |0,i,w,b,h1,h2,h3=>by omega
 |n+1,i,w,b,h1,h2,h3=>by
  unfold Am.Ac Am.L1
  by_cases hi:i<s.Sync.AA.length
  . unfold Am.J3 Am.J4
    rw[BI (by omega),DG hi,Option.bind_some,EM hi,CP,A0 (i:=i) (by omega),A0 (i:=w) (by omega)]
    have ih:=λ(w':Nat) b' h=>Rj.L1 ev s hl n (i+1) w' b' (by omega) (by omega) h
    rw[ih (w+1) true (by omega),ih (w+1) (ev.Value==(i:Int)) (by omega),ih w b (by omega)]
    unfold Hx
    have e0:∀m:Nat,(w+1+m==0)=false:=λm=>by simp
    have e2:∀m:Nat,(w+(m+1)==0)=false:=λm=>by simp
    have e3:(ev.Value==(i:Int))=decide (ev.Value=(i:Int)):=rfl
    cases(s.Sync.AA[i].Status==3)<;>cases(s.Sync.AA[i].Ef==ev.Obj)<;>cases b<;>simp[e0,e2,e3]
  . rw[Ab (by omega),Ey hi]
    unfold Am.J5 Am.J6
    have:((w:Int)==0)=(w==0):=by rw[Bool.eq_iff_iff,beq_iff_eq,beq_iff_eq];omega
    rw[this]
    simp only[CP,List.contains_nil,List.length_nil,Nat.add_zero,Bool.or_false]
    cases b<;>cases(w==0)<;>simp
theorem Rj.L2 (ev:AN) (s:AM) (hl:s.Sync.AA.length≤1000):∀(n i w:Nat),i≤s.Sync.AA.length->s.Sync.AA.length<n+i->w≤i->
 Am.Da ev s n (w:Int) (i:Int)=some (ev.Value==((w+(CP ev.Obj i (s.Sync.AA.drop i)).length:Nat):Int))
 |0,i,w,h1,h2,h3=>by omega
 |n+1,i,w,h1,h2,h3=>by
  unfold Am.Da Am.L2
  by_cases hi:i<s.Sync.AA.length
  . unfold Am.J7 Am.J8
    rw[BI (by omega),DG hi,Option.bind_some,EM hi,CP,A0 (i:=i) (by omega),A0 (i:=w) (by omega)]
    have ih:=λ(w':Nat) h=>Rj.L2 ev s hl n (i+1) w' (by omega) (by omega) h
    rw[ih (w+1) (by omega),ih w (by omega)]
    unfold Hx
    have e1:∀m:Nat,w+1+m=w+(m+1):=λm=>by omega
    cases(s.Sync.AA[i].Status==3)<;>cases(s.Sync.AA[i].Ef==ev.Obj)<;>simp[e1]
  . rw[Ab (by omega),Ey hi]
    simp[Am.J9,CP]
theorem VG {α:Type} (l:List α):(0+l.length==0)=l.isEmpty:=by cases l<;>simp
theorem Zk (s:AM) (ev:AN) (hl:s.Sync.AA.length≤1000) (hcell:ev.Kind=3->Fe ev.Obj s.Cells.length=true) (hfut:ev.Kind=23->Fe ev.Obj s.AH.length=true):Am s ev=some (IV s ev):=by
 have h1:=Rj.L1 ev s hl Bo 0 0 false (by omega) (by have:=Bx;omega) (by omega)
 have h2:=Rj.L2 ev s hl Bo 0 0 (by omega) (by have:=Bx;omega) (by omega)
 rw[List.drop_zero,VG]at h1
 rw[List.drop_zero,Nat.zero_add]at h2
 simp only[Int.natCast_zero,Bool.false_or]at h1 h2
 unfold Am Am.J1 Am.J2 Am.Oj IV
 by_cases k3:ev.Kind=3
 . rw[if_pos (by simp[k3]),Co (hcell k3),Option.bind_some,if_pos k3]
 . rw[if_neg (by simpa using k3),if_neg k3]
   by_cases k23:ev.Kind=23
   . rw[if_pos (by simp[k23]),Co (hfut k23),Option.bind_some,if_pos k23]
   . rw[if_neg (by simpa using k23),if_neg k23]
     by_cases k5:ev.Kind=5
     . rw[if_pos (by simp[k5]),if_pos k5]
       cases(ev.Value==0)<;>rfl
     . rw[if_neg (by simpa using k5),if_neg k5]
       by_cases k4:ev.Kind=4
       . simp[k4]
       . have e4:(ev.Kind==4)=false:=by simpa using k4
         rw[e4,if_neg (by simp)]
         by_cases k22:ev.Kind=22
         . simp[k22]
         . have e22:(ev.Kind==22)=false:=by simpa using k22
           rw[e22,if_neg (c:=ev.Kind=4∨ev.Kind=22) (by simp[k4,k22])]
           simp only[Bool.false_eq_true,if_false]
           by_cases k18:ev.Kind=18
           . rw[if_pos (by simp[k18]),if_pos k18];exact h1
           . rw[if_neg (by simpa using k18),if_neg k18]
             by_cases k19:ev.Kind=19
             . rw[if_pos (by simp[k19]),if_pos k19];exact h2
             . rw[if_neg (by simpa using k19),if_neg k19]
def KY (wv:AB) (s:AM) (ev:AN):AM:=
  ⟨(FR wv s.Sync ev.Thread ev.Kind ev.Obj (if ev.Kind=18 then ev.Value else -1)).1,
   if ev.Kind=4 then s.Cells.set ev.Obj.toNat ev.Value else s.Cells,
   if ev.Kind=22 then s.AH.set ev.Obj.toNat ev.Value else s.AH,
   s.Count.set ev.Thread.toNat (BE (ix s.Count ev.Thread+1))⟩
def MD (wv:AB) (s:AM) (ev:AN):Bool:=
 P3 wv s&&(Fe ev.Thread wv.AA.length&&(Di wv s.Sync ev.Thread ev.Kind ev.Obj&&(MB wv ev&&(Fk wv s ev&&IV s ev))))
def X7 (wv:AB) (s:AM) (ev:AN):AM×Bool:=if MD wv s ev=true then(KY wv s ev,true)else(QZ,false)
theorem XR {wv:AB} {s:AM} (h:P3 wv s=true):Hn wv s.Sync=true/\s.Cells.length=wv.Cells.length/\s.AH.length=wv.AH.length/\s.Count.length=wv.AA.length:=by
 unfold P3 at h
 simpa only[Bool.and_eq_true,beq_iff_eq]using h
theorem Rm {wv:AB} {k o:Int} (h:DT wv k o=true):1≤k/\k≤23:=by
 unfold DT at h
 repeat' split at h
 all_goals first|omega|cases h
theorem fT (wv:AB) (hw:Small wv) (s:AM) (hr:RB 1000000 s.Sync) (ev:AN) (he:UP ev):BZ wv s ev=some (X7 wv s ev):=by
 have hno:∀b,b=true->BZ.J1 ev s wv b=some (QZ,false):=by rintro b rfl;rfl
 have hno2:∀b,b=true->BZ.J2 ev s wv b=some (QZ,false):=by rintro b rfl;rfl
 unfold BZ X7 MD
 rw[Mp wv hw,Option.bind_some]
 cases hf:P3 wv s with
 |false=>rfl
 |true=>
  rw[if_neg (c:=(!true)=true) (by simp),Bool.true_and]
  cases ht:Fe ev.Thread wv.AA.length with
  |false=>
   rw[Bool.false_and,if_neg (c:=false=true) (by simp)]
   by_cases a1:ev.Thread<0
   . rw[BI a1,hno _ rfl]
   . rw[Ab a1]
     by_cases a2:ev.Thread≥(wv.AA.length:Int)
     . rw[BI a2,hno _ rfl]
     . exfalso
       have:=EX.2 ⟨Int.not_lt.1 a1,Int.not_le.1 a2⟩
       rw[ht]at this;cases this
  |true=>
   obtain⟨b1,b2⟩:=EX.1 ht
   rw[Ab (by omega),Ab (by omega),Bool.true_and]
   obtain⟨hfs,c1,c2,c3⟩:=XR hf
   have hw1:=hw.c;have hw2:=hw.f;have hw3:=hw.t
   have hfi:=P4.of hw hfs hr
   have hEn:=Ib wv hw s.Sync (hr.mono (by omega)) ev.Thread ev.Obj ev.Kind
   cases hen:Di wv s.Sync ev.Thread ev.Kind ev.Obj with
   |false=>
    rw[Bool.false_and,if_neg (c:=false=true) (by simp)]
    by_cases a1:ev.Kind<1
    . rw[BI a1,hno _ rfl]
    . rw[Ab a1]
      unfold BZ.J1
      by_cases a2:ev.Kind>23
      . rw[if_pos (by simpa using a2)];rfl
      . rw[if_neg (by simpa using a2),hEn,hen];rfl
   |true=>
    have hen':=hen
    unfold Di at hen'
    simp only[Bool.and_eq_true]at hen'
    obtain⟨_,_,ha,_⟩:=hen'
    obtain⟨k1,k2⟩:=Rm ha
    have hc:gt s.Count ev.Thread=some (ix s.Count ev.Thread):=Co (by rw[c3];exact ht)
    have hcellw:ev.Kind=3∨ev.Kind=4->Fe ev.Obj wv.Cells.length=true:=by
     rintro(h|h)<;>simpa(decide:=true) [DT,h]using ha
    have hfut:ev.Kind=22∨ev.Kind=23->Fe ev.Obj wv.AH.length=true:=by
     rintro(h|h)<;>simpa(decide:=true) [DT,h]using ha
    rw[Ab (by omega)]
    unfold BZ.J1
    rw[if_neg (by simp;omega),hEn,hen,Option.bind_some,if_neg (c:=(!true)=true) (by simp),ZQ,Option.bind_some,Bool.true_and]
    cases hp:MB wv ev with
    |false=>rfl
    |true=>
     rw[if_neg (c:=(!true)=true) (by simp),Rz wv s ev he hc hcellw,Option.bind_some,Bool.true_and]
     cases hd:Fk wv s ev with
     |false=>rfl
     |true=>
      rw[if_neg (c:=(!true)=true) (by simp),Zk s ev hfi.t (λh=>by rw[c1];exact hcellw (.inl h)) (λh=>by rw[c2];exact hfut (.inr h)),Option.bind_some,Bool.true_and]
      cases hv:IV s ev with
      |false=>rfl
      |true=>
       rw[if_pos rfl]
       unfold BZ.J2
       have hJ3:∀wake,wake=(if ev.Kind=18 then ev.Value else -1)->BZ.J3 ev s wv wake=some (KY wv s ev,true):=by
        rintro wake rfl
        unfold BZ.J3
        rw[PO wv hw s.Sync hr,Option.bind_some]
        unfold KC
        rw[hen,if_pos rfl,if_neg (by simp)]
        unfold FO slices_Clone_int
        rw[BT (by omega),Option.bind_some,BT (by omega),Option.bind_some,BT (by omega),Option.bind_some]
        unfold BZ.J4 KY
        simp only[hc,Option.bind_some]
        by_cases k4:ev.Kind=4
        . rw[if_pos (by simp[k4]),Co (by rw[c1];exact hcellw (.inr k4)),Option.bind_some];simp[k4]
        . rw[if_neg (by simpa using k4)]
          by_cases k22:ev.Kind=22
          . rw[if_pos (by simp[k22]),Co (by rw[c2];exact hfut (.inl k22)),Option.bind_some];simp[k22]
          . rw[if_neg (by simpa using k22)];simp[k4,k22]
       rw[if_neg (by simp)]
       by_cases k18:ev.Kind=18
       . rw[if_pos (by simp[k18])];exact hJ3 _ (by rw[if_pos k18])
       . rw[if_neg (by simpa using k18)];exact hJ3 _ (by rw[if_neg k18])
theorem RB.N9 {N M:Nat} {s:AO} (h:RB N s) (hM:N≤M) (i:Int) (f:AY->AY) (hf:(f (Abs.ix s.AG i)).BW.length≤M):RB M (Abs.N9 s i f):=by
 intro x hx
 rcases List.mem_or_eq_of_mem_set hx with hx|rfl
 . exact Nat.le_trans (h x hx) hM
 . exact hf
theorem RB.apply {N:Nat} {s:AO} (h:RB N s) (wv:AB) (t k o wake:Int):RB (N+1) (FR wv s t k o wake).1:=by
 have h1:RB (N+1) s:=h.mono (by omega)
 have hi:=λi=>Nat.le_succ_of_le (h.ix i)
 have key:∀(p:Prop) [Decidable p] (a b:AO×Int),RB (N+1) a.1->RB (N+1) b.1->RB (N+1) (if p then a else b).1:=by
  intro p _ a b ha hb;split<;>assumption
 unfold FR
 repeat' refine key _ _ _ ?_ ?_
 all_goals first
  |exact h1
  |exact h.N9 (by omega) _ _ (hi _)
  | (refine h.N9 (by omega) _ _ ?_;have:=UD ((Abs.ix s.AG o).BW++[t]);have:=h.ix o;simp at *;omega)
  | (refine h.N9 (by omega) _ _ (Nat.le_trans (List.length_filter_le _ _) (hi _)))
  |exact h.N9 (by omega) (Abs.ix wv.Au o).Mutex (λx=>⟨-1,x.BW⟩) (hi _)
  |exact h.N9 (by omega) (Abs.ix wv.Au o).Mutex (λx=>⟨t,x.BW⟩) (hi _)
  | (by_cases hW:CP o 0 s.AA=[]<;>simp only[hW,if_true,if_false]<;>exact h1)
theorem RB.start (wv:AB):RB 0 (IA wv):=by
 intro x hx
 have:=List.eq_of_mem_replicate hx
 subst this;simp
def fK (e:AN):Bool:=e.Kind==3||e.Kind==23
def SX (l:List AN) (t:Int):List Bool:=(l.filter λe=>e.Thread==t).map fK
def LB (reads:List Bool) (k:Int):Bool:=Fe k reads.length&&ix reads k
def Ob (pre:List AN) (ev:AN):Bool:=ev.Dy.all (LB (SX pre ev.Thread))&&ev.Db.all (LB (SX pre ev.Thread))
theorem Uf.L2 (L1:Int->Option Bool) (l:List Int) (reads:List Bool) (t:Int) (hl:l.length<4611686018427387904):∀(n i:Nat),i≤l.length->l.length<n+i->Ae.Da L1 l reads t n (i:Int)=if(l.drop i).all (LB reads)=true then Ae.J3 L1 t else some false
 |0,i,h1,h2=>by omega
 |n+1,i,h1,h2=>by
  unfold Ae.Da Ae.L2
  by_cases hi:i<l.length
  . unfold Ae.J2
    rw[BI (by omega),DG hi,Option.bind_some,EM hi,A0 (by omega),Uf.L2 L1 l reads t hl n (i+1) (by omega) (by omega),List.all_cons]
    generalize l[i]=x
    generalize (l.drop (i+1)).all (LB reads)=q
    unfold LB
    by_cases a1:x<0
    . have:Fe x reads.length=false:=by simp[Fe];omega
      simp[a1,this]
    . by_cases a2:x≥(reads.length:Int)
      . have:Fe x reads.length=false:=by simp[Fe];omega
        simp[a1,a2,this]
      . have h:Fe x reads.length=true:=by simp[Fe];omega
        rw[Ab a1,Ab a2,Co h,Option.bind_some,h]
        cases ix reads x<;>simp
  . rw[Ab (by omega),Ey hi];simp
theorem Ug (reads:List Bool) (ev:AN) (he:UP ev):Ae reads ev=some (ev.Dy.all (LB reads)&&ev.Db.all (LB reads)):=by
 unfold Ae
 have hb:=Bx
 have hJ1:∀L1 t l,l.length<4611686018427387904->Ae.J1 L1 reads t l=if l.all (LB reads)=true then Ae.J3 L1 t else some false:=by
  intro L1 t l hl
  have:=Uf.L2 L1 l reads t hl Bo 0 (by omega) (by omega)
  rw[List.drop_zero]at this
  exact this
 rw[Ur]
 generalize Bo-3=m
 have r3:Ae.Ac ev reads (m+1) 2=some true:=by
  unfold Ae.Ac Ae.L1;rfl
 have r2:Ae.Ac ev reads (m+2) 1=some (ev.Db.all (LB reads)):=by
  unfold Ae.Ac Ae.L1
  rw[BI (by decide),if_neg (by decide),if_pos (by decide),hJ1 _ _ _ he.2]
  unfold Ae.J3
  rw[show BE (1+1)=2 from rfl,r3]
  cases ev.Db.all (LB reads)<;>rfl
 unfold Ae.Ac Ae.L1
 rw[BI (by decide),if_pos (by decide),hJ1 _ _ _ he.1]
 unfold Ae.J3
 rw[show BE (0+1)=1 from rfl,r2]
 cases ev.Dy.all (LB reads)<;>simp
def TZ (x t:Int):Int->List AN->Bool
 |_,[]=>false
 |nv,e::r=>if e.Thread=t then(nv==x&&fK e)||TZ x t (nv+1) r else TZ x t nv r
theorem reads.L2 (L1:Int->Option Bool) (i:Nat) (k:Int) (l:List AN) (numbers:List Int) (t x:Int) (hi:i≤l.length) (hi':i≤1000000) (hx:gt numbers k=some x):∀(n j nv:Nat) (ok:Bool),j≤i->i<n+j->nv≤j->
 D1.Da L1 (i:Int) k l numbers t n (nv:Int) ok (j:Int)=D1.J3 L1 k (ok||TZ x t nv ((l.take i).drop j))
 |0,j,nv,ok,h1,h2,h3=>by omega
 |n+1,j,nv,ok,h1,h2,h3=>by
  unfold D1.Da D1.L2
  by_cases hj:j<i
  . have hj':j<(l.take i).length:=by simp;omega
    have ih:=λ(nv':Nat) ok' h=>reads.L2 L1 i k l numbers t x hi hi' hx n (j+1) nv' ok' (by omega) (by omega) h
    unfold D1.J1 D1.J2
    rw[BI (by omega),DG (by omega),Option.bind_some,EM hj',A0 (i:=j) (by omega),A0 (i:=nv) (by omega),hx,Option.bind_some,TZ]
    simp only[List.getElem_take,ih (nv+1) _ (by omega),ih nv _ (by omega),show((nv:Int)+1)=((nv+1:Nat):Int)from rfl]
    unfold fK
    by_cases ht:l[j].Thread=t
    . have e:(l[j].Thread != t)=false:=by simp[ht]
      rw[e,if_pos ht]
      cases ok<;>cases(((nv:Int)==x))<;>cases(l[j].Kind==3)<;>simp
    . have e:(l[j].Thread != t)=true:=by simpa using ht
      rw[e,if_neg ht];rfl
  . rw[Ab (by omega),List.drop_eq_nil_of_le (by simp;omega)]
    simp[TZ]
def Gf (wv:AB):List AN->AM->List AN->Int×Int
 |_,_,[]=>(0,0)
 |pre,s,x::r=>if(MD wv s x&&Ob pre x)=true then Gf wv (pre++[x]) (KY wv s x) r else((pre.length:Int),12)
def Rw (t:EJ):Int×Int:=if t.AX.length>400 then(0,2)else if DZ t.World=true then Gf t.World [] (Kt t.World) t.AX else(0,1)
theorem T3 {wv:AB} {s:AM} {x:AN} (h:MD wv s x=true):Fe x.Thread wv.AA.length=true:=by
 unfold MD at h
 simp only[Bool.and_eq_true]at h
 exact h.2.1
theorem T4 (l:List AN) (x:AN) (t:Int):SX (l++[x]) t=if x.Thread=t then SX l t++[fK x]else SX l t:=by
 unfold SX
 rw[List.filter_append,List.map_append]
 by_cases h:x.Thread=t<;>simp[h]
theorem XB (l:List AN) (t:Int):(SX l t).length≤l.length:=by
 unfold SX;rw[List.length_map];exact List.length_filter_le _ _
theorem P8 (t:EJ) (hw:Small t.World) (hE:∀e∈t.AX,UP e) (hl:t.AX.length≤400):∀(n i:Nat) (s:AM) (R:List (List Bool)),i≤t.AX.length->t.AX.length<n+i->RB i s.Sync->R.length=t.World.AA.length->(∀u:Nat,u<R.length->R[u]? =some (SX (t.AX.take i) (u:Int)))->
 BP.Ac t n s R (i:Int)=some (Gf t.World (t.AX.take i) s (t.AX.drop i))
 |0,i,s,R,h1,h2,_,_,_=>by omega
 |n+1,i,s,R,h1,h2,h3,h4,h5=>by
  unfold BP.Ac BP.L1
  by_cases hi:i<t.AX.length
  . have he:=hE _ (List.getElem_mem hi)
    rw[BI (by omega),DG hi,Option.bind_some,fT t.World hw s (h3.mono (by omega)) _ he,Option.bind_some,EM hi,Gf,List.length_take_of_le (by omega)]
    unfold X7
    cases hp:MD t.World s t.AX[i]with
    |false=>rfl
    |true=>
     rw[if_pos rfl,if_neg (c:=(!true)=true) (by simp),Bool.true_and]
     have ht:=T3 hp
     obtain⟨b1,b2⟩:=EX.1 ht
     have hu:t.AX[i].Thread.toNat<R.length:=by omega
     have hR:gt R t.AX[i].Thread=some (SX (t.AX.take i) t.AX[i].Thread):=by
      unfold gt
      rw[if_pos b1,h5 _ hu]
      congr 2;omega
     have hrl:=XB (t.AX.take i) t.AX[i].Thread
     rw[List.length_take_of_le (by omega)]at hrl
     rw[hR,Option.bind_some,Ug _ _ he,Option.bind_some]
     unfold BP.J1
     show(if(!(Ob (t.AX.take i) t.AX[i]))=true then _ else _)=_
     cases Ob (t.AX.take i) t.AX[i]with
     |false=>rfl
     |true=>
      rw[if_neg (c:=(!true)=true) (by simp),if_pos rfl,hR,Option.bind_some,BT (by omega),BT (by omega)]
      unfold BP.J2
      have hk:∀b,b=fK t.AX[i]->BP.Ac t n (KY t.World s t.AX[i]) (R.set t.AX[i].Thread.toNat (SX (t.AX.take i) t.AX[i].Thread++[b])) (BE ((i:Int)+1))=some (Gf t.World (t.AX.take i++[t.AX[i]]) (KY t.World s t.AX[i]) (t.AX.drop (i+1))):=by
       rintro b rfl
       rw[A0 (by omega),List.take_append_getElem hi]
       refine P8 t hw hE hl n (i+1) _ _ (by omega) (by omega) ?_ (by simpa using h4) ?_
       . exact h3.apply _ _ _ _ _
       . intro u hu'
         rw[← List.take_append_getElem hi,T4]
         have hu'':u<R.length:=by simpa using hu'
         by_cases hut:t.AX[i].Thread=(u:Int)
         . have:t.AX[i].Thread.toNat=u:=by omega
           rw[if_pos hut,this,List.getElem?_set_self hu'',hut]
         . have:t.AX[i].Thread.toNat≠u:=by omega
           rw[if_neg hut,List.getElem?_set_ne this,h5 u hu'']
      by_cases k3:t.AX[i].Kind=3
      . rw[if_pos (by simp[k3])];exact hk _ (by simp[fK,k3])
      . rw[if_neg (by simpa using k3)]
        exact hk _ (by simp[fK,show(t.AX[i].Kind==3)=false by simpa using k3])
  . rw[Ab (by omega),Ey hi];rfl
theorem Zo (t:EJ) (hE:∀e∈t.AX,UP e):BP t=some (Rw t):=by
 unfold BP Rw
 by_cases hl:t.AX.length>400
 . rw[BI (by omega),if_pos hl]
 . rw[Ab (by omega),if_neg hl,Rt,Option.bind_some]
   cases hv:DZ t.World with
   |false=>rfl
   |true=>
    have hw:=Fm hv
    have h3:=hw.t
    rw[if_neg (c:=(!true)=true) (by simp),Lk _ hw,Option.bind_some,if_pos ⟨by omega,by omega,Ba (by omega)⟩,if_pos rfl]
    have:=P8 t hw hE (by omega) Bo 0 (Kt t.World) (List.replicate t.World.AA.length []) (by omega) (by have:=Bx;omega) (RB.start _) (by simp) (by
     intro u hu
     simp at hu
     simp[hu,SX])
    rw[List.take_zero,List.drop_zero]at this
    exact this
theorem Um:E8=some true:=by decide +kernel
def TB (E:Int) (x:List Int):Prop:=x.Pairwise (· < ·)/\∀y∈x,0≤y/\y<E
theorem TB.len {E:Int} {x:List Int} (h:TB E x) (h0:0≤E):(x.length:Int)≤E:=by
 have key:∀(x:List Int) (a:Int),x.Pairwise (· < ·)->(∀y∈x,a≤y/\y<E)->a≤E->(x.length:Int)≤E-a:=by
  intro x
  induction x with
  |nil=>intro a _ _ h;simp;omega
  |cons y r ih=>
   intro a h1 h2 h3
   obtain⟨p1,p2⟩:=List.pairwise_cons.1 h1
   have hy:=h2 y List.mem_cons_self
   have:=ih (y+1) p2 (λz hz=>⟨p1 z hz,(h2 z (List.mem_cons_of_mem _ hz)).2⟩) (by omega)
   simp only[List.length_cons];omega
 have:=key x 0 h.1 h.2 h0
 omega
theorem TB.mono {E F:Int} {x:List Int} (h:TB E x) (hf:E≤F):TB F x:=⟨h.1,λy hy=>⟨(h.2 y hy).1,by have:=(h.2 y hy).2;omega⟩⟩
structure TH (E:Nat) (s:AE):Prop where
 r:s.CN.length≤100
 t:s.Bt.length≤100
 b:∀x∈s.Bt,TB s.AX x
 e:0≤s.AX/\s.AX≤E
theorem TH.zero (E:Nat):TH E ⟨0,[],[],0⟩:=⟨by simp,by simp,by simp,by simp,by simp⟩
theorem UU {E:Nat} {s:AE} (h:TH E s) (hE:E≤100000):Dq s=some s:=by
 have hr:=h.r;have ht:=h.t;have he:=h.e
 have key:B2 (Dq s) λr=>r=s:=by
  unfold Dq
  refine tC (Ba (by omega)) (My s.Bt.length (λi o=>o=⟨s.PC,s.CN,s.Bt.take i,s.AX⟩) (F:=λn o i=>Dq.Ac s n o i) (by omega) rfl λn i o hi ho k=> ?_)
  subst ho
  unfold Dq.Ac Dq.L1 Dq.J1
  refine tD (λ_=>XS (by omega) ?_) λ_=>tR (by rw[List.take_of_length_le (by omega)])
  have:=(h.b _ (List.getElem_mem (show i<s.Bt.length by omega))).len he.1
  exact tC (Ba (by omega)) (tC (Ba (by simp;omega)) (k _ (by omega) (by rw[List.take_append_getElem])))
 obtain⟨r,h1,rfl⟩:=key
 exact h1
theorem rg1 {i:AW} (h:i.Op=1):rg i=[i.A]:=by unfold rg AQ AQ.J1;simp[h]
theorem rg2 {i:AW} (h:i.Op=2):rg i=[i.A,i.B]:=by unfold rg AQ AQ.J1 AQ.J2;simp[h]
theorem rg3 {i:AW} (h:i.Op=3):rg i=[i.A,i.B]:=by unfold rg AQ AQ.J1 AQ.J2;simp[h]
theorem rg4 {i:AW} (h:i.Op=4):rg i=[i.A,i.B,i.C]:=by unfold rg AQ AQ.J1 AQ.J2;simp[h]
theorem rg6 {i:AW} (h:i.Op=6):rg i=[i.A]:=by unfold rg AQ AQ.J1;simp[h]
theorem rg7 {i:AW} (h:i.Op=7):rg i=[i.A,i.C]:=by unfold rg AQ AQ.J1 AQ.J2;simp[h]
theorem rg8 {i:AW} (h:i.Op=8):rg i=[i.B]:=by unfold rg AQ AQ.J1 AQ.J2 AQ.J3;simp[h]
theorem rg9 {i:AW} (h:i.Op=9):rg i=[i.B,i.C]:=by unfold rg AQ AQ.J1 AQ.J2 AQ.J3;simp[h]
theorem rg10 {i:AW} (h:i.Op=10):rg i=[i.A]:=by unfold rg AQ AQ.J1;simp[h]
theorem rg26 {i:AW} (h:i.Op=26):rg i=[i.B]:=by unfold rg AQ AQ.J1 AQ.J2 AQ.J3;simp[h]
theorem rg27 {i:AW} (h:i.Op=27):rg i=[i.A]:=by unfold rg AQ AQ.J1;simp[h]
theorem Nc (n:Int):TT (DN n):=by
 unfold DN DN.J1
 repeat' first|exact tR trivial|refine tI (λ_=> ?_) λ_=> ?_
theorem TV (b:Bool):TT (Cw b):=by
 unfold Cw
 exact tI (λ_=>tR trivial) λ_=>tR trivial
theorem YF (o a:Int):TT (Hg o a):=by
 unfold Hg
 repeat' first|exact tR trivial|refine GN (TV _) λ_=> ?_|refine tI (λ_=> ?_) λ_=> ?_
theorem Vx (o a b:Int):TT (EC o a b):=by
 unfold EC EC.J1 EC.J2
 repeat' first|exact tR trivial|refine GN (TV _) λ_=> ?_|refine tD (λ_=>tR trivial) λhb=>tC hb ?_|refine tI (λ_=> ?_) λ_=> ?_
theorem eV {E:Nat} {i:AW} {s:AE} {P:Int->Prop} (hs:TH E s) (hP:∀x∈s.Bt,∀k∈x,P k) (hE:E≤100000) (hl:s.Bt.length=s.CN.length) (ho:Vw i.Op=true):B2 (DE i s) λr=>r.2=true->(TH E r.1/\r.1.Bt.length=r.1.CN.length)/\r.1.AX=s.AX/\∀x∈r.1.Bt,∀k∈x,P k:=by
 have N:∀{x} {P:AE×Bool->Prop},B2 (some (x,false)) λr:AE×Bool=>r.2=true->P r:=tR λh=>by cases h
 have he:=hs.e;have hr:=hs.r;have ht:=hs.t
 have j3:∀v ok t,0≤i.A/\i.A<s.CN.length->TB s.AX t->(∀k∈t,P k)->B2 (DE.J3 i s v ok t) λr=>r.2=true->(TH E r.1/\r.1.Bt.length=r.1.CN.length)/\r.1.AX=s.AX/\∀x∈r.1.Bt,∀k∈x,P k:=by
  intro v ok t ha htb htp
  have:=htb.len he.1
  unfold DE.J3
  refine tC (Ba (by omega)) (tG ha λ_ _=>tG (by omega) λ_ _=>tR λ_=>⟨⟨⟨by simpa using hr,by simpa using ht,?_,he⟩,by simpa using hl⟩,rfl,?_⟩)
  . intro x hx
    rcases List.mem_or_eq_of_mem_set hx with hx|rfl
    . exact hs.b x hx
    . exact htb
  . intro x hx
    rcases List.mem_or_eq_of_mem_set hx with hx|rfl
    . exact hP x hx
    . exact htp
 have j2:(∀y∈rg i,0≤y/\y<s.CN.length)->B2 (DE.J2 i s) λr=>r.2=true->(TH E r.1/\r.1.Bt.length=r.1.CN.length)/\r.1.AX=s.AX/\∀x∈r.1.Bt,∀k∈x,P k:=by
  intro hg;unfold DE.J2
  refine tI (λ_=>tR λ_=>⟨⟨⟨hr,ht,hs.b,he⟩,hl⟩,rfl,hP⟩) λn5=>tI (λh1=> ?_) λn1=>tI (λh2=> ?_) λn2=>tI (λh3=> ?_) λn3=> ?_
  . simp only[rg1 (eq_of_beq h1),List.mem_singleton,forall_eq]at hg
    exact j3 _ _ _ hg ⟨List.Pairwise.nil,by simp⟩ (by simp)
  . simp only[rg2 (eq_of_beq h2),List.mem_cons,List.not_mem_nil,or_false,forall_eq_or_imp,forall_eq]at hg
    exact tG hg.2 λ_ _=>tG (by omega) λx hx=>j3 _ _ _ hg.1 (hs.b x hx) (hP x hx)
  . simp only[rg3 (eq_of_beq h3),List.mem_cons,List.not_mem_nil,or_false,forall_eq_or_imp,forall_eq]at hg
    exact GN (Nc _) λ_=>tG hg.2 λ_ _=>GN (YF _ _) λ_=>tG (by omega) λx hx=>j3 _ _ _ hg.1 (hs.b x hx) (hP x hx)
  . have h4:i.Op=4:=by simp[Vw]at ho n5 n1 n2 n3;omega
    simp only[rg4 h4,List.mem_cons,List.not_mem_nil,or_false,forall_eq_or_imp,forall_eq]at hg
    refine GN (Nc _) λ_=>tG hg.2.1 λ_ _=>tG hg.2.2 λ_ _=>GN (Vx _ _ _) λ_=>tG (by omega) λx hx=>tG (by omega) λy hy=> ?_
    have lx:=(hs.b x hx).len he.1;have ly:=(hs.b y hy).len he.1
    refine tE (Uc x y (by omega)) (j3 _ _ _ hg.1 ⟨OA _,λz hz=> ?_⟩ λz hz=> ?_)
    . rcases List.mem_append.1 ((OW _ _).1 hz)with hz|hz
      . exact(hs.b x hx).2 z hz
      . exact(hs.b y hy).2 z hz
    . rcases List.mem_append.1 ((OW _ _).1 hz)with hz|hz
      . exact hP x hx z hz
      . exact hP y hy z hz
 unfold DE
 refine tE (F8 i).1 (My (rg i).length (λj (_:Unit)=>∀y∈(rg i).take j,0≤y/\y<(s.CN.length:Int)) (s0:=()) (F:=λn _ j=>DE.Ac i s (rg i) n j) (by have:=(F8 i).2;omega) (by simp) λn j _ hj hs2 k=> ?_)
 unfold DE.Ac DE.L1 DE.J1
 refine tD (λ_=>XS (by omega) (tD (λ_=>tI (λ_=>N) λh=>by cases h) λ_=>tD (λ_=>N) λ_=>k () (by omega) (take_one (by omega) hs2 (by omega)))) λ_=>j2 (Rh (by omega) hs2)
def MA:AE:=⟨0,[],[],0⟩
theorem V6 {E:Nat} {c:Ak} {s:AE} {P:Int->Prop} (hs:TH E s) (hP:∀x∈s.Bt,∀k∈x,P k) (hE:E≤100000) (hc:c.B3.length≤8000000):B2 (CZ c s) λr=>TH E r.1/\(r.1=MA∨r.1.AX=s.AX/\∀x∈r.1.Bt,∀k∈x,P k):=by
 have Z:TH E MA/\(MA=MA∨MA.AX=s.AX/\∀x∈MA.Bt,∀k∈x,P k):=⟨TH.zero E,.inl rfl⟩
 have j1:∀b,(b=false->s.Bt.length=s.CN.length)->B2 (CZ.J1 c s b) λr=>TH E r.1/\(r.1=MA∨r.1.AX=s.AX/\∀x∈r.1.Bt,∀k∈x,P k):=by
  intro b hb;unfold CZ.J1
  refine tI (λ_=>tR Z) λh0=>tE (UU hs hE) (My (c.B3.length+1) (λ_ t=>(TH E t/\t.Bt.length=t.CN.length)/\t.AX=s.AX/\∀x∈t.Bt,∀k∈x,P k) (F:=λn s j=>CZ.Ac c n s j) (by omega) ⟨⟨hs,hb h0⟩,rfl,hP⟩ λn i t hi ht k=> ?_)
  unfold CZ.Ac CZ.L1 CZ.J2 CZ.J3
  refine tD (λ_=>tD (λ_=>tI (λ_=>tR Z) λh=>by cases h) λ_=>tD (λ_=>tR Z) λ_=>tG (by omega) λx _=>tE (P5 _) (tI (λ_=>tR ⟨ht.1.1,.inr ht.2⟩) λh=>tI (λ_=>tR Z) λ_=> ?_)) λ_=>tR Z
  exact tB (eV ht.1.1 ht.2.2 hE ht.1.2 (by simpa using h)) λv hv=>tI (λ_=>tR Z) λh=>k _ (by omega) (by have:=hv (by simpa using h);rw[ht.2.1]at this;exact this)
 unfold CZ
 refine tI (λ_=>j1 _ λh=>by cases h) λh=>j1 _ λh2=> ?_
 simp at h h2;omega
def Xt:List Iy:=[⟨⟨#[109]⟩,false⟩,⟨⟨#[110]⟩,false⟩,⟨⟨#[114]⟩,true⟩]
def W9:AB:=⟨Mx,[],[],[],[],[]⟩
structure WF (T:ByteArray->Prop) (w:AB):Prop where
 c:w.Cells=Mx
 l:w.AG=Xt
 d:w.Au=[⟨cN,0⟩]
 f:w.AH=[⟨#[102]⟩]
 t:∀s,T s->s∈w.AA
 n:w.AA.length≤4
structure GW (T:ByteArray->Prop) (g:Aw):Prop where
 w:WF T g.w
 l:g.locals=UR
theorem fG {w:AB} (h:w.Cells=Mx) (s:ByteArray):Bp w s=Bp W9 s:=by
 unfold Bp
 have key:∀n i,Bp.Ac s w n i=Bp.Ac s W9 n i:=by
  intro n
  induction n with
  |zero=>exactλ_=>rfl
  |succ n ih=>
   intro i
   unfold Bp.Ac Bp.L1
   rw[h,show W9.Cells=Mx from rfl]
   simp only[ih]
 exact key _ _
theorem gt_in {α:Type} {l:List α} {i:Int} {x:α} (h:gt l i=some x):0≤i/\i<l.length:=by
 unfold gt at h
 split at h
 . have:=(List.getElem?_eq_some_iff.1 h).1;omega
 . cases h
theorem Vr {i n:Int} (h:0≤i/\i<n):Cs i n=some true:=by
 unfold Cs Cs.J1
 simp[h.1,h.2]
theorem obj0 {w:AB} {x:AW} (h:x.Op∈[(1:Int),2,5,10,17,18,19,20]):Ad w x=some true:=by
 simp only[List.mem_cons,List.not_mem_nil,or_false]at h
 rcases h with h|h|h|h|h|h|h|h<;>simp[Ad,Ad.J3,Ad.J5,Ad.J7,Ad.J8,h]
theorem obj4 {w:AB} {x:AW} (h:x.Op=4) (hn:6≤x.N/\x.N≤18):Ad w x=some true:=by
 simp[Ad,Ad.J3,Ad.J5,Ad.J7,Ad.J8,Ad.Oj,h,hn.1,hn.2]
theorem obj6 {w:AB} {x:AW} {y:DJ} (h:x.Op=6) (hy:gt w.Cells x.B=some y) (hs:y.Bn=0):Ad w x=some true:=by
 simp[Ad,Ad.J1,h,Vr (gt_in hy),hy,hs]
theorem obj8 {w:AB} {x:AW} {y:DJ} (h:x.Op=8) (hy:gt w.Cells x.A=some y) (hs:y.Bn=0):Ad w x=some true:=by
 simp[Ad,Ad.J2,h,Vr (gt_in hy),hy,hs]
theorem arr_true {w:AB} {b n:Int} {y:DJ} (hy:gt w.Cells b=some y) (hi:y.Index=0) (hs:y.Bn≠0) (hn:y.Bn=n):EI w b n=some true:=by
 subst hn
 simp[EI,EI.J1,Vr (gt_in hy),hy,hi,hs]
theorem obj7 {w:AB} {x:AW} {y:DJ} (h:x.Op=7) (hy:gt w.Cells x.B=some y) (hi:y.Index=0) (hs:y.Bn≠0) (hn:y.Bn=x.N):Ad w x=some true:=by
 simp[Ad,h,arr_true hy hi hs hn]
theorem obj9 {w:AB} {x:AW} {y:DJ} (h:x.Op=9) (hy:gt w.Cells x.A=some y) (hi:y.Index=0) (hs:y.Bn≠0) (hn:y.Bn=x.N):Ad w x=some true:=by
 simp[Ad,h,arr_true hy hi hs hn]
theorem objM {w:AB} {x:AW} {y:Iy} (h:x.Op=11∨x.Op=12) (hy:gt w.AG x.A=some y) (hs:y.RW=false):Ad w x=some true:=by
 rcases h with h|h<;>simp[Ad,Ad.J3,Ad.J4,h,Vr (gt_in hy),hy,hs]
theorem objR {w:AB} {x:AW} {y:Iy} (h:x.Op=13∨x.Op=14∨x.Op=15∨x.Op=16) (hy:gt w.AG x.A=some y) (hs:y.RW=true):Ad w x=some true:=by
 rcases h with h|h|h|h<;>simp[Ad,Ad.J3,Ad.J5,Ad.J6,h,Vr (gt_in hy),hy,hs]
theorem objC {w:AB} {x:AW} (h:x.Op=21∨x.Op=22∨x.Op=23) (hy:0≤x.A/\x.A<w.Au.length):Ad w x=some true:=by
 rcases h with h|h|h<;>simp[Ad,Ad.J3,Ad.J5,Ad.J7,h,Vr hy]
theorem objT {w:AB} {x:AW} (h:x.Op=24∨x.Op=25) (hy:0≤x.A/\x.A<w.AA.length):Ad w x=some true:=by
 rcases h with h|h<;>simp[Ad,Ad.J3,Ad.J5,Ad.J7,Ad.J8,h,Vr hy]
theorem obj26 {w:AB} {x:AW} (h:x.Op=26) (hy:0≤x.A/\x.A<w.AH.length):Ad w x=some true:=by
 simp[Ad,Ad.J3,Ad.J5,Ad.J7,Ad.J8,h,Vr hy]
theorem obj27 {w:AB} {x:AW} (h:x.Op=27) (hy:0≤x.B/\x.B<w.AH.length):Ad w x=some true:=by
 simp[Ad,Ad.J3,Ad.J5,Ad.J7,Ad.J8,h,Vr hy]
theorem rg0 {i:AW} (h:i.Op=5∨11≤i.Op/\i.Op≤25∨i.Op=28):rg i=[]:=by
 have n:∀k:Int,i.Op≠k->(i.Op==k)=false:=λk h=>beq_eq_false_iff_ne.2 h
 unfold rg AQ AQ.J1 AQ.J2 AQ.J3
 simp[n 1 (by omega),n 2 (by omega),n 3 (by omega),n 4 (by omega),n 6 (by omega),n 7 (by omega),n 8 (by omega),n 9 (by omega),n 10 (by omega),n 26 (by omega),n 27 (by omega)]
def NameF (x:ByteArray):Prop:=(∃e,CF UR x=some e/\0≤e/\e<2)∨(∃e,CF UR x=some e/\e<0)/\∃c y,Bp W9 x=some c/\gt Mx c=some y/\y.Bn=0
theorem name_f {x:ByteArray} (h:x∈vN):NameF x:=by
 unfold vN at h
 simp only[List.mem_cons,List.not_mem_nil,or_false]at h
 rcases h with rfl|rfl|rfl|rfl|rfl
 . exact .inl ⟨0,by decide +kernel,by omega,by omega⟩
 . exact .inl ⟨1,by decide +kernel,by omega,by omega⟩
 . exact .inr ⟨⟨-1,by decide +kernel,by omega⟩,0,_,by decide +kernel,rfl,rfl⟩
 . exact .inr ⟨⟨-1,by decide +kernel,by omega⟩,1,_,by decide +kernel,rfl,rfl⟩
 . exact .inr ⟨⟨-1,by decide +kernel,by omega⟩,2,_,by decide +kernel,rfl,rfl⟩
theorem q_at:Bp W9 qS=some 3:=by decide +kernel
structure GV (g r:Aw) (lo hi:Int):Prop where
 w:r.w=g.w
 l:r.locals=g.locals
 n:g.out.length≤r.out.length
 p:∀i,i<g.out.length->r.out[i]? =g.out[i]?
 s:SG g.w lo hi r.out g.out.length r.out.length r.out.length
section
variable {T:ByteArray->Prop} {g h r:Aw} {lo hi lo' hi':Int}
theorem GV.refl:GV g g lo hi:=⟨rfl,rfl,Nat.le_refl _,λ_ _=>rfl,SG.nil (Nat.le_refl _)⟩
theorem GV.trans (a:GV g h lo hi) (b:GV h r lo hi):GV g r lo hi:=by
 have an:=a.n;have bn:=b.n
 refine⟨b.w.trans a.w,b.l.trans a.l,by omega,λi hi=>(b.p i (by omega)).trans (a.p i hi),(a.s.frame (l':=r.out) (d:=r.out.length) (λi _ hi=>(b.p i hi).symm) (by omega) (by omega) (by omega) (by omega)).app ?_⟩
 have:=b.s
 rw[a.w]at this
 exact this
theorem GV.mono (a:GV g r lo hi) (h1:lo'≤lo) (h2:hi≤hi'):GV g r lo' hi':=⟨a.w,a.l,a.n,a.p,a.s.mono h1 h2 (Nat.le_refl _)⟩
theorem GV.site (a:GV g r lo hi) (s n:Int):GV g ⟨r.w,r.locals,r.out,s,n⟩ lo hi:=⟨a.w,a.l,a.n,a.p,a.s⟩
theorem GW.next (a:GW T g) (b:GV g r lo hi):GW T r:=⟨by rw[b.w];exact a.w,b.l.trans a.l⟩
theorem GW.site (a:GW T g) (s n:Int):GW T ⟨g.w,g.locals,g.out,s,n⟩:=⟨a.w,a.l⟩
theorem put_eq (i:AW):fE (Az g i) λr=>r=⟨g.w,g.locals,g.out++[⟨i.Op,i.A,i.B,i.C,i.N,g.site⟩],g.site,g.next⟩:=by
 unfold Az
 exact pC λ_=>pR rfl
theorem GV.put {x:AW} {s n:Int} (hv:LV g.w lo hi (g.out.length+1) x) (h5:x.Op≠5):GV g ⟨g.w,g.locals,g.out++[x],s,n⟩ lo hi:=by
 refine⟨rfl,rfl,by simp,λi hi=>by simp only;rw[List.getElem?_append_left hi],?_⟩
 simp only[List.length_append,List.length_cons,List.length_nil]
 exact SG.one (by simp) hv h5
abbrev GK (g r:Aw) (lo hi:Int):Prop:=GV g r lo hi/\r.site=g.site/\r.next=g.next
theorem put_par {i:AW} (hv:LV g.w lo hi (g.out.length+1) ⟨i.Op,i.A,i.B,i.C,i.N,g.site⟩) (h5:i.Op≠5):fE (Az g i) λr=>GK g r lo hi:=
 pM (put_eq i) λ_ e=>by subst e;exact⟨GV.put hv h5,rfl,rfl⟩
theorem VU {i:AW} (hv:LV g.w lo hi (g.out.length+1) ⟨i.Op,i.A,i.B,i.C,i.N,g.site⟩) (h5:i.Op≠5):fE ((Az g i).bind λv=>some v) λr=>GK g r lo hi:=pB (put_par hv h5) λ_ h=>pR h
theorem GK.trans (a:GK g h lo hi) (b:GK h r lo hi):GK g r lo hi:=⟨a.1.trans b.1,b.2.1.trans a.2.1,b.2.2.trans a.2.2⟩
theorem rB {x r:Int} (h:0≤r/\r<32):∀y∈[r],0≤y/\y<32:=λy hy=>by rw[List.mem_singleton.1 hy];exact h
theorem uU {r s:Int} (h:0≤r/\r<32) (k:0≤s/\s<32):∀y∈[r,s],0≤y/\y<32:=λy hy=>by
 simp only[List.mem_cons,List.not_mem_nil,or_false]at hy
 rcases hy with rfl|rfl
 . exact h
 . exact k
theorem value_par (d:Nat):∀(n:Nat) (g:Aw) (e:As) (r:Int),Pr d e->GW T g->(lo≤g.site/\g.site<hi)->0≤r/\r+d≤32->fE (CX n g e r) λv=>GK g v lo hi:=by
 induction d with
 |zero=>exactλn g e r h=>h.elim
 |succ d ih=>
  intro n g e r he hg hs hr
  cases n with
  |zero=>exact pN
  |succ n=>
  have hr2:0≤r/\r<32:=by omega
  show fE (Ez (CX n) g e r) _
  unfold Ez
  rcases he with⟨e1,_⟩|⟨e1,_,hn⟩|⟨e1,e2,a,e3,e4⟩|⟨e1,a,b,e3,e4,e5⟩
  . simp only[e1]
    exact pI (λ_=>VU ⟨by simp,obj0 (by simp),by rw[rg1 rfl];exact rB (x:=0) hr2,hs,by simp,by simp⟩ (by simp)) λh=>by cases h
  . simp only[e1]
    refine pI (λh=>by cases h) λ_=>pI (λ_=> ?_) λh=>by cases h
    rw[hg.l]
    rcases name_f hn with⟨k,k1,k2,k3⟩|⟨⟨k,k1,k2⟩,c,y,c1,c2,c3⟩
    . exact pE k1 (pD (λ_=>VU ⟨by simp,obj0 (by simp),by rw[rg2 rfl];exact uU hr2 (by simp only;omega),hs,by simp,by simp⟩ (by simp)) λh=>by omega)
    . refine pE k1 (pD (λh=>by omega) λ_=>pE ((fG hg.w.c _).trans c1) (VU ⟨by simp,obj6 rfl (y:=y) (by rw[hg.w.c];exact c2) c3,by rw[rg6 rfl];exact rB (x:=0) hr2,hs,by simp,by simp⟩ (by simp)))
  . simp only[e1,e3]
    refine pI (λh=>by cases h) λ_=>pI (λh=>by cases h) λ_=>pI (λ_=>pE (y:=a) rfl ?_) λh=>by cases h
    refine pB (ih n g a r e4 hg hs (by omega)) λv hv=> ?_
    have hg2:=hg.next hv.1
    rw[e2]
    refine pE ((fG hg2.w.c _).trans q_at) (pE (y:=⟨⟨#[113]⟩,0,2,false,0⟩) (by rw[hg2.w.c];rfl) ?_)
    exact pM (VU ⟨by simp,obj7 rfl (y:=⟨⟨#[113]⟩,0,2,false,0⟩) (by rw[hg2.w.c];rfl) rfl (by simp) rfl,by rw[rg7 rfl];exact uU hr2 hr2,by simp only;rw[hv.2.1];exact hs,by simp,by simp⟩ (by simp)) λ_ h=>hv.trans h
  . have n1:e.Op≠1:=λh=>by rw[h]at e1;simp at e1
    have n2:e.Op≠2:=λh=>by rw[h]at e1;simp at e1
    have n3:e.Op≠3:=λh=>by rw[h]at e1;simp at e1
    have n6:6≤e.Op/\e.Op≤18:=by
     simp only[List.mem_cons,List.not_mem_nil,or_false]at e1
     omega
    rw[if_neg (by simpa using n1),if_neg (by simpa using n2),if_neg (by simpa using n3),e3]
    have hw:BE (r+1)=r+1:=Ct (by omega) (by omega)
    refine pI (λh=>by cases h) λ_=>pE (y:=a) rfl (pB (ih n g a r e4 hg hs (by omega)) λv hv=>pE (y:=b) rfl (pB (ih n v b _ e5 (hg.next hv.1) (by rw[hv.2.1];exact hs) (by rw[hw];omega)) λu hu=> ?_))
    rw[hw]
    have hu2:=hv.trans hu
    by_cases hd:d=0
    . subst hd;exact e4.elim
    exact pM (VU ⟨by simp,obj4 rfl n6,by rw[rg4 rfl];intro y hy;simp only[List.mem_cons,List.not_mem_nil,or_false]at hy;omega,by simp only;rw[hu2.2.1];exact hs,by simp,by simp⟩ (by simp)) λ_ h=>hu2.trans h
theorem tA {e:As} (he:Pr 2 e) (hg:GW T g) (hs:lo≤g.site/\g.site<hi) {r:Int} (hr:0≤r/\r≤30):fE (CX Bo g e r) λv=>GK g v lo hi:=value_par 2 _ g e r he hg hs (by omega)
theorem assign_par (hg:GW T g) (hs:lo≤g.site/\g.site<hi) {k:Nat} {s:AK} (ho:KD T (k+1) s) (h1:s.Op=1):fE (El g s) λr=>GK g r lo hi:=by
 have he:Pr 2 s.Expr:=ho.2.2.1.resolve_right λh=>h.1 (by simp[h1])
 have hl:(g.locals.length:Int)=2:=by rw[hg.l];rfl
 unfold El
 rw[hl]
 rcases ho.2.1 with h|⟨_,hq,a,h,ha⟩
 . rw[h]
   refine pI (λh=>by cases h) λ_=>pB (tA he hg hs (by omega)) λv hv=> ?_
   have h2:=hg.next hv.1
   have hs2:lo≤v.site/\v.site<hi:=by rw[hv.2.1];exact hs
   rw[h2.l]
   rcases name_f (ho.2.2.2.2.2.2.2.2.2.1 h1 h)with⟨c,k1,k2,k3⟩|⟨⟨c,k1,k2⟩,c,y,c1,c2,c3⟩
   . exact pE k1 (pD (λ_=>pM (VU ⟨by simp,obj0 (by simp),by rw[rg2 rfl];exact uU (by simp only;omega) (by simp),hs2,by simp,by simp⟩ (by simp)) λ_ h=>hv.trans h) λh=>by omega)
   . refine pE k1 (pD (λh=>by omega) λ_=>pE ((fG h2.w.c _).trans c1) (pM (VU ⟨by simp,obj8 rfl (y:=y) (by rw[h2.w.c];exact c2) c3,by rw[rg8 rfl];exact rB (x:=0) (by simp),hs2,by simp,by simp⟩ (by simp)) λ_ h=>hv.trans h))
 . rw[h]
   refine pI (λ_=>pE (y:=a) rfl ?_) λh=>by cases h
   rw[show BE (2+1)=3 from rfl]
   refine pB (tA ha hg hs (by omega)) λv hv=>pB (tA he (hg.next hv.1) (by rw[hv.2.1];exact hs) (by omega)) λu hu=> ?_
   have hu2:=hv.trans hu
   have h2:=hg.next hu2.1
   have hs2:lo≤u.site/\u.site<hi:=by rw[hu2.2.1];exact hs
   rw[hq]
   refine pE ((fG h2.w.c _).trans q_at) (pE (y:=⟨⟨#[113]⟩,0,2,false,0⟩) (by rw[h2.w.c];rfl) ?_)
   exact pM (VU ⟨by simp,obj9 rfl (y:=⟨⟨#[113]⟩,0,2,false,0⟩) (by rw[h2.w.c];rfl) rfl (by simp) rfl,by rw[rg9 rfl];exact uU (by simp) (by simp),hs2,by simp,by simp⟩ (by simp)) λ_ h=>hu2.trans h
end
theorem bU {l:List DJ} (hl:l.length≤12) {L:List ByteArray->Int->Option (List ByteArray×Bool)} {i:Nat} {names:List ByteArray} {x:DJ} {v:List ByteArray×Bool} (h1:1≤x.Bn/\x.Bn≤4) (hi:(i:Int)+x.Bn≤l.length) (hv:v.2=true):
 ∀(n t:Nat) (want:DJ),want.Bn=x.Bn->(t:Int)≤x.Bn->AP.Da L i l names x n want t=some v->
 (∀k:Nat,t≤k->(k:Int)<x.Bn->∃c,l[i+k]? =some c/\c.Index=k/\c.Bn=x.Bn)/\L (names++[x.Name]) (i+x.Bn)=some v:=by
 intro n
 induction n with
 |zero=>intro t want _ _ h;cases h
 |succ n ih=>
  intro t want hw ht h
  unfold AP.Da AP.L2 at h
  by_cases hlt:(t:Int)<x.Bn
  . rw[BI hlt,Ct (n:=(i:Int)+t) (by omega) (by omega),show(i:Int)+t=((i+t:Nat):Int)from by omega,DG (by omega),Option.bind_some]at h
    split at h
    . cases h;cases hv
    . rename_i hc
      rw[A0 (by omega)]at h
      obtain⟨a,b⟩:=ih (t+1) ⟨want.Name,t,want.Bn,want.E0,want.Init⟩ hw (by omega) h
      refine⟨λk hk hk2=> ?_,b⟩
      by_cases e:k=t
      . subst e
        refine⟨l[i+k],List.getElem?_eq_getElem (by omega),?_⟩
        simp only[Bool.not_eq_true',Bool.not_eq_false,Bool.and_eq_true,beq_iff_eq]at hc
        exact⟨hc.2.1,hc.2.2.1.trans hw⟩
      . exact a k (by omega) hk2
  . rw[Ab hlt]at h
    unfold AP.J2 at h
    rw[hw,Ct (by omega) (by omega)]at h
    exact⟨λk hk hk2=>by omega,h⟩
theorem Yg {l:List DJ} (hl:l.length≤12) {v:List ByteArray×Bool} (hv:v.2=true):∀(n i:Nat) (names:List ByteArray),names.length≤i->i≤l.length->AP.Ac l n names i=some v->
 ∀(b:Nat) (c:DJ),i≤b->l[b]? =some c->c.Index=0->c.Bn≠0->(1≤c.Bn/\c.Bn≤4)/\∀k:Nat,(k:Int)<c.Bn->∃d,l[b+k]? =some d/\d.Bn≠0:=by
 intro n
 induction n with
 |zero=>intro i names _ _ h;cases h
 |succ n ih=>
  intro i names hn hil h b c hb hc h0 hs
  have hbl:=(List.getElem?_eq_some_iff.1 hc).1
  unfold AP.Ac AP.L1 at h
  have hi:i<l.length:=by omega
  rw[BI (by omega),DG hi,Option.bind_some,BT (by omega)]at h
  have hx:l[i]? =some l[i]:=List.getElem?_eq_getElem hi
  generalize l[i]=x at h hx
  by_cases e:x.Bn=0
  . rw[if_pos (by simpa using e)]at h
    split at h
    . cases h;cases hv
    . rw[A0 (by omega)]at h
      by_cases eb:b=i
      . subst eb;rw[hx]at hc;cases hc;exact absurd e hs
      . exact ih (i+1) _ (by simp;omega) (by omega) h b c (by omega) hc h0 hs
  . rw[if_neg (by simpa using e)]at h
    have J:∀t,AP.J1 (AP.Ac l n) i l names x t=some v->t=false/\AP.Da (AP.Ac l n) i l names x Bo x 0=some v:=by
     intro t ht
     unfold AP.J1 at ht
     cases t with
     |true=>cases ht;cases hv
     |false=>exact⟨rfl,ht⟩
    have key:(1≤x.Bn/\x.Bn≤4)/\(i:Int)+x.Bn≤l.length/\AP.Da (AP.Ac l n) i l names x Bo x 0=some v:=by
     rw[Ct (n:=(l.length:Int)-i) (by omega) (by omega)]at h
     split at h
     . exact absurd (J _ h).1 (by simp)
     . rename_i a1
       split at h
       . exact absurd (J _ h).1 (by simp)
       . rename_i a2
         split at h
         . exact absurd (J _ h).1 (by simp)
         . obtain⟨q1,q2⟩:=J _ h
           simp at a1 a2 q1
           exact⟨by omega,by omega,q2⟩
    obtain⟨k1,k2,k3⟩:=key
    obtain⟨a,r⟩:=bU hl k1 k2 hv Bo 0 x rfl (by omega) k3
    by_cases eb:(b:Int)<i+x.Bn
    . obtain⟨d,d1,d2,d3⟩:=a (b-i) (by omega) (by omega)
      rw[show i+(b-i)=b from by omega,hc]at d1
      cases d1
      have:b=i:=by omega
      subst this
      rw[hx]at hc;cases hc
      refine⟨k1,λk hk=> ?_⟩
      obtain⟨d,d1,d2,d3⟩:=a k (by omega) hk
      exact⟨d,d1,by rw[d3];exact hs⟩
    . rw[show(i:Int)+x.Bn=((i+x.Bn.toNat:Nat):Int)from by omega]at r
      exact ih (i+x.Bn.toNat) _ (by simp;omega) (by omega) r b c (by omega) hc h0 hs
theorem YM {w:AB} (hw:DZ w=true) {b n:Int} (h:MH w b n):(1≤n/\n≤4)/\∀k,0≤k->k<n->∃d,gt w.Cells (b+k)=some d/\d.Bn≠0:=by
 have hl:=(Fm hw).c
 obtain⟨x,hx,h0,hs,hn⟩:=h
 have hb:0≤b:=by
  unfold gt at hx
  split at hx
  . assumption
  . cases hx
 obtain⟨m,rfl⟩:∃m:Nat,b=m:=⟨b.toNat,by omega⟩
 rw[JM]at hx
 have hc:∃v,AP w.Cells=some v/\v.2=true:=by
  unfold DZ at hw
  cases hv:AP w.Cells with
  |none=>simp[hv]at hw
  |some v=>simp[hv]at hw;exact⟨v,rfl,hw.2.1.1.1⟩
 obtain⟨v,v1,v2⟩:=hc
 obtain⟨a1,a2⟩:=Yg hl v2 Bo 0 [] (by simp) (by omega) v1 m x (by omega) hx h0 hs
 rw[hn]at a1 a2
 refine⟨a1,λk k1 k2=> ?_⟩
 obtain⟨j,rfl⟩:∃j:Nat,k=j:=⟨k.toNat,by omega⟩
 rw[show(m:Int)+j=((m+j:Nat):Int)from by omega,JM]
 exact a2 j k2
structure FT (c:BB) (s:AZ):Prop where
 v:VC c
 f:Hn c.World s.Sync=true
 c':s.Cells.length=c.World.Cells.length
 u:s.AH.length=c.World.AH.length
 n:s.AA.length=c.AA.length
 t:∀(i:Nat) x y,s.AA[i]? =some x->c.AA[i]? =some y->(0≤x.PC/\x.PC<y.B3.length)/\(x.CN.length:Int)=y.CN/\(x.Bt.length:Int)=y.CN
theorem cJ {c:BB} (hc:CK c) (s:AZ):B2 (DW c s) λb=>b=true->FT c s:=by
 have N:∀{α:Prop},B2 (some false) λb:Bool=>b=true->α:=tR λh=>by cases h
 have hn:=hc.n
 have j1:∀b,(b=false->VC c/\Hn c.World s.Sync=true/\s.Cells.length=c.World.Cells.length/\s.AH.length=c.World.AH.length/\s.AA.length=c.AA.length)->B2 (DW.J1 c s b) λb=>b=true->FT c s:=by
  intro b hb;unfold DW.J1
  refine tI (λ_=>N) λh0=> ?_
  obtain⟨h1,h2,h3,h4,h5⟩:=hb h0
  refine My c.AA.length (λi (_:Unit)=>∀(j:Nat) x y,j<i->s.AA[j]? =some x->c.AA[j]? =some y->(0≤x.PC/\x.PC<y.B3.length)/\(x.CN.length:Int)=y.CN/\(x.Bt.length:Int)=y.CN) (s0:=()) (F:=λn _ i=>DW.Ac c s n i) (by omega) (λj _ _ h=>by omega) λn i _ hi hs k=> ?_
  unfold DW.Ac DW.L1 DW.J2 DW.J3
  refine tD (λ_=>XS (by omega) (tD (λ_=>tI (λ_=>N) λh=>by cases h) λp1=>XS (by omega) (tD (λ_=>tI (λ_=>N) λh=>by cases h) λp2=>tI (λ_=>tI (λ_=>N) λh=>by cases h) λp3=>tI (λ_=>N) λp4=>k () (by omega) ?_))) λ_=>tR λ_=>⟨h1,h2,h3,h4,h5,λj x y hx hy=>hs j x y ?_ hx hy⟩
  . intro j x y hj hx hy
    by_cases e:j<i
    . exact hs j x y e hx hy
    . obtain rfl:j=i:=by omega
      rw[List.getElem?_eq_getElem (by omega)]at hx hy
      rw[← Option.some.inj hx,← Option.some.inj hy]
      simp at p3 p4
      exact⟨by omega,p3,p4⟩
  . have:=(List.getElem?_eq_some_iff.1 hy).1;omega
 unfold DW
 refine tB (OJ hc) λv hv=>tI (λ_=>j1 _ λh=>by cases h) λh=> ?_
 have hv:=hv (by simpa using h)
 refine tE (K1 _ (Fm hv.w) _) (tI (λ_=>j1 _ λh=>by cases h) λh1=>tI (λ_=>j1 _ λh=>by cases h) λh2=>tI (λ_=>j1 _ λh=>by cases h) λh3=>j1 _ λh4=>⟨hv,by simpa using h1,?_,?_,?_⟩)
 . simp at h2;omega
 . simp at h3;omega
 . simp at h4;omega
theorem Sb (i n:Int):B2 (EW i n) λv=>1≤n/\n≤4->0≤v/\v<n:=by
 unfold EW EW.J1
 refine tD (λ_=>tR (by omega)) λh=>tC (by omega) (tD (λh1=>tR λh2=> ?_) λh1=>tR λh2=> ?_)
 . have:=Int.lt_tmod_of_pos i (show 0<n by omega)
   rw[Ct (by omega) (by omega)];omega
 . have:=Int.tmod_lt_of_pos i (show 0<n by omega)
   omega
def q6:List Int:=[3,3,4,4,5,6,7,8,9,10,11,12,13,14,15,16,18,19,20,21,22,23,2]
def KO (o k:Int):Prop:=((k=3->o=6∨o=7)/\(k=4->o=8∨o=9)/\(k=5->o=10)/\(k=22->o=26)/\(k=23->o=27)/\(k=2↔o=28)/\(k=16->o=21)/\k≠1/\k≠17)/\(o=7->k=3)/\(o=9->k=4)/\(o=10->k=5)/\(o=8->k=4)/\(o=26->k=22)
instance (o k:Int):Decidable (KO o k):=by unfold KO;infer_instance
theorem VL:∀n:Fin 23,KO ((n.1:Int)+6) q6[n.1]:=by decide
theorem dC {o:Int} (h:1≤o/\o≤28):B2 (FN o) λk=>k=0∨KO o k:=by
 unfold FN FN.J1
 refine tD (λ_=>tI (λ_=>tR (.inl rfl)) λh=>by cases h) λh6=>tD (λh=>by omega) λ_=> ?_
 rw[Ct (by omega) (by omega)]
 obtain⟨n,hn⟩:∃n:Nat,o-6=n:=⟨(o-6).toNat,by omega⟩
 rw[hn]
 have hl:n<23:=by omega
 refine XS (l:=q6) hl (tR (.inr ?_))
 have:=VL ⟨n,hl⟩
 simp only at this
 rw[show(n:Int)+6=o from by omega]at this
 exact this
theorem W5 {i:AW} {t:AE} (h7:i.Op=7∨i.Op=9->0≤i.C/\i.C<t.CN.length):
 B2 (Dt i t) λo=>(i.Op=7->∃v,o=BE (i.B+v)/\(1≤i.N/\i.N≤4->0≤v/\v<i.N))/\(i.Op=9->∃v,o=BE (i.A+v)/\(1≤i.N/\i.N≤4->0≤v/\v<i.N)):=by
 have T:∀{o:Option Int},TT o->i.Op≠7->i.Op≠9->B2 o λo=>(i.Op=7->∃v,o=BE (i.B+v)/\(1≤i.N/\i.N≤4->0≤v/\v<i.N))/\(i.Op=9->∃v,o=BE (i.A+v)/\(1≤i.N/\i.N≤4->0≤v/\v<i.N)):=λh a b=>tM h λ_ _=>⟨λh=>absurd h a,λh=>absurd h b⟩
 have j1:∀b,(b=true->i.Op≠7/\i.Op≠9)->B2 (Dt.J1 i t b) λo=>(i.Op=7->∃v,o=BE (i.B+v)/\(1≤i.N/\i.N≤4->0≤v/\v<i.N))/\(i.Op=9->∃v,o=BE (i.A+v)/\(1≤i.N/\i.N≤4->0≤v/\v<i.N)):=by
  intro b hb;unfold Dt.J1 Dt.J2
  refine tI (λh=>T (tR trivial) (hb h).1 (hb h).2) λ_=>tI (λh=>tG (h7 (.inl (eq_of_beq h))) λ_ _=>tB (Sb _ _) λv hv=>tR ⟨λ_=>⟨v,rfl,hv⟩,λh9=> ?_⟩) λn7=>tI (λh=>tG (h7 (.inr (eq_of_beq h))) λ_ _=>tB (Sb _ _) λv hv=>tR ⟨λh9=> ?_,λ_=>⟨v,rfl,hv⟩⟩) λn9=>T ?_ (by simpa using n7) (by simpa using n9)
  . rw[eq_of_beq h]at h9;cases h9
  . rw[eq_of_beq h]at h9;cases h9
  . repeat' first|exact tR trivial|refine tI (λ_=> ?_) λ_=> ?_
 unfold Dt
 refine tI (λh=>j1 _ λ_=> ?_) λ_=>j1 _ λh=> ?_<;>rw[eq_of_beq h]<;>decide
def Vz (e:AN):Prop:=e.Dy.length≤100000/\e.Db.length≤100000
structure PI (w:AB) (x:AE) (y:Ak) (z:AW) (q:AD) (e:AN):Prop where
 a:e.Kind=3∨e.Kind=23∨e.Kind=5->0≤z.A/\z.A<y.CN
 b:e.Kind=4∨e.Kind=22->0≤z.B/\z.B<y.CN
 d:e.Dy=[]∨e.Dy∈x.Bt/\(e.Kind=5∨(e.Kind=3∨e.Kind=4)/\(ix w.Cells e.Obj).Bn≠0)
 r:e.Db=[]∨e.Db∈x.Bt/\(e.Kind=4∨e.Kind=22)
 s:e.Kind=1/\e.Site= -1∨(q.Status=4/\e.Kind=17∨q.Status=2/\(e.Kind=2↔z.Op=28)/\e.Kind≠1/\e.Kind≠17/\(e.Kind=16->z.Op=21))/\e.Site=z.Site
structure PE (c:BB) (s:AZ) (th:Int) (e:AN):Prop where
 f:FT c s
 t:0≤th/\th<c.AA.length
 l:Vz e
 h:e.Thread=th
 i:∀x y z q,s.AA[th.toNat]? =some x->c.AA[th.toNat]? =some y->y.B3[x.PC.toNat]? =some z->s.Sync.AA[th.toNat]? =some q->PI c.World x y z q e
theorem fO {α:Type} [Inhabited α] {l:List α} {i:Int} {x:α} (h:gt l i=some x):ix l i=x:=by
 unfold gt at h
 split at h
 . unfold ix;rw[h];rfl
 . cases h
theorem UY {E:Nat} {c:BB} (hc:CK c) {s:AZ} (hs:∀t∈s.AA,TH E t) (hE:E≤100000) (th:Int):B2 (Br c s th) λr=>r.2=true->PE c s th r.1:=by
 have N:∀{x} {P:AN×Bool->Prop},B2 (some (x,false)) λr:AN×Bool=>r.2=true->P r:=tR λh=>by cases h
 have j1:∀b,(b=false->FT c s/\0≤th/\th<c.AA.length)->B2 (Br.J1 c s th b) λr=>r.2=true->PE c s th r.1:=by
  intro b hb;unfold Br.J1
  refine tI (λ_=>N) λh0=> ?_
  obtain⟨hf,ht⟩:=hb h0
  obtain⟨_,_,l3⟩:=Gq hf.f
  have hn:=hf.n;have hn2:=hf.v.n
  obtain⟨x,x1,x2,x3⟩:=Fl (l:=s.AA) (i:=th) (by omega)
  obtain⟨y,y1,y2,y3⟩:=Fl (l:=c.AA) (i:=th) (by omega)
  obtain⟨p1,p2,p3⟩:=hf.t _ x y x2 y2
  obtain⟨z,z1,z2,z3⟩:=Fl (l:=y.B3) (i:=x.PC) (by omega)
  obtain⟨q,q1,q2,q3⟩:=Fl (l:=s.Sync.AA) (i:=th) (by omega)
  have hz:=(hf.v.t _ y y2).i z z3
  have ho:=hz.o;have hg:=hz.g
  have hx:=hs x x3
  have hTl:∀q∈x.Bt,q.length≤100000:=λq hq=>by have:=(hx.b q hq).len hx.e.1;have:=hx.e.2;omega
  refine tE x1 (tE y1 (tE z1 (tE q1 ?_)))
  have fin:∀e:AN,Vz e->e.Thread=th->PI c.World x y z q e->PE c s th e:=by
   intro e h1 h2 h3
   refine⟨hf,ht,h1,h2,λx' y' z' q' hx' hy' hz' hq'=> ?_⟩
   rw[x2]at hx';rw[y2]at hy';rw[q2]at hq'
   obtain rfl:=Option.some.inj hx'
   obtain rfl:=Option.some.inj hy'
   obtain rfl:=Option.some.inj hq'
   rw[z2]at hz'
   obtain rfl:=Option.some.inj hz'
   exact h3
  refine tI (λ_=>tR λ_=>fin _ ⟨by simp,by simp⟩ rfl ⟨by simp,by simp,.inl rfl,.inl rfl,.inl ⟨rfl,rfl⟩⟩) λ_=>tI (λh=>tR λ_=>fin _ ⟨by simp,by simp⟩ rfl ⟨by simp,by simp,.inl rfl,.inl rfl,.inr ⟨.inl ⟨eq_of_beq h,rfl⟩,rfl⟩⟩) λ_=>tI (λhst=> ?_) λ_=>N
  have hst:=eq_of_beq hst
  refine tB (dC ho) λk hk=> ?_
  have hC:z.Op=7∨z.Op=9->0≤z.C/\z.C<y.CN:=by
   rintro(h|h)
   . simp[rg7 h]at hg;omega
   . simp[rg9 h]at hg;omega
  have hB:z.Op=8∨z.Op=9∨z.Op=26->0≤z.B/\z.B<y.CN:=by
   rintro(h|h|h)
   . simp[rg8 h]at hg;omega
   . simp[rg9 h]at hg;omega
   . simp[rg26 h]at hg;omega
  have hA:z.Op=6∨z.Op=7∨z.Op=10∨z.Op=27->0≤z.A/\z.A<y.CN:=by
   rintro(h|h|h|h)
   . simp[rg6 h]at hg;omega
   . simp[rg7 h]at hg;omega
   . simp[rg10 h]at hg;omega
   . simp[rg27 h]at hg;omega
  refine tB (W5 λh=>by have:=hC h;omega) λo hobj=>tI (λ_=>N) λhk0=> ?_
  have hk:=hk.resolve_left (by simpa using hk0)
  obtain⟨⟨a1,a2,a3,a4,a5,a6,a7,a8,a9⟩,b1,b2,b3,b4,b5⟩:=hk
  have hel:z.Op=7∨z.Op=9->(k=3∨k=4)/\(ix c.World.Cells o).Bn≠0:=by
   have key:∀b v,MH c.World b z.N->o=BE (b+v)->(1≤z.N/\z.N≤4->0≤v/\v<z.N)->(ix c.World.Cells o).Bn≠0:=by
    intro b v h1 h2 h3
    obtain⟨n1,n2⟩:=YM hf.v.w h1
    obtain⟨d,d1,d2⟩:=n2 v (h3 n1).1 (h3 n1).2
    have hd:=d1
    unfold gt at hd
    split at hd
    . have:=(List.getElem?_eq_some_iff.1 hd).1
      have:=(Fm hf.v.w).c
      rw[h2,Ct (by omega) (by omega),fO d1];exact d2
    . cases hd
   rintro(h|h)
   . obtain⟨v,v1,v2⟩:=hobj.1 h
     exact⟨.inl (b1 h),key _ v (hz.a.1 h) v1 v2⟩
   . obtain⟨v,v1,v2⟩:=hobj.2 h
     exact⟨.inr (b2 h),key _ v (hz.a.2 h) v1 v2⟩
  have mk:∀D F,(D=[]∨D∈x.Bt/\(k=5∨(k=3∨k=4)/\(ix c.World.Cells o).Bn≠0))->(F=[]∨F∈x.Bt/\(k=4∨k=22))->D.length≤100000->F.length≤100000->PE c s th ⟨th,k,o,0,z.Site,D,F⟩:=
   λD F h1 h2 h3 h4=>fin _ ⟨h3,h4⟩ rfl ⟨λh=>hA (by simp only at h;omega),λh=>hB (by simp only at h;omega),h1,h2,.inr ⟨.inr ⟨hst,a6,a8,a9,a7⟩,rfl⟩⟩
  have j3:∀D,(D=[]∨D∈x.Bt/\(k=5∨(k=3∨k=4)/\(ix c.World.Cells o).Bn≠0))->D.length≤100000->B2 (Br.J3 x z ⟨th,k,o,0,z.Site,D,[]⟩) λr=>r.2=true->PE c s th r.1:=by
   intro D h1 h2
   have j4:∀b,(b=true->z.Op=8∨z.Op=9∨z.Op=26)->B2 (Br.J4 ⟨th,k,o,0,z.Site,D,[]⟩ x z b) λr=>r.2=true->PE c s th r.1:=by
    intro b hb;unfold Br.J4 Br.J5
    refine tI (λh=>tG (by have:=hB (hb h);omega) λq hq=> ?_) λ_=>tR λ_=>mk _ _ h1 (.inl rfl) h2 (by simp)
    have hl:=hTl q hq
    refine tC (Ba (by simp;omega)) (tR λ_=>mk _ _ h1 (.inr ⟨by simpa using hq,?_⟩) h2 (by simpa using hl))
    have:=hb h;omega
   unfold Br.J3
   exact tI (λh=>j4 _ λ_=>.inl (eq_of_beq h)) λ_=>tI (λh=>j4 _ λ_=>.inr (.inl (eq_of_beq h))) λ_=>j4 _ λh=>.inr (.inr (eq_of_beq h))
  have j2:∀b,(b=true->z.Op=7∨z.Op=9)->B2 (Br.J2 th k o x z b) λr=>r.2=true->PE c s th r.1:=by
   intro b h;unfold Br.J2
   refine tI (λhb=>tG (by have:=hC (h hb);omega) λq hq=> ?_) λ_=>j3 _ (.inl rfl) (by simp)
   have hl:=hTl q hq
   exact tC (Ba (by omega)) (j3 _ (.inr ⟨hq,.inr (hel (h hb))⟩) hl)
  refine tI (λh=>tG (by have:=hA (.inr (.inr (.inl (eq_of_beq h))));omega) λq hq=> ?_) λ_=>tI (λh=>j2 _ λ_=>.inl (eq_of_beq h)) λ_=>j2 _ λh=>.inr (eq_of_beq h)
  have hl:=hTl q hq
  exact tC (Ba (by omega)) (j3 _ (.inr ⟨hq,.inl (b3 (eq_of_beq h))⟩) hl)
 unfold Br
 refine tB (cJ hc s) λv hv=>tI (λ_=>j1 _ λh=>by cases h) λh=>tD (λ_=>j1 _ λh=>by cases h) λh1=>j1 _ λh2=>⟨hv (by simpa using h),by omega,?_⟩
 have:=of_decide_eq_false h2
 omega
end Go.Abs
