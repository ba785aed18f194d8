/- What the typed programs give, in plain Lean. -/
import Derived.Test.YthmijagacgnmkaaGreatDoorWalkM
import Derived.Lib.SlicesCompact
set_option linter.unusedSimpArgs false
set_option linter.unusedVariables false
namespace Go.Abs
theorem CH{n:Int}(h: -9223372036854775808<=n)(a:n<9223372036854775808):A1 n=n:=by simp only[A1,IntKind.wrap,IntKind.bits,IntKind.signed];simp;omega
theorem Ai{i:Nat}(h:i<9223372036854775807):A1 ((i:Int)+1)=((i+1:Nat):Int):=by rw[CH (by omega) (by omega)];rfl
theorem JR{a:Type}(l:List a)(i:Nat):gt l (i:Int)=l[i]? :=by simp[gt]
theorem CZ{a:Type}{l:List a}{i:Nat}(h:i<l.length):gt l (i:Int)=some l[i]:=by rw[JR];simp[h]
def Df(i:Int)(n:Nat):Bool:=decide (0<=i)&&decide (i<(n:Int))
def ix{a:Type}[Inhabited a](l:List a)(i:Int):a:=(l[i.toNat]?).getD default
theorem Bb{i:Int}{n:Nat}:Df i n=true↔0<=i/\i<n:=by simp[Df]
theorem Cb{a:Type}[Inhabited a]{l:List a}{i:Int}(h:Df i l.length=true):gt l i=some (ix l i):=by
 obtain⟨b,c⟩:=Bb.1 h;have:i.toNat<l.length:=by omega
 simp[gt,ix,b,this]
theorem X7{a:Type}[Inhabited a]{l:List a}{i:Nat}(h:i<l.length):ix l (i:Int)=l[i]:=by simp[ix,h]
theorem Bh{n b:Nat}(h:n*b<=70368744177664):Ak n b=true:=by simp[Ak,h]
theorem BO{a:Type}{n b:Nat}{x y:a}(h:n*b<=70368744177664):(if Ak n b=true then x else y)=x:=AAs (Bh h)
theorem BC{a:Type}{p:Prop}[Decidable p]{x y:a}(h:p):(if decide p=true then x else y)=x:=by rw[AAs (by simpa using h)]
theorem Ad{a:Type}{p:Prop}[Decidable p]{x y:a}(h:¬p):(if decide p=true then x else y)=y:=by rw[AAp (by simpa using h)]
theorem E6{a:Type}{l:List a}{i:Nat}(h:i<l.length):l.drop i=l[i]::l.drop (i+1):=ABd h
theorem Gb{a:Type}{l:List a}{i:Nat}(h:¬i<l.length):l.drop i=[]:=List.drop_eq_nil_of_le (by omega)
theorem BU:BP=18446744073709551616:=rfl
theorem kinds{P:Int->Prop}(N:P 1)(O:P 2)(Q:P 3)(R:P 4)(S:P 5)(T:P 6)(U:P 7)(V:P 8)(W:P 9)(l:P 10)(m:P 11)(n:P 12)(o:P 13)(p:P 14)(q:P 15)(r:P 16)(s:P 17)(t:P 18)(u:P 19)(v:P 20)(w:P 21)(x:P 22)(y:P 23)(X:∀k,k≠1->k≠2->k≠3->k≠4->k≠5->k≠6->k≠7->k≠8->k≠9->k≠10->k≠11->k≠12->k≠13->k≠14->k≠15->k≠16->k≠17->k≠18->k≠19->k≠20->k≠21->k≠22->k≠23->P k)(k:Int):P k:=by
 by_cases z:k=1;· exact z▸N
 by_cases B:k=2;· exact B▸O
 by_cases C:k=3;· exact C▸Q
 by_cases D:k=4;· exact D▸R
 by_cases E:k=5;· exact E▸S
 by_cases F:k=6;· exact F▸T
 by_cases G:k=7;· exact G▸U
 by_cases H:k=8;· exact H▸V
 by_cases I:k=9;· exact I▸W
 by_cases a:k=10;· exact a▸l
 by_cases b:k=11;· exact b▸m
 by_cases L:k=12;· exact L▸n
 by_cases c:k=13;· exact c▸o
 by_cases d:k=14;· exact d▸p
 by_cases e:k=15;· exact e▸q
 by_cases K:k=16;· exact K▸r
 by_cases f:k=17;· exact f▸s
 by_cases g:k=18;· exact g▸t
 by_cases h:k=19;· exact h▸u
 by_cases J:k=20;· exact J▸v
 by_cases i:k=21;· exact i▸w
 by_cases M:k=22;· exact M▸x
 by_cases j:k=23;· exact j▸y
 exact X k z B C D E F G H I a b L c d e K f g h J i M j
section
set_option maxHeartbeats 4000000
def B7{a:Type}(o:AB8 a)(Q:a->Prop):Prop:=∃r,o=some r/\Q r
theorem tR{a:Type}{r:a}{Q:a->Prop}(h:Q r):B7 (some r) Q:=⟨r,rfl,h⟩
theorem tB{a b:Type}{o:AB8 a}{Q:a->Prop}{f:a->AB8 b}{R:b->Prop}(h:B7 o Q)(k:∀x,Q x->B7 (f x) R):B7 (o.bind f) R:=by obtain⟨x,rfl,c⟩:=h;exact k x c
theorem tG{a b:Type}{l:List a}{i:Int}{f:a->AB8 b}{R:b->Prop}(h:0<=i/\i<(l.length:Int))(k:∀x,x∈l->B7 (f x) R):B7 ((gt l i).bind f) R:=by
 obtain⟨n,rfl⟩:∃n:Nat,i=n:=⟨i.toNat,by omega⟩;have hn:n<l.length:=by omega
 rw[CZ hn,AAg];exact k _ (AA0 hn)
theorem tC{b:Type}{p:Prop}[Decidable p]{a:AB8 b}{R:b->Prop}(h:p)(k:B7 a R):B7 (if p then a else none) R:=by rw[AAs h];exact k
theorem tI{d:Type}{c:Bool}{a b:AB8 d}{R:d->Prop}(e:c=true->B7 a R)(f:c=false->B7 b R):B7 (if c=true then a else b) R:=by
 cases c with
 |true=>simpa using e rfl
 |false=>simpa using f rfl
theorem tM{a:Type}{o:AB8 a}{Q R:a->Prop}(h:B7 o Q)(k:∀x,Q x->R x):B7 o R:=by obtain⟨x,e,b⟩:=h;exact⟨x,e,k x b⟩
structure EW (t:AU):Prop where
 l:t.L.length<=4000000000000000000
 a:0<=t.At/\t.At<=t.L.length
 u:∀x∈t.L,0<=x/\x<256
theorem G8{t:AU}(b:EW t){n:Int}(hn:0<n/\n<1000):B7 (Ae t n) λr=>(0<=r.1/\r.1<n)/\EW r.2:=by
 have e:=b.l;have f:=b.a;unfold Ae Ae.J1;rw[CH (n:=t.At+1) (by omega) (by omega),CH (n:=t.At+1-1) (by omega) (by omega)];refine tI (λ_=> ?_) λh=> ?_
 . exact tI (λ_=>tR ⟨⟨by omega,hn.1⟩,b⟩) λh=>by cases h
 . have d:¬t.At>=(t.L.length:Int):=(by simpa using h);refine tI (λh=>absurd (AAq h) (by omega)) λ_=> ?_;refine tG (by omega) λx c=>tC (by omega) (tR ⟨?_,b.l,by simp only;omega,b.u⟩);have c:=b.u x c;rw[CH (by omega) (by omega)];exact⟨Int.tmod_nonneg _ c.1,Int.tmod_lt_of_pos _ hn.1⟩
def qS:AB9:=⟨#[113]⟩
def vN:List AB9:=[⟨#[97]⟩,⟨#[98]⟩,⟨#[120]⟩,⟨#[121]⟩,⟨#[118]⟩]
theorem W5{l k:List AB9}(h:(l.all λx=>k.any λy=>decide (x=y))=true){x:AB9}(c:x∈l):x∈k:=by obtain⟨y,a,b⟩:=List.any_eq_true.1 (AAm.1 h x c);rw[AAq b];exact a
theorem YR{x:AB9}(h:(vN.any λy=>decide (x=y))=true):x∈vN:=W5 (l:=[x]) (by simpa using h) (ABG.2 rfl)
def Tp:Nat->BB->Prop
 |0,_=>False
 |n+1,e=>e.Op=1/\e.L=[]\/(e.Op=2/\e.L=[]/\e.Name∈vN)\/(e.Op=3/\e.Name=qS/\∃a,e.L=[a]/\Tp n a)\/(e.Op∈[(6:Int),7,8,11,13,17]/\∃a b,e.L=[a,b]/\Tp n a/\Tp n b)
theorem okE_mono{n:Nat}:∀{e:BB},Tp n e->Tp (n+1) e:=by
 induction n with
 |zero=>exactλh=>h.elim
 |succ n ih=>
  intro e h;rcases h with h|h|⟨c,d,a,f,g⟩|⟨c,a,b,d,f,g⟩
  . exact .inl h
  . exact .inr (.inl h)
  . exact .inr (.inr (.inl ⟨c,d,a,f,ih g⟩))
  . exact .inr (.inr (.inr ⟨c,a,b,d,ih f,ih g⟩))
def Vk(m m':AN):Prop:=EW m'.t/\m'={m with t:=m'.t}
theorem Ul{R:AN->Int->AB8 (BB×AN)}{a:Int}{m:AN}{v:Int×AU}(d:EW v.2)(C:0<=v.1/\v.1<10){c:Bool}{j:Nat}(h:c=false->7<=v.1->∀k f,(f=0\/f=A1 (a-1))->EW k.t->B7 (R k f) λr=>Tp j r.1/\Vk k r.2):
 B7 (DB.J1 R a m v c) λr=>Tp (j+1) r.1/\Vk m r.2:=by
 unfold DB.J1 KJ Iy Ig;simp only[AAg];refine tI (λ_=> ?_) λu=>tI (λ_=> ?_) λl=> ?_
 . refine tB (G8 d (by omega)) ?_;rintro n ⟨_,b⟩;exact tR ⟨.inl ⟨rfl,rfl⟩,b,rfl⟩
 . refine tB (G8 d (by omega)) ?_;rintro n ⟨g,b⟩;exact tG g λx i=>tR ⟨.inr (.inl ⟨rfl,rfl,W5 (by decide) i⟩),b,rfl⟩
 . have l:=of_decide_eq_false l;have h:=h u (by omega);refine tI (λ_=> ?_) λ_=> ?_
   . refine tB (h _ _ (.inl rfl) d) ?_;rintro e ⟨b,q,s⟩;exact tR ⟨.inr (.inr (.inl ⟨rfl,rfl,_,rfl,b⟩)),q,by rw[s]⟩
   . refine tB (G8 d (by omega)) ?_;rintro n ⟨g,b⟩;refine tG g λx i=>tB (h _ _ (.inr rfl) b) ?_;rintro e ⟨o,g2,p⟩;refine tB (h _ _ (.inr rfl) g2) ?_;rintro B ⟨w,y,z⟩;exact tR ⟨.inr (.inr (.inr ⟨i,_,_,rfl,o,w⟩)),y,by rw[z,p]⟩
theorem okE_le{a b:Nat}(h:a<=b){e:BB}(c:Tp a e):Tp b e:=by
 induction h with
 |refl=>exact c
 |step _ ih=>exact okE_mono ih
theorem Uk{n:Nat}{m:AN}(hn:0<n)(c:EW m.t):B7 (CD n m 0) λr=>Tp 1 r.1/\Vk m r.2:=by
 obtain⟨n,rfl⟩:∃k,n=k+1:=⟨n-1,by omega⟩;show B7 (DB (CD n) m 0) _;unfold DB;refine tB (G8 c (by omega)) ?_;rintro v ⟨b,a⟩;refine tI (λ_=>Ul a b (λh=>by cases h)) λ_=>tI (λ_=>Ul a b λh d=> ?_) λh=> ?_
 . exact absurd (of_decide_eq_false h) (by omega)
 . simp at h
theorem expr_tot(d:Nat):∀(n:Nat)(m:AN),d<n->d<100->EW m.t->B7 (CD n m d) λr=>Tp (d+1) r.1/\Vk m r.2:=by
 induction d with
 |zero=>exactλn m hn _ a=>Uk hn a
 |succ d ih=>
  intro n m hn hd a;obtain⟨n,rfl⟩:∃k,n=k+1:=⟨n-1,by omega⟩;show B7 (DB (CD n) m _) _;unfold DB;refine tB (G8 a (by omega)) ?_;rintro v ⟨g,f⟩;have key:∀c,B7 (DB.J1 (CD n) ((d+1:Nat):Int) m v c) λr=>Tp (d+1+1) r.1/\Vk m r.2:=by
   intro c;refine Ul f g λ_ _ i j e b=> ?_;rcases e with rfl|rfl
   . exact tM (Uk (by omega) b) λr h=>⟨okE_le (by omega) h.1,h.2⟩
   . rw[CH (by omega) (by omega),show((d+1:Nat):Int)-1=(d:Int)from by omega];exact ih n i (by omega) (by omega) b
  exact tI (λ_=>key _) λ_=>tI (λ_=>key _) λ_=>key _
theorem Kk{m:AN}{d:Int}(hd:d=0\/d=1)(a:EW m.t):B7 (CD BP m d) λr=>Tp 2 r.1/\Vk m r.2:=by
 have b:=BU;rcases hd with rfl|rfl
 . exact tM (Uk (by omega) a) λr h=>⟨okE_le (by omega) h.1,h.2⟩
 . exact expr_tot 1 BP m (by omega) (by omega) a
theorem N6(l:List AB9)(s:AB9)(d:l.length<1000000):B7 (CP l s) λr=> -1<=r/\r<l.length:=by
 have c:=BU;have key:∀n (i:Nat),l.length<n+i->i<=l.length->B7 (CP.AZ l s n i) λr=> -1<=r/\r<l.length:=by
  intro n;induction n with
  |zero=>intro i a b;omega
  |succ n ih=>intro i a b;unfold CP.AZ CP.L1 CP.J1;refine tI (λh=> ?_) λ_=>tR (by omega);have h:=AAq h;refine tG (by omega) λx _=>tI (λ_=>tR (by omega)) λ_=> ?_;rw[Ai (by omega)];exact ih (i+1) (by omega) (by omega)
 exact key BP 0 (by omega) (by omega)
theorem Qj{m:AN}(a:m.held.length<1000)(s:AB9):B7 (Dp m s) λr=>r.2=m:=by unfold Dp;exact tB (N6 _ _ (by omega)) λ_ _=>tR rfl
end
theorem dR{a b:List Int}(d:a.Pairwise (· < ·))(f:b.Pairwise (· < ·))(h:∀x,x∈a↔x∈b):a=b:=by
 induction a generalizing b with
 |nil=>
  cases b with
  |nil=>rfl
  |cons y b=>have:=(h y).2 (by simp);grind
 |cons x a ih=>
  cases b with
  |nil=>grind
  |cons y b=>
   rw[List.pairwise_cons]at d f;have g:x=y:=by
    have c:=(h x).1 (by simp);have i:=(h y).2 (by simp);rcases ABH.1 c with e|c
    . exact e
    . grind
   grind
theorem Rp(d:Array Int)(hd:∀i j,i<=j->j<d.size->d[i]! <=d[j]!):∀m,m<=d.size->(∀x,x∈Lib.compactUpTo d m↔∃i,i<m/\d[i]! =x)/\(Lib.compactUpTo d m).Pairwise (· < ·):=by
 intro m;induction m with
 |zero=>intro _;exact⟨λx=>by simp[Lib.compactUpTo],by simp[Lib.compactUpTo]⟩
 |succ m ih=>
  intro n;obtain⟨g,b⟩:=ih (by omega);rw[Lib.compactUpTo_succ];by_cases a:Lib.keeps d m=true
  . rw[AAs a];refine⟨λx=> ?_,?_⟩
    . grind
    . rw[List.pairwise_append];refine⟨b,by simp,λx h y c=> ?_⟩;rw[ABG]at c;subst c;obtain⟨i,hi,e⟩:=(g x).1 h;have f:m=0\/d[m]! ≠d[m-1]! :=(by simpa[Lib.keeps]using a);have k:=hd i (m-1) (by omega) (by omega);have l:=hd (m-1) m (by omega) (by omega);omega
  . rw[AAp a,List.append_nil];refine⟨λx=> ?_,b⟩;have f:¬(m=0\/d[m]! ≠d[m-1]!):=(by simpa[Lib.keeps]using a);grind
def RU(l:List Int):List Int:=l.mergeSort λx y=>decide (x<=y)
def O3(l:List Int):List Int:=Lib.compact (RU l)
theorem Ti(l:List Int):(RU l).length=l.length:=by simp[RU]
theorem wS(l:List Int)(x:Int):x∈RU l↔x∈l:=by simp[RU]
theorem Tj(l:List Int):(RU l).Pairwise (· <= ·):=by have:=List.pairwise_mergeSort (le:=λx y:Int=>decide (x<=y)) (by simp;omega) (by simp;omega) l;simpa[RU]using this
theorem RL(l:List Int)(h:l.Pairwise (· <= ·)):(∀x,x∈Lib.compact l↔x∈l)/\(Lib.compact l).Pairwise (· < ·):=by
 have hd:∀i j,i<=j->j<l.toArray.size->l.toArray[i]! <=l.toArray[j]! :=by
  intro i j b d;have f:j<l.length:=by simpa using d
  rcases Nat.lt_or_eq_of_le b with a|rfl
  . have:=List.pairwise_iff_getElem.1 h i j (by omega) f a;grind
  . omega
 obtain⟨a,c⟩:=Rp l.toArray hd l.length (by simp);refine⟨λx=> ?_,c⟩;show x∈Lib.compactUpTo l.toArray l.length↔_;rw[a x,List.mem_iff_getElem];constructor
 . grind
 . rintro⟨i,hi,e⟩;exact⟨i,hi,by simp_all⟩
theorem nR(l:List Int):(Lib.compact l).length<=l.length:=by unfold Lib.compact Lib.compactUpTo;grind
theorem Kt(l:List Int)(x:Int):x∈O3 l↔x∈l:=by unfold O3;rw[(RL _ (Tj l)).1,wS]
theorem Lo(l:List Int):(O3 l).Pairwise (· < ·):=(RL _ (Tj l)).2
theorem UP(l:List Int):(O3 l).length<=l.length:=by have:=nR (RU l);rw[Ti]at this;exact this
def Hj(out:List Int)(x:Int):Nat:=(out.takeWhile λy=>decide (y<x)).length
def ins(out:List Int)(x:Int):List Int:=if out[Hj out x]? =some x then out else out.take (Hj out x)++x::out.drop (Hj out x)
theorem bH(out:List Int)(x:Int)(i:Nat)(hi:i<=out.length)(a:∀(k:Nat)(b:k<out.length),k<i->out[k]<x)(e:∀(d:i<out.length),¬out[i]<x):Hj out x=i:=by
 unfold Hj;induction out generalizing i with
 |nil=>simp_all
 |cons y out ih=>
  by_cases f:y<x
  . cases i with
    |zero=>simp_all
    |succ i=>rw[List.takeWhile_cons_of_pos (by simp_all),ABe];rw[ih i (by simp_all) (λk b c=>by grind) (λd=>by simp_all)]
  . cases i with
    |zero=>simp_all
    |succ i=>have:=a 0 (by simp) (by omega);grind
theorem X6(out:List Int)(x:Int):(ins out x).length<=out.length+1:=by unfold ins;grind
def insAll(l:List Int):List Int:=l.foldl ins []
theorem vZ(out:List Int)(x:Int)(h:out.Pairwise (· < ·)):(ins out x).Pairwise (· < ·)/\∀z,z∈ins out x↔z∈out\/z=x:=by
 have key:∀(out:List Int),out.Pairwise (· < ·)->(∀(k:Nat)(a:k<out.length),k<Hj out x->out[k]<x)/\(∀(k:Nat)(a:k<out.length),Hj out x<=k->x<=out[k])/\Hj out x<=out.length:=by
  intro out;induction out with
  |nil=>intro _;simp[Hj]
  |cons y out ih=>
   intro b;rw[List.pairwise_cons]at b;obtain⟨g,g2,i⟩:=ih b.2;by_cases c:y<x
   . have e:Hj (y::out) x=Hj out x+1:=(by unfold Hj;rw[List.takeWhile_cons_of_pos (by simp_all)];rfl);grind
   . have e:Hj (y::out) x=0:=(by unfold Hj;rw[List.takeWhile_cons_of_neg (by simp_all)];rfl);rw[e];refine⟨λk a j=>by omega,λk a _=> ?_,by simp⟩;cases k with
     |zero=>simp;omega
     |succ k=>
      have f:k<out.length:=by simpa using a
      have:=b.1 out[k] (AA0 f);simp;omega
 obtain⟨g,g2,i⟩:=key out h;unfold ins;split
 . grind
 . rename_i p;have l:out=out.take (Hj out x)++out.drop (Hj out x):=(ABq _ _).symm;refine⟨?_,λz=> ?_⟩
   . rw[List.pairwise_append,List.pairwise_cons];refine⟨h.sublist (List.take_sublist _ _),⟨λz d=> ?_,h.sublist (List.drop_sublist _ _)⟩,λy c z d=> ?_⟩
     . obtain⟨k,a,rfl⟩:=List.mem_iff_getElem.1 d;rw[List.getElem_drop];rw[List.length_drop]at a;have m:=g2 (Hj out x+k) (by omega) (by omega);by_cases q:k=0
       . grind
       . have n:=g2 (Hj out x) (by omega) (by omega);have o:=List.pairwise_iff_getElem.1 h (Hj out x) (Hj out x+k) (by omega) (by omega) (by omega);omega
     . obtain⟨k,a,rfl⟩:=List.mem_iff_getElem.1 c;grind
   . rw[AAz,ABH];constructor
     all_goals grind
theorem vY(l:List Int):insAll l=O3 l:=by
 have key:∀(l a:List Int),a.Pairwise (· < ·)->(l.foldl ins a).Pairwise (· < ·)/\∀z,z∈l.foldl ins a↔z∈a\/z∈l:=by
  intro l;induction l with
  |nil=>simp_all
  |cons x l ih=>intro a h;obtain⟨b,c⟩:=vZ a x h;grind
 obtain⟨b,c⟩:=key l [] (by simp);exact dR b (Lo l) λz=>by rw[Kt];have:=c z;simpa[insAll]using this
def JV(c:Int):Bool:=(decide (97<=c)&&decide (c<=122))||(decide (65<=c)&&decide (c<=90))
def ON(c:Int):Bool:=JV c||((decide (48<=c)&&decide (c<=57))||c==95)
def Ka(s:AB9)(i:Nat):Int:=((s.get! i).toNat:Int)
def Pd(s:AB9)(i:Nat):Bool:=JV (Ka s i)||(decide (0<i)&&((decide (48<=Ka s i)&&decide (Ka s i<=57))||Ka s i==95))
theorem dM(s:AB9)(i:Nat)(h:(s.get! i).toNat<128):Utf8.decode s i=((s.get! i).toNat,1):=by unfold Utf8.decode;simp[h]
theorem nU(s:AB9)(i:Nat)(h:¬(s.get! i).toNat<128):128<=(Utf8.decode s i).1:=by
 unfold Utf8.decode;simp only[Nat.add_zero,h,AAx];have a:128<=Utf8.runeError:=by decide
 grind
def qY(c:Int)(pos:Nat):Bool:=JV c||(decide (0<pos)&&((decide (48<=c)&&decide (c<=57))||c==95))
theorem UU(s:AB9)(L:Nat->AB8 Bool)(pos:Nat)(a:pos<s.size):
 Cy.L1 s L pos=if qY ((Utf8.decode s pos).1:Int) pos=true then L (pos+(Utf8.decode s pos).2)else some false:=by
 unfold Cy.L1;rw[BC a];unfold Cy.J2 Cy.J3 qY JV;grind
theorem NB(s:AB9):∀(n pos:Nat),pos<=s.size->s.size<n+pos->Cy.AZ s n pos=some ((List.range' pos (s.size-pos)).all (Pd s))
 |0,pos,h1,h2=>by omega
 |n+1,pos,h1,h2=>by
  unfold Cy.AZ;by_cases b:pos<s.size
  . rw[UU s _ pos b];have c:List.range' pos (s.size-pos)=pos::List.range' (pos+1) (s.size-(pos+1)):=(by rw[show s.size-pos=(s.size-(pos+1))+1 from by omega,List.range'_succ]);rw[c,ABW];by_cases a:(s.get! pos).toNat<128
    . rw[dM s pos a,NB s n (pos+1) (by omega) (by omega)];show(if Pd s pos=true then _ else _)=_
      grind
    . have d:=nU s pos a;have f:Pd s pos=false:=(by unfold Pd JV Ka;simp;omega);have e:qY ((Utf8.decode s pos).1:Int) pos=false:=(by unfold qY JV;simp;omega);simp_all
  . unfold Cy.L1;rw[Ad b];have:s.size-pos=0:=(by omega);simp[Cy.J4,this]
theorem sA{s:AB9}{i:Nat}(h:i<s.size):sgt s (i:Int)=some (s.get! i):=by
 unfold sgt;rw[AAs (by omega)];simp only[ABS];rw[getElem?_pos s i h];congr 1;have e:s.get! i=s[i]:=by simp[ByteArray.get!,getElem!_pos,h];rfl
 grind
theorem Ou(c:Int):GC c=some (JV c):=by unfold GC GC.J1 JV;grind
theorem Yc(c:Int):HT c=some (ON c):=by unfold HT Hv;rw[Ou,AAg];unfold HT.J1 Hv.J1 ON;grind
theorem Mz(s:AB9)(c:s.size<=12):∀(n i:Nat),i<=s.size->s.size<n+i->B3.AZ s n i=some ((List.range' i (s.size-i)).all λk=>ON (Ka s k))
 |0,pos,h1,h2=>by omega
 |n+1,i,h1,h2=>by
  unfold B3.AZ B3.L1;by_cases b:i<s.size
  . rw[BC (by omega),sA b,AAg,Yc,AAg,Ai (by omega),Mz s c n (i+1) (by omega) (by omega)];have a:List.range' i (s.size-i)=i::List.range' (i+1) (s.size-(i+1)):=(by rw[show s.size-i=(s.size-(i+1))+1 from by omega,List.range'_succ]);rw[a,ABW];show(if(!(ON (Ka s i)))=true then _ else _)=_
    grind
  . rw[Ad (by omega)];have:s.size-i=0:=(by omega);simp[B3.J2,this]
theorem Po(s:AB9):∀(n i:Nat),i<=22->22<n+i->Dm.AZ s n i=some ((Lz.drop i).any λx=>s.toList==x.toList)
 |0,pos,h1,h2=>by omega
 |n+1,i,h1,h2=>by
  have b:Lz.length=22:=rfl;unfold Dm.AZ Dm.L1;by_cases c:i<22
  . have a:i<Lz.length:=(by omega);rw[BC (by omega),AAs (by omega),CZ a,AAg,Ai (by omega),Po s n (i+1) (by omega) (by omega),E6 a,List.any_cons];grind
  . rw[Ad (by omega)];have:Lz.drop i=[]:=List.drop_eq_nil_of_le (by omega);simp[Dm.J1,this]
def isKw(s:AB9):Bool:=Lz.any λx=>s.toList==x.toList
theorem Sl(s:AB9):Dm s=some (isKw s):=Po s BP 0 (by omega) (by decide)
theorem T0:KN=some Lz:=rfl
theorem LF(s:AB9)(v:List AB9)(b:v.length<=100):∀(n i:Nat),i<=v.length->v.length<n+i->DQ.AZ s v n i=some ((v.drop i).any λx=>x.toList==s.toList)
 |0,pos,h1,h2=>by omega
 |n+1,i,h1,h2=>by
  unfold DQ.AZ DQ.L1;by_cases a:i<v.length
  . rw[BC (by omega),CZ a,AAg,Ai (by omega),LF s v b n (i+1) (by omega) (by omega),E6 a,List.any_cons];grind
  . rw[Ad (by omega)];have:v.drop i=[]:=List.drop_eq_nil_of_le (by omega);simp[DQ.J1,this]
theorem SW(s:AB9):DQ s=some (isKw s):=by unfold DQ;rw[T0,AAg];refine(LF s Lz (by decide) BP 0 (by omega) (by decide)).trans ?_;rw[ABJ];congr 1;unfold isKw;grind
def Tk(s:AB9):Bool:=decide (1<=s.size)&&decide (s.size<=12)&& !isKw s&&(List.range' 0 s.size).all (Pd s)
theorem Wj(s:AB9):Cy s=some (Tk s):=by
 unfold Cy;by_cases c:s.size<1
 . rw[BC (by omega)];simp[Cy.J1,Tk];omega
 . rw[Ad (by omega)];by_cases d:s.size>12
   . rw[BC (by omega)];simp[Cy.J1,Tk];omega
   . rw[Ad (by omega),Sl,AAg];unfold Cy.J1;rw[NB s BP 0 (by omega) (by have:BP=18446744073709551616:=rfl;omega)];have a:1<=s.size:=(by omega);have b:s.size<=12:=(by omega);simp only[Tk,a,b,decide_true,ABD,Nat.sub_zero];grind
theorem oU(s:AB9)(h:0<s.size):(JV (Ka s 0)&&(List.range' 0 s.size).all λk=>ON (Ka s k))=(List.range' 0 s.size).all (Pd s):=by
 have b:List.range' 0 s.size=0::List.range' 1 (s.size-1):=by rw[show s.size=(s.size-1)+1 from by omega,List.range'_succ];simp
 rw[b,ABW,ABW];have c:Pd s 0=JV (Ka s 0):=by simp[Pd]
 have d:ON (Ka s 0)=(JV (Ka s 0)||((decide (48<=Ka s 0)&&decide (Ka s 0<=57))||Ka s 0==95)):=rfl;have f:(List.range' 1 (s.size-1)).all (Pd s)=(List.range' 1 (s.size-1)).all λk=>ON (Ka s k):=by
  rw[Bool.eq_iff_iff,AAm,AAm];have e:∀k∈List.range' 1 (s.size-1),Pd s k=ON (Ka s k):=λk a=>by have:0<k:=(by have:=List.mem_range'_1.1 a;omega);simp[Pd,ON,this]
  exact⟨λh k a=>e k a▸h k a,λh k a=>(e k a).symm▸h k a⟩
 grind
theorem Ot(s:AB9):B3 s=some (Tk s):=by
 unfold B3;by_cases c:s.size<1
 . rw[BC (by omega)];simp[B3.J1,Tk];omega
 . rw[Ad (by omega)];by_cases d:s.size>12
   . rw[BC (by omega)];simp[B3.J1,Tk];omega
   . rw[Ad (by omega),show(0:Int)=((0:Nat):Int)from rfl,sA (by omega),AAg,Ou,AAg,SW,AAg];unfold B3.J1;rw[show(0:Int)=((0:Nat):Int)from rfl,Mz s (by omega) BP 0 (by omega) (by have:BP=18446744073709551616:=rfl;omega)];have a:1<=s.size:=(by omega);have b:s.size<=12:=(by omega);simp only[Tk,a,b,decide_true,ABD,Nat.sub_zero];rw[<- oU s (by omega)];show(if(!JV (Ka s 0))=true then _ else _)=_
     grind
instance:Inhabited Ia:=⟨⟨⟨#[]⟩,false⟩⟩
theorem ba_beq(a b:AB9):(a==b)=(a.data==b.data):=by cases a;cases b;rfl
theorem uB(a b:AB9):(a.toList==b.toList)=(a==b):=by rw[ba_beq,Bool.eq_iff_iff,AAw,AAw,ByteArray.toList_eq,ByteArray.toList_eq];simp_all
theorem VG(wv:AD)(L1:List AB9->Int->AB8 (List AB9×Bool))(L1':List AB9->Int->AB8 (List AB9×Bool))(F:List AB9×Bool->AB8 (List AB9×Bool))(e:F ([],false)=some ([],false))(f:∀a b,L1 a b=(L1' a b).bind F)(i:Int)(l:List AB9)(x:DL):
 ∀(m:Nat)(k:Int)(c:DL),c.Name=x.Name->c.Bw=x.Bw->c.Gl=false->c.Init=x.Init->
  BR.Cr L1 i l wv x m k=(AY.Cr L1' i wv.Cells l x m c k).bind F
 |0,k,c,_,_,_,_=>rfl
 |m+1,k,c,e1,e2,e3,e4=>by
  have o:=λp=>VG wv L1 L1' F e f i l x m p ⟨c.Name,k,c.Bw,c.Gl,c.Init⟩ e1 e2 e3 e4;unfold BR.Cr AY.Cr BR.L2 AY.L2;by_cases d:k<x.Bw
  . rw[BC d,BC d];cases gt wv.Cells (A1 (i+k))with
    |none=>rfl
    |some y=>simp only[AAg,BR.J2,o,e1,e2,e3,e4];by_cases g:y.Index=k<;>by_cases h:y.Name.toList=x.Name.toList<;>by_cases j:y.Bw=x.Bw<;>by_cases n:y.Init=x.Init<;>cases a5:y.Gl<;>simp[g,h,j,n,e]
  . rw[Ad d,Ad d];simp only[BR.J3,AY.J2,f,e2]
def NF(wv:AD):List AB9×Bool->AB8 (List AB9×Bool):=λv=>if v.2=true then BR.J4 wv v.1 else some ([],false)
theorem aP(wv:AD)(l:wv.Cells.length<=12):∀(n:Nat)(names:List AB9)(i:Int),
 BR.AZ wv n names i=(AY.AZ wv.Cells n names i).bind (NF wv)
 |0,_,_=>rfl
 |n+1,names,i=>by
  have j:=aP wv l n;unfold BR.AZ AY.AZ BR.L1 AY.L1;by_cases hi:i<(wv.Cells.length:Int)
  . rw[BC hi,BC hi];cases hx:gt wv.Cells i with
    |none=>rfl
    |some x=>
     simp only[AAg];by_cases g:Ak (names.length+1) 16=true
     . rw[AAs g,AAs g];by_cases d:x.Bw=0
       . simp only[d,ABb,AA5,j];by_cases c:x.Index=0<;>simp[c,NF]
       . simp only[d,AAw,AAx,BR.J1,AY.J1];by_cases c:x.Bw<1
         . simp[c,NF]
         . by_cases e:x.Bw>4
           . simp[c,e,NF]
           . simp only[c,e,decide_false,AAr,AAx];have m:=VG wv _ _ (NF wv) rfl (λa b=>j a b) i names x BP 0 x rfl rfl;by_cases f:x.Bw>A1 ((wv.Cells.length:Int)-i)
             . cases x.Gl<;>simp[f,NF]
             . simp only[f,decide_false,AAr,AAx];cases hv:x.Gl with
               |false=>simp_all
               |true=>
                simp only[AA5];have o:0<=i:=by
                 unfold gt at hx;by_cases h:0<=i
                 . exact h
                 . simp_all
                show BR.Cr _ _ _ _ _ BP 0=_;rw[show BP=18446744073709551615+1 from rfl];unfold BR.Cr BR.L2;rw[BC (by omega),CH (by omega) (by omega),Int.add_zero,hx];simp only[AAg,BR.J2,hv];by_cases k:x.Index=0<;>simp[k,NF]
     simp_all
  . rw[Ad hi,Ad hi];simp[AY.J3,NF]
theorem Mh(l:List DL)(j:l.length<=12)(L1:List AB9->Int->AB8 (List AB9×Bool))(names:List AB9)(x:DL)(i:Nat)(d:1<=x.Bw)(f:x.Bw<=4)(n:x.Bw<=(l.length:Int)-i)(Q:List AB9×Bool->Prop)(g:Q ([],false))(b:∃v,L1 (names++[x.Name]) ((i+x.Bw.toNat:Nat):Int)=some v/\Q v):
 ∀(m k:Nat)(a:DL),a.Bw=x.Bw->k<=x.Bw->x.Bw<(m+k:Nat)->∃v,AY.Cr L1 (i:Int) l names x m a (k:Int)=some v/\Q v
 |0,k,a,e,h,h'=>by omega
 |m+1,k,a,e,h,h'=>by
  unfold AY.Cr AY.L2;by_cases c:(k:Int)<x.Bw
  . rw[BC c,CH (by omega) (by omega),show(i:Int)+(k:Int)=((i+k:Nat):Int)from by omega,CZ (by omega),AAg,Ai (by omega)];split
    . simp_all
    . exact Mh l j L1 names x i d f n Q g b m (k+1) _ e (by omega) (by omega)
  . rw[Ad c];unfold AY.J2;rw[e,CH (by omega) (by omega),show(i:Int)+x.Bw=((i+x.Bw.toNat:Nat):Int)from by omega];exact b
theorem Mi(l:List DL)(d:l.length<=12):∀(n i:Nat)(names:List AB9),i<=l.length->l.length<n+i->names.length<=i->∃v,AY.AZ l n names (i:Int)=some v/\v.1.length<=l.length
 |0,i,names,a,b,c=>by omega
 |n+1,i,names,a,b,c=>by
  unfold AY.AZ AY.L1;by_cases hi:i<l.length
  . rw[BC (by omega),CZ hi,AAg,BO (by omega)];have f:∃v,some (([],false):List AB9×Bool)=some v/\v.1.length<=l.length:=⟨_,rfl,by simp⟩;generalize l[i]=x;by_cases e:x.Bw=0
    . simp only[e,ABb,AA5];rw[Ai (by omega)];split
      . exact f
      . exact Mi l d n (i+1) _ (by omega) (by omega) (by simp;omega)
    . simp only[e,AAw,AAx,AY.J1];rw[CH (n:=(l.length:Int)-i) (by omega) (by omega)];by_cases a:x.Bw<1
      . simp[a]
      . by_cases b:x.Bw>4
        . simp[a,b]
        . by_cases c:x.Gl=true
          . simp_all
          . by_cases g:x.Bw>(l.length:Int)-i
            . simp_all
            . simp only[a,b,c,g,decide_false,AAr,AAx];refine Mh l d _ names x i (by omega) (by omega) (by omega) _ (by simp) ?_ BP 0 x rfl (by omega) (by have:=BU;omega);exact Mi l d n (i+x.Bw.toNat) _ (by omega) (by omega) (by simp;omega)
  . rw[Ad (by omega)];exact⟨_,rfl,by simp;omega⟩
def Mr(wv:AD):List AB9:=wv.AE.map (·.Name)++(wv.Af.map (·.Name)++(wv.AK++wv.AA))
def Vz:List AB9->List AB9->Bool
 |_,[]=>true
 |seen,x::r=>Tk x&& !(seen.any λy=>y==x)&&Vz (seen++[x]) r
structure Small (wv:AD):Prop where
 c:wv.Cells.length<=12
 l:wv.AE.length<=4
 d:wv.Af.length<=2
 f:wv.AK.length<=2
 t:wv.AA.length<=4
 s:wv.BL.length<=60
theorem names.L3(wv:AD)(a:List AB9)(c:(a++wv.AK++wv.AA).length<=1000):∀(n i:Nat)(b:List AB9),i<=(a++wv.AK++wv.AA).length->(a++wv.AK++wv.AA).length<n+i->
 BF.Gq a wv n (i:Int) b=some (Vz b ((a++wv.AK++wv.AA).drop i))
 |0,i,b,h1,h2=>by omega
 |n+1,i,b,h1,h2=>by
  unfold BF.Gq BF.L3;by_cases hi:i<(a++wv.AK++wv.AA).length
  . rw[BC (by omega),CZ hi,AAg,Wj,AAg,E6 hi];unfold BF.J3;rw[Ai (by omega),names.L3 wv a c n (i+1) _ (by omega) (by omega)];generalize (a++wv.AK++wv.AA)[i]=x;rw[Vz];grind
  . rw[Ad (by omega),Gb hi];rfl
theorem names.J2(wv:AD)(b:Small wv)(a:List AB9)(c:a.length<=100):BF.J2 wv a=some (Vz [] (a++(wv.AK++wv.AA))):=by
 have:=b.f;have:=b.t;have d:=BU;unfold BF.J2;rw[BO (by omega),BO (by simp;omega)]
 have:=names.L3 wv a (by simp;omega) BP 0 [] (by omega) (by simp;omega);simp_all
theorem names.L2(wv:AD)(b:Small wv):∀(n i:Nat)(a:List AB9),i<=wv.Af.length->wv.Af.length<n+i->a.length<=50+i->BF.Cr wv n a (i:Int)=some (Vz [] (a++((wv.Af.drop i).map (·.Name)++(wv.AK++wv.AA))))
 |0,i,a,h1,h2,h3=>by omega
 |n+1,i,a,h1,h2,h3=>by
  have:=b.d;unfold BF.Cr BF.L2;by_cases hi:i<wv.Af.length
  . rw[BC (by omega),CZ hi,AAg,BO (by omega),Ai (by omega),names.L2 wv b n (i+1) _ (by omega) (by omega) (by simp;omega),E6 hi];grind
  . rw[Ad (by omega),Gb hi,names.J2 wv b a (by omega)];simp
theorem names.L1(wv:AD)(b:Small wv):∀(n i:Nat)(a:List AB9),i<=wv.AE.length->wv.AE.length<n+i->a.length<=20+i->BF.AZ wv n a (i:Int)=some (Vz [] (a++((wv.AE.drop i).map (·.Name)++(wv.Af.map (·.Name)++(wv.AK++wv.AA)))))
 |0,i,a,h1,h2,h3=>by omega
 |n+1,i,a,h1,h2,h3=>by
  have:=b.l;have:=b.d;have c:=BU;unfold BF.AZ BF.L1;by_cases hi:i<wv.AE.length
  . rw[BC (by omega),CZ hi,AAg,BO (by omega),Ai (by omega),names.L1 wv b n (i+1) _ (by omega) (by omega) (by simp;omega),E6 hi];grind
  . rw[Ad (by omega),Gb hi];unfold BF.J1
    have:=names.L2 wv b BP 0 a (by omega) (by omega) (by omega);simp_all
theorem names_eq(wv:AD)(b:Small wv)(a:List AB9)(d:a.length<=12):BF wv a=some (Vz [] (a++Mr wv)):=by
 have:=b.l;have c:=BU;unfold BF;rw[BO (by omega)]
 have:=names.L1 wv b BP 0 a (by omega) (by omega) (by omega);rw[ABJ]at this;exact this
theorem OY.J6(wv:AD)(b:Small wv)(a:List AB9)(c:a.length<=100):BR.J6 wv a=some (a++(wv.AK++wv.AA),true):=by have:=b.f;have:=b.t;unfold BR.J6;rw[BO (by omega),BO (by simp;omega),ABt]
theorem OY.L4(wv:AD)(b:Small wv):∀(n i:Nat)(a:List AB9),i<=wv.Af.length->wv.Af.length<n+i->a.length<=50+i->BR.yG wv n a (i:Int)=some (a++((wv.Af.drop i).map (·.Name)++(wv.AK++wv.AA)),true)
 |0,i,a,h1,h2,h3=>by omega
 |n+1,i,a,h1,h2,h3=>by
  have:=b.d;unfold BR.yG BR.L4;by_cases hi:i<wv.Af.length
  . rw[BC (by omega),CZ hi,AAg,BO (by omega),Ai (by omega),OY.L4 wv b n (i+1) _ (by omega) (by omega) (by simp;omega),E6 hi];grind
  . rw[Ad (by omega),Gb hi,OY.J6 wv b a (by omega)];simp
theorem OY.L3(wv:AD)(b:Small wv):∀(n i:Nat)(a:List AB9),i<=wv.AE.length->wv.AE.length<n+i->a.length<=20+i->BR.Gq wv n a (i:Int)=some (a++((wv.AE.drop i).map (·.Name)++(wv.Af.map (·.Name)++(wv.AK++wv.AA))),true)
 |0,i,a,h1,h2,h3=>by omega
 |n+1,i,a,h1,h2,h3=>by
  have:=b.l;have:=b.d;have c:=BU;unfold BR.Gq BR.L3;by_cases hi:i<wv.AE.length
  . rw[BC (by omega),CZ hi,AAg,BO (by omega),Ai (by omega),OY.L3 wv b n (i+1) _ (by omega) (by omega) (by simp;omega),E6 hi];grind
  . rw[Ad (by omega),Gb hi];unfold BR.J5
    have:=OY.L4 wv b BP 0 a (by omega) (by omega) (by omega);simp_all
theorem OY.J4(wv:AD)(b:Small wv)(a:List AB9)(c:a.length<=12):BR.J4 wv a=some (a++Mr wv,true):=by
 have:=b.l;have d:=BU;unfold BR.J4
 have:=OY.L3 wv b BP 0 a (by omega) (by omega) (by omega);rw[ABJ]at this;exact this
theorem qJ(l:List AB9)(x:AB9)(a:l.length<=1000):∀(n i:Nat),i<=l.length->l.length<n+i->∃r,CP.AZ l x n (i:Int)=some r/\(0<=r↔((l.drop i).any λy=>y==x)=true)
 |0,i,h1,h2=>by omega
 |n+1,i,h1,h2=>by
  unfold CP.AZ CP.L1;by_cases hi:i<l.length
  . rw[BC (by omega),CZ hi,AAg,Ai (by omega),E6 hi,uB,List.any_cons];obtain⟨r,c,b⟩:=qJ l x a n (i+1) (by omega) (by omega);grind
  . rw[Ad (by omega),Gb hi];exact⟨-1,rfl,by simp⟩
theorem at_eq(l:List AB9)(x:AB9)(c:l.length<=1000):∃r,CP l x=some r/\decide (r>=0)=(l.any λy=>y==x):=by obtain⟨r,a,b⟩:=qJ l x c BP 0 (by omega) (by have:=BU;omega);rw[ABJ]at b;refine⟨r,a,?_⟩;grind
theorem Vh(wv:AD)(v:List AB9×Bool)(d:v.1.length<=1000):∀(n i:Nat),i<=v.1.length->v.1.length<n+i->
 As.AZ v wv n (i:Int)=if Vz (v.1.take i) (v.1.drop i)=true then As.J3 wv else some false
 |0,i,h1,h2=>by omega
 |n+1,i,h1,h2=>by
  unfold As.AZ As.L1;by_cases hi:i<v.1.length
  . rw[BC (by omega),CZ hi,AAg,Ot,AAg,E6 hi,AAs (c:=0<=(i:Int)/\(i:Int).toNat<=v.1.length) (by simp;omega),ABS];obtain⟨r,a,b⟩:=at_eq (v.1.take i) v.1[i] (by simp;omega);rw[a,AAg,b];unfold As.J2;rw[Ai (by omega),Vh wv v d n (i+1) (by omega) (by omega),Vz,AA2 hi];grind
  . rw[Ad (by omega),Gb hi];rfl
def HD(nt:Nat):Int->Int->List Da->Bool
 |_,_,[]=>true
 |t,n,x::r=>if x.Thread<t\/x.Thread>=nt then false else if x.Thread>t then x.Stmt==0&&HD nt x.Thread 1 r else x.Stmt==n&&HD nt t (n+1) r
theorem Sk(wv:AD)(b:Small wv):∀(n i:Nat)(t:Int)(a:Nat),i<=wv.BL.length->wv.BL.length<n+i->a<=i->CY.AZ wv n t (a:Int) (i:Int)=some (HD wv.AA.length t a (wv.BL.drop i))
 |0,i,t,a,h1,h2,h3=>by omega
 |n+1,i,t,a,h1,h2,h3=>by
  have:=b.s;unfold CY.AZ CY.L1;by_cases hi:i<wv.BL.length
  . rw[BC (by omega),CZ hi,AAg,E6 hi];simp only[CY.J1,CY.J2];rw[Ai (i:=i) (by omega),Ai (i:=a) (by omega),show A1 (0+1)=((1:Nat):Int)from rfl];rw[Sk wv b n (i+1) _ (a+1) (by omega) (by omega) (by omega),Sk wv b n (i+1) _ 1 (by omega) (by omega) (by omega)];generalize wv.BL[i]=x;rw[HD];grind
  . rw[Ad (by omega),Gb hi];rfl
theorem Vi(wv:AD)(j:Small wv):∀(n i:Nat)(t:Int)(e:Nat),i<=wv.BL.length->wv.BL.length<n+i->e<=i->(∀(h:0<i)(y:i-1<wv.BL.length),t=wv.BL[i-1].Thread/\(e:Int)=wv.BL[i-1].Stmt+1)->(i=0->t=0/\e=0)->0<=t->
 As.Gq wv n (i:Int)=some (HD wv.AA.length t e (wv.BL.drop i))
 |0,i,t,e,h1,h2,h3,_,_,_=>by omega
 |n+1,i,t,e,h1,h2,h3,h4,h5,h6=>by
  have:=j.s;unfold As.Gq As.L3;by_cases hi:i<wv.BL.length
  . rw[BC (by omega),CZ hi,AAg,E6 hi];have v:∀(f:Int)(d:Nat),d<=i+1->(f=wv.BL[i].Thread/\(d:Int)=wv.BL[i].Stmt+1)->0<=f->As.Gq wv n ((i+1:Nat):Int)=some (HD wv.AA.length f d (wv.BL.drop (i+1))):=
     λf d a b c=>Vi wv j n (i+1) f d (by omega) (by omega) a (λ_ _=>b) (by omega) c
    simp only[As.J6,As.J7,As.J8,As.J9];rw[Ai (i:=i) (by omega)];rw[HD];by_cases a0:wv.BL[i].Thread<0
    . grind
    . by_cases k:wv.BL[i].Thread>=(wv.AA.length:Int)
      . grind
      . simp only[a0,k,decide_false,ABU,AAr,AAx];by_cases z:i=0
        . grind
        . have q:((i:Int)==0)=false:=(by simp;omega);have g:gt wv.BL (A1 ((i:Int)-1))=some wv.BL[i-1]:=(by rw[CH (by omega) (by omega),show(i:Int)-1=((i-1:Nat):Int)from by omega,CZ (by omega)]);obtain⟨o,p⟩:=h4 (by omega) (by omega);have u:A1 (wv.BL[i-1].Stmt+1)=(e:Int):=(by rw[<- p];exact CH (by omega) (by omega));have r:decide ((i:Int)>0)=true:=(by simp;omega);simp only[q,g,AAg,AAr,AAx,u,<- o,r,AA5];by_cases l:t=wv.BL[i].Thread
          . have w:¬wv.BL[i].Thread<t:=(by omega);have x:¬wv.BL[i].Thread>t:=(by omega);simp only[l,bne_self_eq_false,AAr,AAx,Int.lt_irrefl,gt_iff_lt];by_cases m:wv.BL[i].Stmt=(e:Int)
            . simp only[m,bne_self_eq_false,AAr,AAx,ABb,ABD];rw[v wv.BL[i].Thread (e+1) (by omega) ⟨rfl,by omega⟩ (by omega)];rfl
            grind
          grind
  . rw[Ad (by omega),Gb hi];rfl
theorem sites_eq(wv:AD)(a:Small wv):CY wv=some (HD wv.AA.length 0 0 wv.BL):=by have:=Sk wv a BP 0 0 0 (by omega) (by have:=a.s;have:=BU;omega) (by omega);rw[ABJ]at this;exact this
theorem xN(wv:AD)(a:Small wv):As.J5 wv=some (HD wv.AA.length 0 0 wv.BL):=by have:=Vi wv a BP 0 0 0 (by omega) (by have:=a.s;have:=BU;omega) (by omega) (by omega) (by simp) (by omega);rw[ABJ]at this;exact this
def RM(wv:AD)(c:Nc):Bool:=Df c.Mutex wv.AE.length&& !(ix wv.AE c.Mutex).RW
theorem PO(i:Int)(n:Nat):FC i (n:Int)=some (Df i n):=by unfold FC FC.J1 Df;grind
theorem Xi(wv:AD)(a:Small wv):∀(n i:Nat),i<=wv.Af.length->wv.Af.length<n+i->Bf.AZ wv n (i:Int)=if(wv.Af.drop i).all (RM wv)=true then some (HD wv.AA.length 0 0 wv.BL)else some false
 |0,i,h1,h2=>by omega
 |n+1,i,h1,h2=>by
  have:=a.d;unfold Bf.AZ Bf.L1;by_cases hi:i<wv.Af.length
  . rw[BC (by omega),CZ hi,AAg,E6 hi,Ai (by omega),Xi wv a n (i+1) (by omega) (by omega),ABW];generalize wv.Af[i]=c;unfold GL;rw[PO,AAg];unfold RM GL.J1;cases h:Df c.Mutex wv.AE.length with
    |false=>simp
    |true=>rw[AAs rfl,Cb h,AAg,AAg];grind
  . rw[Ad (by omega),Gb hi];unfold Bf.J4;rw[sites_eq wv a];rfl
theorem Vc(wv:AD)(a:Small wv):∀(n i:Nat),i<=wv.Af.length->wv.Af.length<n+i->As.Cr wv n (i:Int)=if(wv.Af.drop i).all (RM wv)=true then some (HD wv.AA.length 0 0 wv.BL)else some false
 |0,i,h1,h2=>by omega
 |n+1,i,h1,h2=>by
  have:=a.d;unfold As.Cr As.L2;by_cases hi:i<wv.Af.length
  . unfold As.J4;rw[BC (by omega),CZ hi,AAg,E6 hi,Ai (by omega),Vc wv a n (i+1) (by omega) (by omega),ABW];generalize wv.Af[i]=c;unfold RM;by_cases b:c.Mutex<0
    . have:Df c.Mutex wv.AE.length=false:=(by simp[Df];omega);simp_all
    . by_cases e:c.Mutex>=(wv.AE.length:Int)
      . have:Df c.Mutex wv.AE.length=false:=(by simp[Df];omega);simp_all
      . have h:Df c.Mutex wv.AE.length=true:=(by simp[Df];omega);rw[Ad b,Ad e,Cb h,AAg,h];grind
  . rw[Ad (by omega),Gb hi];exact xN wv a
def Cs(wv:AD):Bool:=decide (wv.Cells.length<=12)&&decide (wv.AE.length<=4)&&decide (wv.Af.length<=2)&&decide (wv.AK.length<=2)&&decide (1<=wv.AA.length)&&decide (wv.AA.length<=4)&&decide (wv.BL.length<=60)&&
 (match AY wv.Cells with
 |some v=>v.2&&Vz [] (v.1++Mr wv)&&wv.Af.all (RM wv)&&HD wv.AA.length 0 0 wv.BL
 |none=>false)
theorem Ub(wv:AD):Bf wv=some (Cs wv):=by
 unfold Bf Bf.J1;by_cases a:wv.Cells.length<=12
 . by_cases b:wv.AE.length<=4
   . by_cases c:wv.Af.length<=2
     . by_cases d:wv.AK.length<=2
       . by_cases e:wv.BL.length<=60
         . rw[Ad (by omega),Ad (by omega),Ad (by omega),Ad (by omega),AAp (by simp;omega)];unfold Bf.J2;by_cases g:1<=wv.AA.length
           . by_cases f:wv.AA.length<=4
             . have h:Small wv:=⟨a,b,c,d,f,e⟩;obtain⟨v,k,l⟩:=Mi wv.Cells a BP 0 [] (by omega) (by have:=BU;omega) (by simp);have i:AY wv.Cells=some v:=k;rw[Ad (by omega),AAp (by simp;omega),i,AAg];have j:Cs wv=(v.2&&Vz [] (v.1++Mr wv)&&wv.Af.all (RM wv)&&HD wv.AA.length 0 0 wv.BL):=(by unfold Cs;rw[i];simp[a,b,c,d,e,g,f]);rw[j,names_eq wv h v.1 (by omega),AAg];unfold Bf.J3;have m:=Xi wv h BP 0 (by omega) (by have:=BU;omega);grind
             . rw[Ad (by omega),AAs (by simp;omega)];simp[Cs,f]
           . rw[BC (by omega),AAs rfl];simp[Cs,g]
         . rw[Ad (by omega),Ad (by omega),Ad (by omega),Ad (by omega),AAs (by simp;omega)];simp[Cs,e]
       . rw[Ad (by omega),Ad (by omega),Ad (by omega),BC (by omega),AAs rfl];simp[Cs,d]
     . rw[Ad (by omega),Ad (by omega),BC (by omega),AAs rfl];simp[Cs,c]
   . rw[Ad (by omega),BC (by omega),AAs rfl];simp[Cs,b]
 . rw[BC (by omega),AAs rfl];simp[Cs,a]
theorem LY(wv:AD):As wv=some (Cs wv):=by
 unfold As As.J1;by_cases a:wv.Cells.length<=12
 . by_cases c:wv.AE.length<=4
   . by_cases d:wv.Af.length<=2
     . by_cases e:wv.AK.length<=2
       . by_cases h:1<=wv.AA.length
         . by_cases g:wv.AA.length<=4
           . by_cases f:wv.BL.length<=60
             . have k:Small wv:=⟨a,c,d,e,g,f⟩;obtain⟨v,j,n⟩:=Mi wv.Cells a BP 0 [] (by omega) (by have:=BU;omega) (by simp);have o:AY wv.Cells=some v:=j;rw[Ad (by omega),Ad (by omega),Ad (by omega),Ad (by omega),Ad (by omega),Ad (by omega),AAp (by simp;omega)];have m:Cs wv=(v.2&&Vz [] (v.1++Mr wv)&&wv.Af.all (RM wv)&&HD wv.AA.length 0 0 wv.BL):=(by unfold Cs;rw[o];simp[a,c,d,e,f,h,g]);have hn:BR wv=NF wv v:=(by have:=aP wv a BP [] 0;rw[show(0:Int)=((0:Nat):Int)from rfl,j]at this;exact this);rw[hn,m];unfold NF;have l:=Vc wv k BP 0 (by omega) (by have:=BU;omega);rw[ABJ]at l;cases fP:v.2 with
               |false=>simp
               |true=>rw[AAs rfl,OY.J4 wv k v.1 (by omega),AAg,AAp (by simp)];have b:(v.1++Mr wv).length<=1000:=(by simp[Mr];omega);have i:=Vh wv (v.1++Mr wv,true) b BP 0 (by omega) (by have:=BU;grind);rw[List.take_zero,ABJ]at i;rw[show(0:Int)=((0:Nat):Int)from rfl,i];unfold As.J3;grind
             . rw[Ad (by omega),Ad (by omega),Ad (by omega),Ad (by omega),Ad (by omega),Ad (by omega),AAs (by simp;omega)];simp[Cs,f]
           . rw[Ad (by omega),Ad (by omega),Ad (by omega),Ad (by omega),Ad (by omega),BC (by omega),AAs rfl];simp[Cs,g]
         . rw[Ad (by omega),Ad (by omega),Ad (by omega),Ad (by omega),BC (by omega),AAs rfl];simp[Cs,h]
       . rw[Ad (by omega),Ad (by omega),Ad (by omega),BC (by omega),AAs rfl];simp[Cs,e]
     . rw[Ad (by omega),Ad (by omega),BC (by omega),AAs rfl];simp[Cs,d]
   . rw[Ad (by omega),BC (by omega),AAs rfl];simp[Cs,c]
 . rw[BC (by omega),AAs rfl];simp[Cs,a]
theorem DF{wv:AD}(h:Cs wv=true):Small wv:=by unfold Cs at h;simp only[AAi,AA1]at h;obtain⟨⟨⟨⟨⟨⟨⟨a,b⟩,c⟩,d⟩,g⟩,e⟩,f⟩,i⟩:=h;exact⟨a,b,c,d,e,f⟩
instance:Inhabited Nc:=⟨⟨⟨#[]⟩,0⟩⟩
instance:Inhabited DL:=⟨⟨⟨#[]⟩,0,0,false,0⟩⟩
instance:Inhabited Da:=⟨⟨0,0,0⟩⟩
instance:Inhabited AW:=⟨⟨0,[]⟩⟩
instance:Inhabited AH:=⟨⟨0,0,false⟩⟩
def Jg(wv:AD):AP:=⟨List.replicate wv.AE.length ⟨-1,[]⟩, -1,List.replicate wv.AK.length false,(List.replicate wv.AA.length ⟨0,0,false⟩).set 0 ⟨1,0,false⟩⟩
theorem start.L1(wv:AD)(a:Small wv)(D:List Bool)(T:List AH)(tx:Int):∀(n i:Nat),i<=wv.AE.length->wv.AE.length<n+i->
 Dw.AZ wv n ⟨List.replicate i ⟨-1,[]⟩++List.replicate (wv.AE.length-i) ⟨0,[]⟩,tx,D,T⟩ (i:Int)=Dw.J1 ⟨List.replicate wv.AE.length ⟨-1,[]⟩,tx,D,T⟩
 |0,i,h1,h2=>by omega
 |n+1,i,h1,h2=>by
  have:=a.l;unfold Dw.AZ Dw.L1;by_cases hi:i<wv.AE.length
  . rw[BC (by simp;omega)];have e:List.replicate (wv.AE.length-i) (AW.mk 0 [])=AW.mk 0 []::List.replicate (wv.AE.length-(i+1)) (AW.mk 0 []):=(by rw[show wv.AE.length-i=(wv.AE.length-(i+1))+1 from by omega,List.replicate_succ]);have b:gt (List.replicate i (AW.mk (-1) [])++List.replicate (wv.AE.length-i) (AW.mk 0 [])) (i:Int)=some ⟨0,[]⟩:=(by rw[JR,e,ABC (by simp)];simp);have c:(List.replicate i (AW.mk (-1) [])++List.replicate (wv.AE.length-i) (AW.mk 0 [])).set i (AW.mk (-1) [])=List.replicate (i+1) (AW.mk (-1) [])++List.replicate (wv.AE.length-(i+1)) (AW.mk 0 []):=(by rw[e,List.set_append_right _ _ (by simp)];simp only[ABp,Nat.sub_self,List.set_cons_zero];rw[AB5];simp);simp only[b,AAg,ABS,c];rw[Ai (by omega)];exact start.L1 wv a D T tx n (i+1) (by omega) (by omega)
  . rw[Ad (by simp;omega)];have:i=wv.AE.length:=(by omega);subst this;simp
theorem WB(wv:AD)(a:Small wv):Dw wv=some (Jg wv):=by
 have c:=a.l;have d:=a.f;have e:=a.t;have g:=BU;unfold Dw;rw[AAs ⟨by omega,by omega,Bh (by omega)⟩,AAs ⟨by omega,by omega,Bh (by omega)⟩,AAs ⟨by omega,by omega,Bh (by omega)⟩]
 have:=start.L1 wv a (List.replicate wv.AK.length false) (List.replicate wv.AA.length (AH.mk 0 0 false)) (-1) BP 0 (by omega) (by omega);simp only[List.replicate_zero,List.nil_append,Nat.sub_zero,Int.natCast_zero]at this;rw[this];unfold Dw.J1 Dw.J2 Jg;simp only[ABp];by_cases h:wv.AA.length=0
 . simp[h]
 . have b:0<wv.AA.length:=(by omega);rw[BC (by omega)];have:gt (List.replicate wv.AA.length (AH.mk 0 0 false)) 0=some ⟨0,0,false⟩:=(by show gt _ ((0:Nat):Int)=_;rw[JR];simp[b]);rw[this];rfl
theorem QH.L3(wv:AD)(a:Small wv)(L:List AW)(D:List Bool)(tx:Int):∀(n i:Nat),i<=wv.AA.length->wv.AA.length<n+i->
 CR.Gq wv n ⟨L,tx,D,(List.replicate i ⟨0,0,false⟩).set 0 ⟨1,0,false⟩⟩ (i:Int)=some ⟨L,tx,D,(List.replicate wv.AA.length ⟨0,0,false⟩).set 0 ⟨1,0,false⟩⟩
 |0,i,h1,h2=>by omega
 |n+1,i,h1,h2=>by
  have:=a.t;unfold CR.Gq CR.L3;by_cases hi:i<wv.AA.length
  . unfold CR.J3;rw[BC (by omega)];simp only[List.length_set,ABp];rw[BO (by omega),BO (by omega),Ai (by omega)];have e:∀x,(if((i:Int)==0)=true then CR.Gq wv n ⟨L,tx,D,(List.replicate i ⟨0,0,false⟩).set 0 ⟨1,0,false⟩++[⟨1,0,false⟩]⟩ x else CR.Gq wv n ⟨L,tx,D,(List.replicate i ⟨0,0,false⟩).set 0 ⟨1,0,false⟩++[⟨0,0,false⟩]⟩ x)=CR.Gq wv n ⟨L,tx,D,(List.replicate (i+1) ⟨0,0,false⟩).set 0 ⟨1,0,false⟩⟩ x:=by
     intro x;cases i with
     |zero=>rfl
     |succ i=>rw[AAp (by simp;omega),AB5 (n:=i+1),List.set_append_left _ _ (by simp)]
    rw[e];exact QH.L3 wv a L D tx n (i+1) (by omega) (by omega)
  . rw[Ad (by omega)];have:i=wv.AA.length:=(by omega);subst this;rfl
theorem QH.L2(wv:AD)(a:Small wv)(L:List AW)(tx:Int):∀(n i:Nat),i<=wv.AK.length->wv.AK.length<n+i->
 CR.Cr wv n ⟨L,tx,List.replicate i false,[]⟩ (i:Int)=some ⟨L,tx,List.replicate wv.AK.length false,(List.replicate wv.AA.length ⟨0,0,false⟩).set 0 ⟨1,0,false⟩⟩
 |0,i,h1,h2=>by omega
 |n+1,i,h1,h2=>by
  have:=a.f;unfold CR.Cr CR.L2;by_cases hi:i<wv.AK.length
  . rw[BC (by omega)];simp only[ABp];rw[BO (by omega),Ai (by omega),<- AB5];exact QH.L2 wv a L tx n (i+1) (by omega) (by omega)
  . rw[Ad (by omega)];have:i=wv.AK.length:=(by omega);subst this;unfold CR.J2;exact QH.L3 wv a L _ tx BP 0 (by omega) (by have:=a.t;have:=BU;omega)
theorem QH.L1(wv:AD)(a:Small wv):∀(n i:Nat),i<=wv.AE.length->wv.AE.length<n+i->
 CR.AZ wv n ⟨List.replicate i ⟨-1,[]⟩, -1,[],[]⟩ (i:Int)=some (Jg wv)
 |0,i,h1,h2=>by omega
 |n+1,i,h1,h2=>by
  have:=a.l;unfold CR.AZ CR.L1;by_cases hi:i<wv.AE.length
  . rw[BC (by omega)];simp only[ABp];rw[BO (by omega),Ai (by omega),<- AB5];exact QH.L1 wv a n (i+1) (by omega) (by omega)
  . rw[Ad (by omega)];have:i=wv.AE.length:=(by omega);subst this;unfold CR.J1;exact QH.L2 wv a _ (-1) BP 0 (by omega) (by have:=a.f;have:=BU;omega)
theorem QB(wv:AD)(a:Small wv):CR wv=some (Jg wv):=QH.L1 wv a BP 0 (by omega) (by have:=a.l;have:=BU;omega)
def GQ(wv:AD):AB:=⟨Jg wv,wv.Cells.map (·.Init),List.replicate wv.AK.length 0,List.replicate wv.AA.length 0⟩
theorem wstart.L1(wv:AD)(a:Small wv)(S:AP)(F C:List Int):∀(n i:Nat),i<=wv.Cells.length->wv.Cells.length<n+i->
 CX.AZ wv n ⟨S,(wv.Cells.take i).map (·.Init),F,C⟩ (i:Int)=some ⟨S,wv.Cells.map (·.Init),F,C⟩
 |0,i,h1,h2=>by omega
 |n+1,i,h1,h2=>by
  have:=a.c;unfold CX.AZ CX.L1;by_cases hi:i<wv.Cells.length
  . rw[BC (by omega),CZ hi,AAg];simp only;rw[BO (by simp;omega),Ai (by omega)];have e:(wv.Cells.take i).map (·.Init)++[wv.Cells[i].Init]=(wv.Cells.take (i+1)).map (·.Init):=(by rw[<- AA2 hi,ABL];rfl);rw[e];exact wstart.L1 wv a S F C n (i+1) (by omega) (by omega)
  . rw[Ad (by omega),ABM (by omega)];rfl
theorem rY.L1(wv:AD)(a:Small wv)(S:AP)(F C:List Int):∀(n i:Nat),i<=wv.Cells.length->wv.Cells.length<n+i->
 EE.AZ wv n ⟨S,(wv.Cells.take i).map (·.Init),F,C⟩ (i:Int)=some ⟨S,wv.Cells.map (·.Init),F,C⟩
 |0,i,h1,h2=>by omega
 |n+1,i,h1,h2=>by
  have:=a.c;unfold EE.AZ EE.L1;by_cases hi:i<wv.Cells.length
  . rw[BC (by omega),CZ hi,AAg];simp only;rw[BO (by simp;omega),Ai (by omega)];have e:(wv.Cells.take i).map (·.Init)++[wv.Cells[i].Init]=(wv.Cells.take (i+1)).map (·.Init):=(by rw[<- AA2 hi,ABL];rfl);rw[e];exact rY.L1 wv a S F C n (i+1) (by omega) (by omega)
  . rw[Ad (by omega),ABM (by omega)];rfl
theorem Lc(wv:AD)(a:Small wv):CX wv=some (GQ wv):=by have b:=a.c;have d:=a.f;have e:=a.t;have g:=BU;unfold CX;rw[WB wv a,AAg,AAs ⟨by omega,by omega,Bh (by omega)⟩,AAs ⟨by omega,by omega,Bh (by omega)⟩,AAs ⟨by omega,by omega,Bh (by omega)⟩];exact wstart.L1 wv a (Jg wv) _ _ BP 0 (by omega) (by omega)
theorem LZ(wv:AD)(a:Small wv):EE wv=some (GQ wv):=by have b:=a.c;have d:=a.f;have e:=a.t;have g:=BU;unfold EE;rw[QB wv a,AAg,AAs ⟨by omega,by omega,Bh (by omega)⟩,AAs ⟨by omega,by omega,Bh (by omega)⟩];exact rY.L1 wv a (Jg wv) _ _ BP 0 (by omega) (by omega)
section
set_option maxHeartbeats 4000000
theorem Jz(i:Int)(n:Nat):DH i (n:Int)=some (Df i n):=PO i n
theorem kI(i:Int)(n:Nat):Hm i (n:Int)=some (Df i n):=PO i n
theorem Vf(i:Int)(n:Nat):LJ i (n:Int)=some (Df i n):=PO i n
def HM(wv:AD)(s:AP):Bool:=wv.Af.all (λc=>Df c.Mutex wv.AE.length)&&(s.AE.length==wv.AE.length&&(s.Bp.length==wv.AK.length&&s.AA.length==wv.AA.length))
theorem OP(a b:Nat):((a:Int)==(b:Int))=(a==b):=by grind
theorem o4(a b:Nat):((a:Int) != (b:Int))= !(a==b):=by grind
theorem Ns(wv:AD)(a:Small wv):∀(n i:Nat),i<=wv.Af.length->wv.Af.length<n+i->D9.AZ wv n (i:Int)=some ((wv.Af.drop i).all λc=>Df c.Mutex wv.AE.length)
 |0,i,h1,h2=>by omega
 |n+1,i,h1,h2=>by
  have:=a.d;unfold D9.AZ D9.L1;by_cases hi:i<wv.Af.length
  . rw[BC (by omega),CZ hi,AAg,E6 hi,Ai (by omega),Ns wv a n (i+1) (by omega) (by omega),ABW,Jz,AAg];grind
  . rw[Ad (by omega),Gb hi];rfl
theorem OR(wv:AD)(b:Small wv)(s:AP):D9 wv s=some (HM wv s):=by have a:=Ns wv b BP 0 (by omega) (by have:=b.d;have:=BU;omega);rw[ABJ]at a;unfold D9 D9.J1 HM;rw[o4,o4,o4,show(0:Int)=((0:Nat):Int)from rfl,a];grind
theorem O1(wv:AD)(a:Small wv)(s:AP):∀(n i:Nat),i<=wv.Af.length->wv.Af.length<n+i->Ex.AZ s wv n (i:Int)=some (((wv.Af.drop i).all λc=>Df c.Mutex wv.AE.length)&&(s.AE.length==wv.AE.length&&(s.Bp.length==wv.AK.length&&s.AA.length==wv.AA.length)))
 |0,i,h1,h2=>by omega
 |n+1,i,h1,h2=>by
  have:=a.d;unfold Ex.AZ Ex.L1;by_cases hi:i<wv.Af.length
  . unfold Ex.J1;rw[BC (by omega),CZ hi,AAg,E6 hi,Ai (by omega),O1 wv a s n (i+1) (by omega) (by omega),ABW];generalize wv.Af[i]=c;by_cases b:c.Mutex<0
    . have:Df c.Mutex wv.AE.length=false:=(by simp[Df];omega);simp_all
    . by_cases e:c.Mutex>=(wv.AE.length:Int)
      . have:Df c.Mutex wv.AE.length=false:=(by simp[Df];omega);simp_all
      . have h:Df c.Mutex wv.AE.length=true:=(by simp[Df];omega);grind
  . rw[Ad (by omega),Gb hi];unfold Ex.J2 Ex.J3;rw[OP,OP,OP];grind
theorem NP(wv:AD)(b:Small wv)(s:AP):Ex wv s=some (HM wv s):=by have a:=O1 wv b s BP 0 (by omega) (by have:=b.d;have:=BU;omega);rw[ABJ]at a;exact a
def JF(wv:AD)(s:AB):Bool:=HM wv s.Sync&&(s.Cells.length==wv.Cells.length&&(s.AK.length==wv.AK.length&&s.Count.length==wv.AA.length))
theorem Nb(wv:AD)(a:Small wv)(s:AB):Ep wv s=some (JF wv s):=by unfold Ep Ep.J1 JF;rw[OR wv a,AAg,OP,OP,OP];grind
theorem Wn(wv:AD)(a:Small wv)(s:AB):HY wv s=some (JF wv s):=by unfold HY HY.J1 JF;rw[NP wv a,AAg,OP,OP,OP];grind
def CF(wv:AD)(k o:Int):Bool:=
 if k=1\/k=2\/k=5\/k=12\/k=13\/k=14\/k=15 then o== -1
 else if k=3\/k=4 then Df o wv.Cells.length
 else if k=6\/k=7 then Df o wv.AE.length&& !(ix wv.AE o).RW
 else if k=8\/k=9\/k=10\/k=11 then Df o wv.AE.length&&(ix wv.AE o).RW
 else if k=16\/k=17\/k=18\/k=19 then Df o wv.Af.length
 else if k=20\/k=21 then Df o wv.AA.length
 else if k=22\/k=23 then Df o wv.AK.length
 else false
theorem lockRW{c:Type}(l:List Ia)(o:Int)(f g:Bool->AB8 c)(y:AB8 c)(d:∀b,f b=g b)(hn:y=g false)(a:Ia->Bool):(if Df o l.length=true then(gt l o).bind λx=>f (a x)else y)=g (Df o l.length&&a (ix l o)):=by
 cases h:Df o l.length with
 |false=>simp[hn]
 |true=>rw[AAs rfl,Cb h,AAg,d];simp
theorem Mw(wv:AD)(o:Int):∀k,CO wv k o=some (CF wv k o):=by
 refine kinds ?_ ?_ ?_ ?_ ?_ ?_ ?_ ?_ ?_ ?_ ?_ ?_ ?_ ?_ ?_ ?_ ?_ ?_ ?_ ?_ ?_ ?_ ?_ (λk l m n p q r s t u a b y c d e w f g h v i z j=> ?_)
 all_goals
  unfold CO CO.J1;simp(decide:=true)only[CF,CO.J2,CO.J3,CO.J4,CO.J5,CO.J6,CO.J7,CO.J8,CO.J9,Jz,AAg,ABb,AA5,AAx,AAw,ABU,AB2,AB3,false_or,AAr]
 all_goals first
  |done
  | (simp only[l,m,n,p,q,r,s,t,u,a,b,y,c,d,e,w,f,g,h,v,i,z,j,AAx,or_self];done)
  |exact lockRW wv.AE o some some (some false) (λ_=>rfl) rfl (λx=> !x.RW)
  |exact lockRW wv.AE o some some (some false) (λ_=>rfl) rfl (λx=>x.RW)
theorem Yr(wv:AD)(k o:Int):Ik wv k o=some (CF wv k o):=Mw wv o k
theorem XJ(l:List Int)(v:Int)(a:l.length<=1000000000):∀(n i:Nat),i<=l.length->l.length<n+i->∃r,GG.AZ l v n (i:Int)=some r/\(0<=r↔v∈l.drop i)
 |0,i,h1,h2=>by omega
 |n+1,i,h1,h2=>by
  unfold GG.AZ GG.L1;by_cases hi:i<l.length
  . rw[BC (by omega),CZ hi,AAg,Ai (by omega),E6 hi];obtain⟨r,c,b⟩:=XJ l v a n (i+1) (by omega) (by omega);grind
  . rw[Ad (by omega),Gb hi];exact⟨-1,rfl,by simp⟩
theorem aC(l:List Int)(v:Int)(b:l.length<=1000000000):Gh l v=some (l.contains v):=by obtain⟨r,c,a⟩:=XJ l v b BP 0 (by omega) (by have:=BU;omega);rw[ABJ]at a;unfold Gh GG;simp_all
theorem fX(l:List Int)(v:Int)(a:l.length<=1000000000):∀(n i:Nat),i<=l.length->l.length<n+i->G6.AZ l v n (i:Int)=some ((l.drop i).contains v)
 |0,i,h1,h2=>by omega
 |n+1,i,h1,h2=>by
  unfold G6.AZ G6.L1;by_cases hi:i<l.length
  . rw[BC (by omega),CZ hi,AAg,Ai (by omega),E6 hi,fX l v a n (i+1) (by omega) (by omega)];grind
  . rw[Ad (by omega),Gb hi];rfl
theorem l8(l:List Int)(v:Int)(a:l.length<=1000000000):G6 l v=some (l.contains v):=fX l v a BP 0 (by omega) (by have:=BU;omega)
def RB(N:Nat)(s:AP):Prop:=∀x∈s.AE,x.Al.length<=N
theorem RB.ix{N:Nat}{s:AP}(h:RB N s)(i:Int):(ix s.AE i).Al.length<=N:=by
 unfold Abs.ix;cases hx:s.AE[i.toNat]? with
 |none=>exact Nat.zero_le _
 |some x=>exact h x (AAu hx)
def Ku(wv:AD)(s:AP)(t k o:Int):Bool:=
 let me:=ix s.AA t
 if k=1 then me.Status==1
 else if k=17 then me.Status==4&&(me.D7==o&&(ix s.AE (ix wv.Af o).Mutex).B6== -1)
 else me.Status==2&&(
  if k=6 then(ix s.AE o).B6== -1
  else if k=10 then(ix s.AE o).B6== -1&&((ix s.AE o).Al.length:Int)==0
  else if k=8 then(ix s.AE o).B6== -1&& !(ix s.AE o).Al.contains t
  else if k=7\/k=11 then(ix s.AE o).B6==t
  else if k=9 then(ix s.AE o).Al.contains t
  else if k=12 then s.Tx== -1
  else if k=13 then s.Tx==t
  else if k=14 then !me.Atomic
  else if k=15 then me.Atomic
  else if k=16\/k=18\/k=19 then(ix s.AE (ix wv.Af o).Mutex).B6==t
  else if k=20 then o != t&&(ix s.AA o).Status==0
  else if k=21 then o != t&&(ix s.AA o).Status==5
  else if k=22 then !ix s.Bp o
  else if k=23 then ix s.Bp o
  else true)
def CT(wv:AD)(s:AP)(t k o:Int):Bool:=HM wv s&&(Df t wv.AA.length&&(CF wv k o&&Ku wv s t k o))
theorem Ek{wv:AD}{s:AP}(h:HM wv s=true):s.AE.length=wv.AE.length/\s.Bp.length=wv.AK.length/\s.AA.length=wv.AA.length:=by unfold HM at h;simp_all
theorem HO{wv:AD}{s:AP}(h:HM wv s=true){o:Int}(a:Df o wv.Af.length=true):Df (ix wv.Af o).Mutex wv.AE.length=true:=by
 unfold HM at h;simp only[AAi,AAm]at h;obtain⟨b,c⟩:=Bb.1 a;have d:o.toNat<wv.Af.length:=by omega
 refine h.1 _ ?_;unfold ix;simp_all
theorem Ms(wv:AD)(u:Small wv)(s:AP)(b:RB 1000000000 s)(t o:Int):∀k,Dl wv s t k o=some (CT wv s t k o):=by
 intro k;unfold Dl CT;rw[OR wv u,AAg];cases hf:HM wv s with
 |false=>rfl
 |true=>
  rw[Jz,AAg];cases ht:Df t wv.AA.length with
  |false=>rfl
  |true=>
   rw[Mw,AAg];cases a:CF wv k o with
   |false=>rfl
   |true=>
    obtain⟨c,G,H⟩:=Ek hf;have q:gt s.AA t=some (ix s.AA t):=Cb (by simp_all);unfold Dl.J1;simp only[Bool.not_true,AAr,AAx,ABD];rw[q,AAg];revert a;have F:=b.ix o;have r:=aC (ix s.AE o).Al t (b.ix o);revert k;refine kinds ?_ ?_ ?_ ?_ ?_ ?_ ?_ ?_ ?_ ?_ ?_ ?_ ?_ ?_ ?_ ?_ ?_ ?_ ?_ ?_ ?_ ?_ ?_ (λk v w x y z B C D E d e K f g h J i j m I n L p=> ?_)
    all_goals
     intro a;unfold Ku;simp(decide:=true)only[CF,ABU,AB2,AB3,false_or,AA5,AAx,AAi]at a;simp(decide:=true)only[Dl.J2,Dl.J3,ER,ER.J1,ER.J2,ER.J3,ER.J4,ER.J5,ER.J6,ABb,AAw,AA5,AAx,ABU,AB2,AB3,false_or,AAr]
    all_goals first
     |done
     | (rw[Cb (l:=wv.Af) a,AAg,Cb (l:=s.AE) (by rw[c];exact HO hf a)];grind)
     | (rw[Cb (l:=wv.Af) a,AAg,Cb (l:=s.AE) (by rw[c];exact HO hf a)];grind)
     | (rw[Cb (l:=s.AE) (by simp_all)];grind)
     | (rw[Cb (l:=s.AA) (by simp_all)];grind)
     | (rw[Cb (l:=s.Bp) (by simp_all)];grind)
     |grind
     |grind
     |simp_all
     |skip
theorem Nw(wv:AD)(v:Small wv)(s:AP)(c:RB 1000000000 s)(t o:Int):∀k,Cf wv s t k o=some (CT wv s t k o):=by
 intro k;unfold Cf CT;rw[NP wv v,AAg];cases hf:HM wv s with
 |false=>rfl
 |true=>
  rw[kI,AAg];cases ht:Df t wv.AA.length with
  |false=>rfl
  |true=>
   rw[Yr,AAg];cases a:CF wv k o with
   |false=>rfl
   |true=>
    obtain⟨d,I,J⟩:=Ek hf;have b:gt s.AA t=some (ix s.AA t):=Cb (by simp_all);unfold Cf.J1;simp only[Bool.not_true,AAr,AAx,ABD];rw[b,AAg];revert a;have H:=c.ix o;have u:=l8 (ix s.AE o).Al t (c.ix o);revert k;refine kinds ?_ ?_ ?_ ?_ ?_ ?_ ?_ ?_ ?_ ?_ ?_ ?_ ?_ ?_ ?_ ?_ ?_ ?_ ?_ ?_ ?_ ?_ ?_ (λk w y z B C D E F G e f M g h i L j m n K p N q=> ?_)
    all_goals
     intro a;unfold Ku;simp(decide:=true)only[CF,ABU,AB2,AB3,false_or,AA5,AAx,AAi]at a;simp(decide:=true)only[Cf.J2,Cf.J3,Cf.J4,Cf.J5,Cf.J6,Cf.J7,Cf.J8,ABb,AAw,AA5,AAx,ABU,AB2,AB3,false_or,AAr]
    all_goals first
     |done
     | (rw[Cb (l:=wv.Af) a,AAg,Cb (l:=s.AE) (by rw[d];exact HO hf a)];grind)
     | (rw[Cb (l:=wv.Af) a,AAg,Cb (l:=s.AE) (by rw[d];exact HO hf a)];grind)
     | (rw[Cb (l:=s.AE) (by simp_all)];grind)
     | (rw[Cb (l:=s.AA) (by simp_all)];grind)
     | (rw[Cb (l:=s.Bp) (by simp_all)];grind)
     |grind
     | (simp only[b,AAg];generalize (ix s.AA t).Status=x;by_cases r:x=2<;>simp[r];done)
     |simp_all
     |skip
theorem gA(l:List Int)(x:Int)(m:l.length<=1000000000):∀(n i:Nat),i<=l.length->l.length<n+i->(∀(k:Nat)(g:k<l.length),k<i->l[k]<x)->Ef.AZ l x n (i:Int)=some (ins l x)
 |0,i,h1,h2,_=>by omega
 |n+1,i,h1,h2,h3=>by
  unfold Ef.AZ Ef.L1;have step:∀(b:Bool),(∀(hi:i<l.length),b=decide (l[i]<x))->(¬i<l.length->b=false)->Ef.J1 (Ef.AZ l x n) (i:Int) l x b=some (ins l x):=by
   intro b f o;unfold Ef.J1;by_cases hi:i<l.length
   . rw[f hi];by_cases d:l[i]<x
     . rw[BC d,Ai (by omega)];refine gA l x m n (i+1) (by omega) (by omega) λk g j=> ?_;grind
     . rw[Ad d];have c:=bH l x i h1 h3 (λ_=>d);unfold Ef.J2 Ef.J3 ins;rw[BC (by omega),CZ hi,AAg,c,AAo hi];by_cases e:l[i]=x
       . simp[e]
       . have:(l[i]==x)=false:=(by simpa using e);rw[this,AAp (by simp),ABS,AAs ⟨by omega,by omega⟩,BO (by simp;omega),BO (by simp;omega),AAs ⟨by omega,by omega⟩,BO (by simp;omega),AAp (by grind)];have p:(l.drop i).take (l.length-i)=l.drop i:=ABM (by simp_all);grind
   . rw[o hi,AAp (by simp)];have c:=bH l x i h1 h3 (λh=>absurd h hi);have a:i=l.length:=(by omega);unfold Ef.J2 Ef.J3 ins;rw[Ad (by omega),AAp (by simp),c,ABS,AAs ⟨by omega,by omega⟩,BO (by simp;omega),BO (by simp;omega),AAs ⟨by omega,by omega⟩,BO (by simp;omega),AAp (by simp[a])];simp_all
  by_cases hi:i<l.length
  . rw[BC (by omega),CZ hi,AAg];grind
  grind
theorem zQ(l:List Int)(x:Int)(a:l.length<=1000000000):Ef l x=some (ins l x):=gA l x a BP 0 (by omega) (by have:=BU;omega) (λk b h=>by omega)
theorem Union.L2(b:List Int):∀(n i:Nat)(out:List Int),i<=b.length->b.length<n+i->out.length+b.length<=1000000000+i->b.length<=1000000000->ED.Cr b n out (i:Int)=some ((b.drop i).foldl ins out)
 |0,i,out,h1,h2,h3,h4=>by omega
 |n+1,i,out,h1,h2,h3,h4=>by
  unfold ED.Cr ED.L2;by_cases hi:i<b.length
  . have a:=X6 out b[i];rw[BC (by omega),CZ hi,AAg,zQ _ _ (by omega),AAg,Ai (by omega),Union.L2 b n (i+1) _ (by omega) (by omega) (by omega) h4,E6 hi,List.foldl_cons]
  . rw[Ad (by omega),Gb hi];rfl
theorem Union.L1(a b:List Int)(c:a.length+b.length<=1000000000):∀(n i:Nat)(out:List Int),i<=a.length->a.length<n+i->out.length<=i->ED.AZ a b n out (i:Int)=some (b.foldl ins ((a.drop i).foldl ins out))
 |0,i,out,h1,h2,h3=>by omega
 |n+1,i,out,h1,h2,h3=>by
  unfold ED.AZ ED.L1;by_cases hi:i<a.length
  . have d:=X6 out a[i];rw[BC (by omega),CZ hi,AAg,zQ _ _ (by omega),AAg,Ai (by omega),Union.L1 a b c n (i+1) _ (by omega) (by omega) (by omega),E6 hi,List.foldl_cons]
  . rw[Ad (by omega),Gb hi];unfold ED.J1
    have:=Union.L2 b BP 0 out (by omega) (by have:=BU;omega) (by omega) (by omega);simp_all
theorem gC(a b:List Int)(c:a.length+b.length<=1000000000):ED a b=some (O3 (a++b)):=by have:=Union.L1 a b c BP 0 [] (by omega) (by have:=BU;omega) (by simp);rw[ABJ,<- List.foldl_append]at this;refine Eq.trans this ?_;rw[<- vY];rfl
theorem Oi(l:List Int)(x:Int)(c:l.length<=1000000000):∀(n i:Nat)(out:List Int),i<=l.length->l.length<n+i->out.length<=i->EG.AZ l x n out (i:Int)=some (out++(l.drop i).filter λy=> !(y==x))
 |0,i,out,h1,h2,h3=>by omega
 |n+1,i,out,h1,h2,h3=>by
  unfold EG.AZ EG.L1;by_cases hi:i<l.length
  . unfold EG.J1;rw[BC (by omega),CZ hi,AAg,E6 hi,List.filter_cons,Ai (by omega)];by_cases e:l[i]=x
    . have a:(l[i] != x)=false:=(by simp[e]);have b:(!(l[i]==x))=false:=(by simp[e]);rw[a,b,AAp (by simp),AAp (by simp)];exact Oi l x c n (i+1) out (by omega) (by omega) (by omega)
    . have a:(l[i] != x)=true:=(by simpa using e);have b:(!(l[i]==x))=true:=(by simpa using e);rw[a,b,AAs rfl,AAs rfl,BO (by omega),Oi l x c n (i+1) _ (by omega) (by omega) (by simp;omega)];simp
  . rw[Ad (by omega),Gb hi];simp[EG.J2]
theorem p7(l:List Int)(x:Int)(a:l.length<=1000000000):EG l x=some (l.filter λy=> !(y==x)):=by have:=Oi l x a BP 0 [] (by omega) (by have:=BU;omega) (by simp);rw[ABJ]at this;exact this
def JJ(x:AH)(o:Int):Bool:=x.Status==3&&x.D7==o
def CL(o:Int):Nat->List AH->List Int
 |_,[]=>[]
 |i,x::r=>if JJ x o=true then(i:Int)::CL o (i+1) r else CL o (i+1) r
theorem UZ(o:Int)(T:List AH):∀i,(CL o i T).length<=T.length:=by
 induction T with
 |nil=>intro i;simp[CL]
 |cons x r ih=>
  intro i
  have:=ih (i+1);unfold CL;grind
theorem Iz(o:Int)(T:List AH):∀(i:Nat)(u:Int),u∈CL o i T->(i:Int)<=u/\u<((i+T.length:Nat):Int):=by
 induction T with
 |nil=>intro i u h;simp[CL]at h
 |cons x r ih=>intro i u h;unfold CL at h;grind
theorem lJ(x:AH)(o:Int):GA x o=some (JJ x o):=by unfold GA GA.J1 JJ;grind
theorem N8(s:AP)(o:Int)(a:s.AA.length<=1000):∀(n i:Nat)(l:List Int),i<=s.AA.length->s.AA.length<n+i->l.length<=i->C4.AZ o s n l (i:Int)=some (l++CL o i (s.AA.drop i))
 |0,i,l,h1,h2,h3=>by omega
 |n+1,i,l,h1,h2,h3=>by
  unfold C4.AZ C4.L1;by_cases hi:i<s.AA.length
  . unfold C4.J1 C4.J2;rw[BC (by omega),CZ hi,AAg,E6 hi,CL,Ai (by omega),BO (by omega)];have b:=N8 s o a n (i+1) (l++[(i:Int)]) (by omega) (by omega) (by simp;omega);have c:=N8 s o a n (i+1) l (by omega) (by omega) (by omega);unfold JJ;grind
  . rw[Ad (by omega),Gb hi];simp[C4.J3,CL]
theorem XQ(s:AP)(o:Int)(a:s.AA.length<=1000):C4 s o=some (CL o 0 s.AA):=by have:=N8 s o a BP 0 [] (by omega) (by have:=BU;omega) (by simp);rw[ABJ]at this;exact this
def Mj(wake:Int):Int->List Int->Int
 |c,[]=>c
 |c,w::r=>Mj wake (if c<0\/w=wake then w else c) r
theorem iH(wake:Int)(W:List Int)(a:∀w∈W,0<=w):∀c,0<=c->Mj wake c W=if W.contains wake=true then wake else c:=by
 induction W with
 |nil=>intro c _;simp[Mj]
 |cons w r ih=>intro c b;have d:=ih (λw h=>a w (List.mem_cons_of_mem _ h));unfold Mj;grind
def E5(wake:Int)(W:List Int):Int:=if W=[]then -1 else if W.contains wake=true then wake else W.headD 0
theorem nP(wake:Int)(W:List Int)(a:∀w∈W,0<=w):Mj wake (-1) W=E5 wake W:=by
 cases W with
 |nil=>rfl
 |cons w r=>unfold Mj E5;rw[AAs (.inl (by omega)),iH wake r (λw h=>a w (List.mem_cons_of_mem _ h)) w (a w (ABj ..)),AAp (c:=w::r=[]) (by simp)];grind
theorem VY(T:List AH)(o wake:Int)(a:T.length<=1000):∀(n i:Nat)(c:Int),i<=T.length->T.length<n+i->DG.AZ o T wake n c (i:Int)=DG.J3 T (Mj wake c (CL o i (T.drop i)))
 |0,i,c,h1,h2=>by omega
 |n+1,i,c,h1,h2=>by
  unfold DG.AZ DG.L1;by_cases hi:i<T.length
  . unfold DG.J1 DG.J2;rw[BC (by omega),CZ hi,AAg,lJ,AAg,E6 hi,CL,Ai (by omega)];have b:=λc=>VY T o wake a n (i+1) c (by omega) (by omega);simp only[b];cases JJ T[i] o with
    |false=>simp
    |true=>simp only[AA5,Mj];grind
  . rw[Ad (by omega),Gb hi];rfl
def Ir(x:AH):AH:=⟨4,x.D7,x.Atomic⟩
def JA(o:Int)(x:AH):AH:=if JJ x o=true then Ir x else x
theorem wU(tx:Int)(T:List AH)(o wake:Int)(a:T.length<=1000):DG tx T o wake=some (E5 wake (CL o 0 T),if CL o 0 T=[]then T else T.set (E5 wake (CL o 0 T)).toNat (Ir (ix T (E5 wake (CL o 0 T))))):=by
 have h:=VY T o wake a BP 0 (-1) (by omega) (by have:=BU;omega);rw[ABJ,nP _ _ (λw c=>(Iz o T 0 w c).1)]at h;refine Eq.trans h ?_;unfold DG.J3 DG.J4;by_cases e:CL o 0 T=[]
 . rw[e];simp[E5]
 . have b:E5 wake (CL o 0 T)∈CL o 0 T:=by
    unfold E5;rw[AAp e];split
    . simp_all
    . cases hW:CL o 0 T with
      |nil=>simp_all
      |cons w r=>simp
   have d:=Iz o T 0 _ b;rw[AAp e,BC (by omega),Cb (Bb.2 (by omega))];rfl
theorem MG(T:List AH)(o:Int)(d:T.length<=1000):∀(n i:Nat)(c:Nat),i<=T.length->T.length<n+i->c<=i->
 DC.AZ o T n ((T.take i).map (JA o)++T.drop i) (c:Int) (i:Int)=some (((c+(CL o i (T.drop i)).length:Nat):Int),T.map (JA o))
 |0,i,c,h1,h2,_=>by omega
 |n+1,i,c,h1,h2,h3=>by
  unfold DC.AZ DC.L1;by_cases hi:i<T.length
  . have a:((T.take i).map (JA o)).length=i:=(by simp;omega);have f:gt ((T.take i).map (JA o)++T.drop i) (i:Int)=some T[i]:=(by rw[JR,ABC (by omega),a,Nat.sub_self,E6 hi];rfl);unfold DC.J1;rw[BC (by omega),f,AAg,lJ,AAg,Ai (i:=i) (by omega),Ai (i:=c) (by omega),ABS];have b:∀y,y=JA o T[i]->(T.take i).map (JA o)++y::T.drop (i+1)=(T.take (i+1)).map (JA o)++T.drop (i+1):=(by rintro y rfl;rw[<- AA2 hi,ABL];simp);have g:((T.take i).map (JA o)++T.drop i).set i (AH.mk 4 T[i].D7 T[i].Atomic)=(T.take i).map (JA o)++AH.mk 4 T[i].D7 T[i].Atomic::T.drop (i+1):=(by rw[List.set_append_right _ _ (by omega),a,Nat.sub_self,E6 hi];rfl);have e:(T.take i).map (JA o)++T.drop i=(T.take i).map (JA o)++T[i]::T.drop (i+1):=(by rw[<- E6 hi]);rw[g,e,E6 hi,CL];cases hw:JJ T[i] o with
    |true=>rw[AAs rfl,AAs rfl,b _ (by simp[JA,hw,Ir]),MG T o d n (i+1) (c+1) (by omega) (by omega) (by omega)];grind
    |false=>rw[AAp (by simp),AAp (by simp),b _ (by simp[JA,hw]),MG T o d n (i+1) c (by omega) (by omega) (by omega)]
  . rw[Ad (by omega),Gb hi,ABM (by omega)];simp[DC.J2,CL]
theorem eJ(tx:Int)(T:List AH)(o:Int)(a:T.length<=1000):DC tx T o=some (((CL o 0 T).length:Int),T.map (JA o)):=by have:=MG T o a BP 0 0 (by omega) (by have:=BU;omega) (by omega);simp only[List.take_zero,ABF,ABJ,List.nil_append,ABr]at this;exact this
structure Vp (s:AP):Prop where
 l:s.AE.length<=1000
 d:s.Bp.length<=1000
 t:s.AA.length<=1000
 r:RB 1000000 s
theorem Xg(s:AP)(b:Vp s):∀(n i:Nat),i<=s.AE.length->s.AE.length<n+i->
 EP.AZ s n (s.AE.take i++List.replicate (s.AE.length-i) ⟨0,[]⟩) (i:Int)=some s
 |0,i,h1,h2=>by omega
 |n+1,i,h1,h2=>by
  have:=b.l;have:=b.d;have:=b.t;unfold EP.AZ EP.L1;by_cases hi:i<s.AE.length
  . have a:(s.AE.take i).length=i:=(by simp;omega);have e:List.replicate (s.AE.length-i) (AW.mk 0 [])=AW.mk 0 []::List.replicate (s.AE.length-(i+1)) (AW.mk 0 []):=(by rw[show s.AE.length-i=(s.AE.length-(i+1))+1 from by omega,List.replicate_succ]);have c:gt (s.AE.take i++List.replicate (s.AE.length-i) (AW.mk 0 [])) (i:Int)=some ⟨0,[]⟩:=(by rw[JR,e,ABC (by omega),a];simp);have f:(s.AE.take i++List.replicate (s.AE.length-i) (AW.mk 0 [])).set i s.AE[i]=s.AE.take (i+1)++List.replicate (s.AE.length-(i+1)) (AW.mk 0 []):=(by rw[e,List.set_append_right _ _ (by omega),a,Nat.sub_self,List.set_cons_zero,<- AA2 hi,ABt];rfl);have g:=b.r _ (AA0 hi);unfold slices_Clone_int;rw[BC (by omega),CZ hi,AAg,BO (by omega),AAg,c,AAg,Ai (by omega),ABS];show EP.AZ s n ((s.AE.take i++List.replicate (s.AE.length-i) (AW.mk 0 [])).set i s.AE[i]) _=_;rw[f];exact Xg s b n (i+1) (by omega) (by omega)
  . rw[Ad (by omega),ABM (by omega),show s.AE.length-i=0 from by omega];unfold EP.J1 IJ Ed;rw[BO (by omega),AAg,BO (by omega),AAg];simp
theorem clone_eq(s:AP)(a:Vp s):EP s=some s:=by have:=a.l;unfold EP;rw[AAs ⟨by omega,by omega,Bh (by omega)⟩];have h:=Xg s a BP 0 (by omega) (by have:=BU;omega);simp_all
theorem aD(s:AP)(a:Vp s)(tx:Int)(D:List Bool)(T:List AH):∀(n i:Nat),i<=s.AE.length->s.AE.length<n+i->
 Gg.AZ s n ⟨s.AE.take i,tx,D,T⟩ (i:Int)=some ⟨s.AE,tx,D,T⟩
 |0,i,h1,h2=>by omega
 |n+1,i,h1,h2=>by
  have:=a.l;unfold Gg.AZ Gg.L1;by_cases hi:i<s.AE.length
  . have b:=a.r _ (AA0 hi);rw[BC (by omega),CZ hi,AAg,BO (by omega),BO (by simp;omega),Ai (by omega)];simp only[AA2 hi];exact aD s a tx D T n (i+1) (by omega) (by omega)
  . rw[Ad (by omega),ABM (by omega)];rfl
theorem qA(s:AP)(a:Vp s):Gg s=some s:=by have:=a.l;have:=a.d;have:=a.t;unfold Gg;rw[BO (by omega),BO (by omega)];exact aD s a s.Tx s.Bp s.AA BP 0 (by omega) (by have:=BU;omega)
def Kx(s:AP)(i:Int)(f:AH->AH):AP:=⟨s.AE,s.Tx,s.Bp,s.AA.set i.toNat (f (ix s.AA i))⟩
def Kw(s:AP)(i:Int)(f:AW->AW):AP:=⟨s.AE.set i.toNat (f (ix s.AE i)),s.Tx,s.Bp,s.AA⟩
def DX(wv:AD)(s:AP)(t k o wake:Int):AP×Int:=
 if k=1 then(Kx s t λx=>⟨2,x.D7,x.Atomic⟩,0)
 else if k=2 then(Kx s t λx=>⟨5,x.D7,x.Atomic⟩,0)
 else if k=6\/k=10 then(Kw s o λx=>⟨t,x.Al⟩,0)
 else if k=7\/k=11 then(Kw s o λx=>⟨-1,x.Al⟩,0)
 else if k=8 then(Kw s o λx=>⟨x.B6,O3 (x.Al++[t])⟩,0)
 else if k=9 then(Kw s o λx=>⟨x.B6,x.Al.filter λy=> !(y==t)⟩,0)
 else if k=12 then(⟨s.AE,t,s.Bp,s.AA⟩,0)
 else if k=13 then(⟨s.AE, -1,s.Bp,s.AA⟩,0)
 else if k=14 then(Kx s t λx=>⟨x.Status,x.D7,true⟩,0)
 else if k=15 then(Kx s t λx=>⟨x.Status,x.D7,false⟩,0)
 else if k=16 then(Kx (Kw s (ix wv.Af o).Mutex λx=>⟨-1,x.Al⟩) t λx=>⟨3,o,x.Atomic⟩,0)
 else if k=17 then(Kx (Kw s (ix wv.Af o).Mutex λx=>⟨t,x.Al⟩) t λx=>⟨2,0,x.Atomic⟩,0)
 else if k=18 then(if CL o 0 s.AA=[]then s else Kx s (E5 wake (CL o 0 s.AA)) Ir,E5 wake (CL o 0 s.AA))
 else if k=19 then(⟨s.AE,s.Tx,s.Bp,s.AA.map (JA o)⟩,((CL o 0 s.AA).length:Int))
 else if k=20 then(Kx s o λx=>⟨1,x.D7,x.Atomic⟩,0)
 else if k=22 then(⟨s.AE,s.Tx,s.Bp.set o.toNat true,s.AA⟩,0)
 else(s,0)
def nW:AP:=⟨[],0,[],[]⟩
def OB(wv:AD)(s:AP)(t k o wake:Int):AP×Int×Bool:=if CT wv s t k o=true then((DX wv s t k o wake).1,(DX wv s t k o wake).2,true)else(nW,0,false)
theorem ZB{l:List AH}{t:Int}(b:Df t l.length=true)(a:AH):gt (l.set t.toNat a) t=some a:=by
 obtain⟨c,d⟩:=Bb.1 b;have:t.toNat<l.length:=by omega
 unfold gt;simp_all
theorem Vp.of{wv:AD}(a:Small wv){s:AP}(b:HM wv s=true)(c:RB 1000000 s):Vp s:=by
 obtain⟨d,e,g⟩:=Ek b
 have:=a.l;have:=a.f;have:=a.t;exact⟨by omega,by omega,by omega,c⟩
theorem RB.mono{N M:Nat}{s:AP}(h:RB N s)(a:N<=M):RB M s:=λx b=>ABc (h x b) a
theorem Sort_eq(l:List Int)(a:l.length<=1000000000):LO l=some (RU l):=by unfold LO;rw[AAs (by omega)];rfl
theorem l6(l:List Int)(a:l.length<=1000000000):slices_Compact l=some (Lib.compact l):=by unfold slices_Compact;grind
theorem V8(wv:AD)(n:Small wv)(s:AP)(g:RB 1000000 s)(t o wake:Int):∀k,FL wv s t k o wake=some (OB wv s t k o wake):=by
  intro k;unfold FL OB;rw[Ms wv n s (g.mono (by omega)),AAg];cases he:CT wv s t k o with
  |false=>rfl
  |true=>
    have a:=he;unfold CT at a;simp only[AAi]at a;obtain⟨f,H,c,d⟩:=a;obtain⟨I,T,J⟩:=Ek f;have b:=Vp.of n f g;have j:Df t s.AA.length=true:=(by rw[J];exact H);have m:gt s.AA t=some (ix s.AA t):=Cb j;have e:=ZB j;have G:=g.ix o;have i:(RU ((ix s.AE o).Al++[t])).length<=1000000000:=(by rw[Ti];simp;omega);have E:=wU s.Tx s.AA o wake b.t;have D:=eJ s.Tx s.AA o b.t;rw[clone_eq s b,AAg,AAp (by simp)];clear he;revert c d;revert k;refine kinds ?_ ?_ ?_ ?_ ?_ ?_ ?_ ?_ ?_ ?_ ?_ ?_ ?_ ?_ ?_ ?_ ?_ ?_ ?_ ?_ ?_ ?_ ?_ (λk K L M N O P Q R S q r W u v w V x y z U B X C=> ?_)
    all_goals
      intro c d;unfold DX;simp(decide:=true)only[CF,ABU,AB2,AB3,false_or,AA5,AAx,AAi]at c;simp(decide:=true)only[FL.J1,FL.J2,FL.J3,ABb,AAw,AA5,AAx,ABU,AB2,AB3,false_or,AAr]
    all_goals first
      |done
      | (rw[m,AAg];rfl)
      | (rw[Cb (l:=s.AE) (by simp_all),AAg];rfl)
      | (rw[Cb (l:=s.AE) (by simp_all),AAg,BO (by omega),Sort_eq _ (by simp;omega),AAg,l6 _ i,AAg];rfl)
      | (rw[Cb (l:=s.AE) (by simp_all),AAg]
         unfold Io;have p:(ix s.AE o).Al≠[]:=(by intro h;simp(decide:=true)only[Ku,AA5,AAx,ABU,AB2,AB3,false_or,h,List.contains_nil,Bool.and_false,AAr]at d);rw[AAs ⟨p,by omega⟩,AAg];rfl)
      | (rw[Cb (l:=wv.Af) c,AAg,Cb (l:=s.AE) (by rw[I];exact HO f c),AAg,m,AAg,e,AAg];simp only[List.set_set];rfl)
      | (rw[E,AAg];simp only;by_cases F:CL o 0 s.AA=[]<;>simp only[F,AA5,AAx]<;>rfl)
      | (rw[D,AAg];done)
      | (rw[Cb (l:=s.AA) (by simp_all),AAg];rfl)
      | (rw[Cb (l:=s.Bp) (by simp_all),AAg];done)
      |rfl
      |simp_all
      |skip
theorem setAll(o:Int)(b:List AH):∀(a:List AH),(CL o a.length b).foldl (λT (u:Int)=>T.set u.toNat (Ir (ix T u))) (a++b)=a++b.map (JA o):=by
 induction b with
 |nil=>intro a;simp[CL]
 |cons x r ih=>
  intro a;unfold CL;have d:ix (a++x::r) ((a.length:Nat):Int)=x:=by unfold ix;rw[ABS,ABC (AA8 _)];simp
  have c:=λy=>ih (a++[y]);simp only[ABK,ABe,ABo,ABr,ABt,List.singleton_append]at c;cases hw:JJ x o with
  |true=>rw[AAs rfl,List.foldl_cons,d,ABS,List.set_append_right _ _ (AA8 _),Nat.sub_self,List.set_cons_zero,c];simp[JA,hw]
  |false=>rw[AAp (by simp),c];simp[JA,hw]
theorem Va(W:List Int)(a:W.length<=1000000):∀(n i:Nat)(s:AP),i<=W.length->W.length<n+i->(∀u∈W,Df u s.AA.length=true)->
 Dc.AZ W n s (i:Int)=some (⟨s.AE,s.Tx,s.Bp,(W.drop i).foldl (λT (u:Int)=>T.set u.toNat (Ir (ix T u))) s.AA⟩,(W.length:Int),true)
 |0,i,s,h1,h2,_=>by omega
 |n+1,i,s,h1,h2,h3=>by
  unfold Dc.AZ Dc.L1;by_cases hi:i<W.length
  . rw[BC (by omega),CZ hi,AAg,Cb (h3 _ (AA0 hi)),AAg,Ai (by omega),Va W a n (i+1) _ (by omega) (by omega) (by simp_all),E6 hi,List.foldl_cons];rfl
  . rw[Ad (by omega),Gb hi];rfl
theorem P9(wv:AD)(G:Small wv)(s:AP)(z:RB 1000000 s)(t o wake:Int):∀k,Dc wv s t k o wake=some (OB wv s t k o wake):=by
 intro k;unfold Dc OB;rw[Nw wv G s (z.mono (by omega)),AAg];cases he:CT wv s t k o with
 |false=>rfl
 |true=>
  have a:=he;unfold CT at a;simp only[AAi]at a;obtain⟨y,V,d,B⟩:=a;obtain⟨W,l2,X⟩:=Ek y;have b:=Vp.of G y z;have C:Df t s.AA.length=true:=by rw[X];exact V
  have D:gt s.AA t=some (ix s.AA t):=Cb C;have x:=ZB C;have U:=z.ix o;have R:=XQ s o b.t;have S:=UZ o s.AA 0;have T:=b.t;rw[qA s b,AAg,AAp (by simp)];clear he;revert d B;revert k;refine kinds ?_ ?_ ?_ ?_ ?_ ?_ ?_ ?_ ?_ ?_ ?_ ?_ ?_ ?_ ?_ ?_ ?_ ?_ ?_ ?_ ?_ ?_ ?_ (λk H I J K L M N O P f g qT h i j nV m n p Z q uO v=> ?_)
  all_goals
   intro d B;unfold DX;simp(decide:=true)only[CF,ABU,AB2,AB3,false_or,AA5,AAx,AAi]at d;simp(decide:=true)only[Dc.J1,Dc.J2,Dc.J5,ABb,AAw,AA5,AAx,ABU,AB2,AB3,false_or,AAr]
  all_goals first
   |done
   | (rw[D,AAg];rfl)
   | (rw[Cb (l:=s.AE) (by simp_all),AAg];rfl)
   | (rw[Cb (l:=s.AE) (by simp_all),AAg,gC _ _ (by simp;omega),AAg];rfl)
   | (rw[Cb (l:=s.AE) (by simp_all),AAg,p7 _ _ (by omega),AAg];rfl)
   | (rw[Cb (l:=wv.Af) d,AAg,Cb (l:=s.AE) (by rw[W];exact HO y d),AAg,D,AAg,x,AAg];simp only[List.set_set];rfl)
   | (rw[Cb (l:=s.AA) (by simp_all),AAg];rfl)
   | (rw[Cb (l:=s.Bp) (by simp_all),AAg];done)
   |rfl
   | (exfalso;revert d;simp only[H,I,J,K,L,M,N,O,P,f,g,qT,h,i,j,nV,m,n,p,Z,q,uO,v,AAx,or_self,AAr,imp_self];done)
   |skip
  . -- a notification
    rw[R,AAg];cases hWW:CL o 0 s.AA with
    |nil=>rfl
    |cons w r=>
     have E:(w::r).length<=1000:=(by rw[<- hWW];omega);have e:∀u,u∈w::r->Df u s.AA.length=true:=λu F=>(by have:=Iz o s.AA 0 u (by simp_all);exact Bb.2 (by omega));have Q:gt (w::r) 0=some w:=rfl;rw[BC (by simp_all),Q,AAg,l8 _ _ (by omega),AAg];unfold Dc.J3 Dc.J5 E5;rw[AAp (c:=w::r=[]) (by simp),AAp (c:=w::r=[]) (by simp)];cases hc:(w::r).contains wake with
     |true=>rw[AAs rfl,Cb (e wake (by simp_all)),AAg];rfl
     |false=>rw[AAp (by simp),Cb (e w (ABj ..)),AAg];rfl
  . -- of all
    have e:∀u,u∈CL o 0 s.AA->Df u s.AA.length=true:=λu F=>(by have:=Iz o s.AA 0 u F;exact Bb.2 (by omega));have h1:=Va (CL o 0 s.AA) (by omega) BP 0 s (by omega) (by have:=BU;omega) e;have h2:=setAll o s.AA [];simp_all
instance:Inhabited AP:=⟨nW⟩
def NH:AB:=⟨nW,[],[],[]⟩
def JC(ev:AG):Prop:=ev.Du.length<4611686018427387904/\ev.DR.length<4611686018427387904
def Mx(wv:AD)(ev:AG):Bool:=if ev.Kind=1\/ev.Kind=2 then ev.Site== -1 else Df ev.Site wv.BL.length&&(ix wv.BL ev.Site).Thread==ev.Thread
def F8(c:Int):Int->List Int->Bool
 |_,[]=>true
 |last,x::r=>decide (last<x)&&(decide (x<c)&&F8 c x r)
def Om(wv:AD)(ev:AG):Bool:=if ev.Kind=3\/ev.Kind=4 then(ix wv.Cells ev.Obj).Bw != 0 else false
def Eh(wv:AD)(s:AB)(ev:AG):Bool:=
 ((ev.Du.isEmpty||(ev.Kind==5||Om wv ev))&&F8 (ix s.Count ev.Thread) 0 ev.Du)&&((ev.DR.isEmpty||(ev.Kind==4||ev.Kind==22))&&F8 (ix s.Count ev.Thread) 0 ev.DR)
def HV(s:AB)(ev:AG):Bool:=
 if ev.Kind=3 then ev.Value==ix s.Cells ev.Obj
 else if ev.Kind=23 then ev.Value==ix s.AK ev.Obj
 else if ev.Kind=5 then ev.Value==0||ev.Value==1
 else if ev.Kind=4\/ev.Kind=22 then true
 else if ev.Kind=18 then(CL ev.Obj 0 s.Sync.AA).contains ev.Value||((CL ev.Obj 0 s.Sync.AA).isEmpty&&ev.Value== -1)
 else if ev.Kind=19 then ev.Value==((CL ev.Obj 0 s.Sync.AA).length:Int)
 else ev.Value==0
theorem w9(wv:AD)(ev:AG):DW wv ev=some (Mx wv ev):=by
 unfold DW DW.J1 Mx;by_cases d:ev.Kind=1
 . simp[d]
 . by_cases e:ev.Kind=2
   . simp[e]
   . have f:(ev.Kind==1)=false:=(by simpa using d);have g:(ev.Kind==2)=false:=(by simpa using e);rw[f,g,AAp (c:=ev.Kind=1\/ev.Kind=2) (by omega)];simp only[AAr,AAx];unfold DW.J2;by_cases a:ev.Site>=0
     . by_cases b:ev.Site<(wv.BL.length:Int)
       . have hi:Df ev.Site wv.BL.length=true:=Bb.2 ⟨a,b⟩;rw[BC a,BC b,Cb hi,AAg,hi];rfl
       . have:Df ev.Site wv.BL.length=false:=(by simp[Df];omega);grind
     . have:Df ev.Site wv.BL.length=false:=(by simp[Df];omega);grind
theorem dec.L2(L1:Int->AB8 Bool)(ev:AG)(l:List Int)(s:AB)(t:Int)(b:gt s.Count ev.Thread=some (ix s.Count ev.Thread))(c:l.length<4611686018427387904):∀(n i:Nat)(a:Int),i<=l.length->l.length<n+i->
 Ab.Cr L1 ev l s t n a (i:Int)=if F8 (ix s.Count ev.Thread) a (l.drop i)=true then Ab.J6 L1 t else some false
 |0,i,a,h1,h2=>by omega
 |n+1,i,a,h1,h2=>by
  unfold Ab.Cr Ab.L2;by_cases hi:i<l.length
  . unfold Ab.J5;rw[BC (by omega),CZ hi,AAg,b,E6 hi,Ai (by omega),dec.L2 L1 ev l s t b c n (i+1) _ (by omega) (by omega)];generalize l[i]=x;rw[F8];grind
  . rw[Ad (by omega),Gb hi];simp[F8]
theorem Za:BP=(BP-3)+3:=rfl
theorem det.J4(L1:Int->AB8 Bool)(ev:AG)(l:List Int)(s:AB)(t:Int)(a:gt s.Count ev.Thread=some (ix s.Count ev.Thread))(c:l.length<4611686018427387904)(b:Bool):
 Ab.J4 L1 ev l s t b=if(!b&&F8 (ix s.Count ev.Thread) 0 l)=true then Ab.J6 L1 t else some false:=by
 unfold Ab.J4;cases b with
 |true=>simp
 |false=>have:=dec.L2 L1 ev l s t a c BP 0 0 (by omega) (by have:=BU;omega);simp_all
theorem det.J2(wv:AD)(s:AB)(ev:AG)(g:JC ev)(e:gt s.Count ev.Thread=some (ix s.Count ev.Thread))(a b:Bool):
 Ab.J2 ev s a b=some (((ev.Du.isEmpty||a)&&F8 (ix s.Count ev.Thread) 0 ev.Du)&&((ev.DR.isEmpty||b)&&F8 (ix s.Count ev.Thread) 0 ev.DR)):=by
 unfold Ab.J2;rw[Za];generalize BP-3=m;have i:Ab.AZ a b ev s (m+1) 2=some true:=by unfold Ab.AZ Ab.L1;rfl
 have d:∀(L1:Int->AB8 Bool)(t:Int)(l:List Int)(c:Bool),l.length<4611686018427387904->(t=0/\c=a\/t=1/\c=b)->Ab.J3 L1 a b ev s t l=if((l.isEmpty||c)&&F8 (ix s.Count ev.Thread) 0 l)=true then Ab.J6 L1 t else some false:=by
  intro L1 t l c f j;unfold Ab.J3;rw[det.J4 _ _ _ _ _ e f,det.J4 _ _ _ _ _ e f,det.J4 _ _ _ _ _ e f];cases l with
  |nil=>simp
  |cons x r=>grind
 have h:Ab.AZ a b ev s (m+2) 1=some ((ev.DR.isEmpty||b)&&F8 (ix s.Count ev.Thread) 0 ev.DR):=by unfold Ab.AZ Ab.L1;rw[BC (by decide),AAp (by decide),AAs (by decide),d _ 1 ev.DR b g.2 (.inr ⟨rfl,rfl⟩)];unfold Ab.J6;rw[show A1 (1+1)=2 from rfl,i];cases((ev.DR.isEmpty||b)&&F8 (ix s.Count ev.Thread) 0 ev.DR)<;>rfl
 unfold Ab.AZ Ab.L1;rw[BC (by decide),AAs (by decide),d _ 0 ev.Du a g.1 (.inl ⟨rfl,rfl⟩)];unfold Ab.J6;rw[show A1 (0+1)=1 from rfl,h];grind
theorem Zf(wv:AD)(s:AB)(ev:AG)(f:JC ev)(d:gt s.Count ev.Thread=some (ix s.Count ev.Thread))(g:ev.Kind=3\/ev.Kind=4->Df ev.Obj wv.Cells.length=true):Ab wv s ev=some (Eh wv s ev):=by
 have a:∀e,e=Om wv ev->Ab.J1 ev s e=some (Eh wv s ev):=by
  intro e h;unfold Ab.J1 Eh;rw[det.J2 wv s ev f d,det.J2 wv s ev f d,det.J2 wv s ev f d,det.J2 wv s ev f d,h];by_cases i:ev.Kind=5
  . simp[i]
  . grind
 unfold Ab;by_cases b:ev.Kind=3
 . rw[AAs (by simp[b]),Cb (g (.inl b)),AAg];exact a _ (by simp[Om,b])
 . rw[AAp (by simp_all)];by_cases c:ev.Kind=4
   . rw[AAs (by simp[c]),Cb (g (.inr c)),AAg];exact a _ (by simp[Om,c])
   . rw[AAp (by simp_all)];exact a _ (by simp[Om,b,c])
theorem ZL.L1(ev:AG)(s:AB)(f:s.Sync.AA.length<=1000):∀(n i w:Nat)(b:Bool),i<=s.Sync.AA.length->s.Sync.AA.length<n+i->w<=i->
 A4.AZ ev s n (w:Int) b (i:Int)=some ((b||(CL ev.Obj i (s.Sync.AA.drop i)).contains ev.Value)||((w+(CL ev.Obj i (s.Sync.AA.drop i)).length==0)&&ev.Value== -1))
 |0,i,w,b,h1,h2,h3=>by omega
 |n+1,i,w,b,h1,h2,h3=>by
  unfold A4.AZ A4.L1;by_cases hi:i<s.Sync.AA.length
  . unfold A4.J3 A4.J4;rw[BC (by omega),CZ hi,AAg,E6 hi,CL,Ai (i:=i) (by omega),Ai (i:=w) (by omega)];have a:=λ(w':Nat) b' h=>ZL.L1 ev s f n (i+1) w' b' (by omega) (by omega) h;rw[a (w+1) true (by omega),a (w+1) (ev.Value==(i:Int)) (by omega),a w b (by omega)];unfold JJ;have c:∀m:Nat,(w+1+m==0)=false:=λm=>(by simp);have d:∀m:Nat,(w+(m+1)==0)=false:=λm=>(by simp);have e:(ev.Value==(i:Int))=decide (ev.Value=(i:Int)):=rfl;cases(s.Sync.AA[i].Status==3)<;>cases(s.Sync.AA[i].D7==ev.Obj)<;>cases b<;>simp[c,d,e]
  . rw[Ad (by omega),Gb hi];unfold A4.J5 A4.J6;have:((w:Int)==0)=(w==0):=(by rw[Bool.eq_iff_iff,AAw,AAw];omega);rw[this];simp only[CL,List.contains_nil,ABo,Nat.add_zero,Bool.or_false];grind
theorem ZL.L2(ev:AG)(s:AB)(b:s.Sync.AA.length<=1000):∀(n i w:Nat),i<=s.Sync.AA.length->s.Sync.AA.length<n+i->w<=i->
 A4.Cr ev s n (w:Int) (i:Int)=some (ev.Value==((w+(CL ev.Obj i (s.Sync.AA.drop i)).length:Nat):Int))
 |0,i,w,h1,h2,h3=>by omega
 |n+1,i,w,h1,h2,h3=>by
  unfold A4.Cr A4.L2;by_cases hi:i<s.Sync.AA.length
  . unfold A4.J7 A4.J8;rw[BC (by omega),CZ hi,AAg,E6 hi,CL,Ai (i:=i) (by omega),Ai (i:=w) (by omega)];have a:=λ(w':Nat) h=>ZL.L2 ev s b n (i+1) w' (by omega) (by omega) h;rw[a (w+1) (by omega),a w (by omega)];unfold JJ;grind
  . rw[Ad (by omega),Gb hi];simp[A4.J9,CL]
theorem jS{a:Type}(l:List a):(0+l.length==0)=l.isEmpty:=by grind
theorem x9(s:AB)(ev:AG)(f:s.Sync.AA.length<=1000)(g:ev.Kind=3->Df ev.Obj s.Cells.length=true)(a:ev.Kind=23->Df ev.Obj s.AK.length=true):A4 s ev=some (HV s ev):=by
 have d:=ZL.L1 ev s f BP 0 0 false (by omega) (by have:=BU;omega) (by omega);have e:=ZL.L2 ev s f BP 0 0 (by omega) (by have:=BU;omega) (by omega);rw[ABJ,jS]at d;rw[ABJ,ABr]at e;simp only[Int.natCast_zero,Bool.false_or]at d e;unfold A4 A4.J1 A4.J2 A4.QZ HV;by_cases b:ev.Kind=3
 . rw[AAs (by simp[b]),Cb (g b),AAg,AAs b]
 . rw[AAp (by simp_all),AAp b];by_cases c:ev.Kind=23
   . rw[AAs (by simp[c]),Cb (a c),AAg,AAs c]
   grind
def GU(wv:AD)(s:AB)(ev:AG):AB:=
  ⟨(DX wv s.Sync ev.Thread ev.Kind ev.Obj (if ev.Kind=18 then ev.Value else -1)).1,
   if ev.Kind=4 then s.Cells.set ev.Obj.toNat ev.Value else s.Cells,
   if ev.Kind=22 then s.AK.set ev.Obj.toNat ev.Value else s.AK,
   s.Count.set ev.Thread.toNat (A1 (ix s.Count ev.Thread+1))⟩
def IZ(wv:AD)(s:AB)(ev:AG):Bool:=
 JF wv s&&(Df ev.Thread wv.AA.length&&(CT wv s.Sync ev.Thread ev.Kind ev.Obj&&(Mx wv ev&&(Eh wv s ev&&HV s ev))))
def QN(wv:AD)(s:AB)(ev:AG):AB×Bool:=if IZ wv s ev=true then(GU wv s ev,true)else(NH,false)
theorem Kl{wv:AD}{s:AB}(h:JF wv s=true):HM wv s.Sync=true/\s.Cells.length=wv.Cells.length/\s.AK.length=wv.AK.length/\s.Count.length=wv.AA.length:=by unfold JF at h;simp_all
theorem S4{wv:AD}{k o:Int}(h:CF wv k o=true):1<=k/\k<=23:=by unfold CF at h;grind
theorem ZP(wv:AD)(a:Small wv)(s:AB)(k:RB 1000000 s.Sync)(ev:AG)(w:JC ev):BQ wv s ev=some (QN wv s ev):=by
 have B:∀b,b=true->BQ.J1 ev s wv b=some (NH,false):=by rintro b rfl;rfl
 have q:∀b,b=true->BQ.J2 ev s wv b=some (NH,false):=by rintro b rfl;rfl
 unfold BQ QN IZ;rw[Nb wv a,AAg];cases hf:JF wv s with
 |false=>rfl
 |true=>
  rw[AAp (c:=(!true)=true) (by simp),ABD];cases ht:Df ev.Thread wv.AA.length with
  |false=>
   rw[Bool.false_and,AAp (c:=false=true) (by simp)];by_cases d:ev.Thread<0
   . simp_all
   . rw[Ad d];by_cases m:ev.Thread>=(wv.AA.length:Int)
     . simp_all
     . exfalso
       have:=Bb.2 ⟨Int.not_lt.1 d,Int.not_le.1 m⟩;simp_all
  |true=>
   obtain⟨C,D⟩:=Bb.1 ht;rw[Ad (by omega),Ad (by omega),ABD];obtain⟨j,E,F,G⟩:=Kl hf;have x:=a.c;have y:=a.f;have z:=a.t;have i:=Vp.of a j k;have e:=Ms wv a s.Sync (k.mono (by omega)) ev.Thread ev.Obj ev.Kind;cases W3:CT wv s.Sync ev.Thread ev.Kind ev.Obj with
   |false=>
    rw[Bool.false_and,AAp (c:=false=true) (by simp)];by_cases d:ev.Kind<1
    . simp_all
    . rw[Ad d];unfold BQ.J1;by_cases m:ev.Kind>23
      . rw[AAs (by simp_all)];rfl
      grind
   |true=>
    have l:=W3;unfold CT at l;simp only[AAi]at l;obtain⟨_,_,g,_⟩:=l;obtain⟨H,I⟩:=S4 g;have o:gt s.Count ev.Thread=some (ix s.Count ev.Thread):=Cb (by simp_all);have u:ev.Kind=3\/ev.Kind=4->Df ev.Obj wv.Cells.length=true:=(by rintro(h|h)<;>simpa(decide:=true) [CF,h]using g);have p:ev.Kind=22\/ev.Kind=23->Df ev.Obj wv.AK.length=true:=(by rintro(h|h)<;>simpa(decide:=true) [CF,h]using g);rw[Ad (by omega)];unfold BQ.J1;rw[AAp (by simp;omega),e,W3,AAg,AAp (c:=(!true)=true) (by simp),w9,AAg,ABD];cases hp:Mx wv ev with
    |false=>rfl
    |true=>
     rw[AAp (c:=(!true)=true) (by simp),Zf wv s ev w o u,AAg,ABD];cases hd:Eh wv s ev with
     |false=>rfl
     |true=>
      rw[AAp (c:=(!true)=true) (by simp),x9 s ev i.t (λh=>by simp_all) (λh=>by simp_all),AAg,ABD];cases hv:HV s ev with
      |false=>rfl
      |true=>
       rw[AAs rfl];unfold BQ.J2;have v:∀wake,wake=(if ev.Kind=18 then ev.Value else -1)->BQ.J3 ev s wv wake=some (GU wv s ev,true):=by
        rintro wake rfl;unfold BQ.J3;rw[V8 wv a s.Sync k,AAg];unfold OB;rw[W3,AAs rfl,AAp (by simp)];unfold FW slices_Clone_int;rw[BO (by omega),AAg,BO (by omega),AAg,BO (by omega),AAg];unfold BQ.J4 GU;simp only[o,AAg];by_cases r:ev.Kind=4
        . rw[AAs (by simp[r]),Cb (by simp_all),AAg];simp[r]
        . rw[AAp (by simp_all)];by_cases n:ev.Kind=22
          . rw[AAs (by simp[n]),Cb (by simp_all),AAg];simp[n]
          simp_all
       grind
theorem Tm(c:Int)(l:List Int)(f:l.length<4611686018427387904):∀(n i:Nat)(a:Int),i<=l.length->l.length<n+i->(∀(h:0<i)(o:i-1<l.length),a=l[i-1])->(i=0->a=0)->(0<i->1<=a)->
 Dq.AZ c l n (i:Int)=some (F8 c a (l.drop i))
 |0,i,a,h1,h2,_,_,_=>by omega
 |n+1,i,a,h1,h2,h3,h4,h5=>by
  unfold Dq.AZ Dq.L1;by_cases hi:i<l.length
  . have k:1<=l[i]->Dq.AZ c l n ((i+1:Nat):Int)=some (F8 c l[i] (l.drop (i+1))):=
     λj=>Tm c l f n (i+1) l[i] (by omega) (by omega) (λ_ _=>rfl) (by omega) (λ_=>j)
    unfold Dq.J1;rw[BC (by omega),CZ hi,AAg,E6 hi,Ai (by omega),F8];by_cases b:l[i]<1
    . have:¬a<l[i]:=by
       by_cases e:i=0
       . omega
       . omega
      grind
    . rw[Ad b,k (by omega)];by_cases d:l[i]>=c
      . grind
      . have m:l[i]<c:=(by omega);rw[Ad d];by_cases e:i=0
        . grind
        . have g:=h3 (by omega) (by omega);rw[BC (by omega),CH (by omega) (by omega),show(i:Int)-1=((i-1:Nat):Int)from by omega,CZ (by omega),AAg,<- g];grind
  . rw[Ad (by omega),Gb hi];rfl
theorem YT(c:Int)(l:List Int)(a:l.length<4611686018427387904):Dq l c=some (F8 c 0 l):=by have:=Tm c l a BP 0 0 (by omega) (by have:=BU;omega) (by omega) (λ_=>rfl) (by omega);rw[ABJ]at this;exact this
theorem value_eq(s:AB)(ev:AG)(m:s.Sync.AA.length<=1000)(i:ev.Kind=3->Df ev.Obj s.Cells.length=true)(a:ev.Kind=23->Df ev.Obj s.AK.length=true):GO s ev=some (HV s ev):=by
 have k:=XQ s.Sync ev.Obj m;have e:=UZ ev.Obj s.Sync.AA 0;unfold GO GO.J1 GO.J2 HV;rw[k,AAg,AAg];by_cases b:ev.Kind=3
 . rw[AAs (by simp[b]),Cb (i b),AAg,AAs b]
 . rw[AAp (by simp_all),AAp b];by_cases d:ev.Kind=23
   . rw[AAs (by simp[d]),Cb (a d),AAg,AAs d]
   . rw[AAp (by simp_all),AAp d];by_cases n:ev.Kind=5
     . grind
     . rw[AAp (by simp_all),AAp n];by_cases g:ev.Kind=4
       . simp[g]
       . have j:(ev.Kind==4)=false:=(by simpa using g);rw[j];by_cases f:ev.Kind=22
         . simp[f]
         . have o:(ev.Kind==22)=false:=(by simpa using f);rw[o,AAp (c:=ev.Kind=4\/ev.Kind=22) (by omega)];simp only[AAr,AAx];by_cases h:ev.Kind=18
           . rw[AAs (by simp[h]),AAs h];have l:=Iz ev.Obj s.Sync.AA 0;cases hWW:CL ev.Obj 0 s.Sync.AA with
             |nil=>simp
             |cons w r=>rw[hWW]at e l;unfold GO.J3;rw[AAp (by simp;omega),l8 _ _ (by omega),AAg];grind
           grind
theorem SS(wv:AD)(a:Small wv)(s:AB)(B:RB 1000000 s.Sync)(ev:AG)(I:JC ev):Bg wv s ev=some (QN wv s ev):=by
 unfold Bg QN IZ;rw[Wn wv a,AAg];cases hf:JF wv s with
 |false=>rfl
 |true=>
  rw[AAp (c:=(!true)=true) (by simp),Vf,AAg,ABD];cases ht:Df ev.Thread wv.AA.length with
  |false=>rfl
  |true=>
   rw[AAp (c:=(!true)=true) (by simp),ABD];obtain⟨y,R,S,T⟩:=Kl hf;have O:=a.c;have P:=a.f;have Q:=a.t;have w:=Vp.of a y B;have g:=Nw wv a s.Sync (B.mono (by omega)) ev.Thread ev.Obj ev.Kind;cases W3:CT wv s.Sync ev.Thread ev.Kind ev.Obj with
   |false=>
    rw[Bool.false_and,AAp (c:=false=true) (by simp)];by_cases D:ev.Kind<1
    . rw[BC D];rfl
    . rw[Ad D];by_cases E:ev.Kind>23
      . rw[BC E];rfl
      . rw[Ad E,g,W3];rfl
   |true=>
    have C:=W3;unfold CT at C;simp only[AAi]at C;obtain⟨_,_,v,_⟩:=C;obtain⟨U,V⟩:=S4 v;have H:gt s.Count ev.Thread=some (ix s.Count ev.Thread):=Cb (by simp_all);have F:ev.Kind=3\/ev.Kind=4->Df ev.Obj wv.Cells.length=true:=(by rintro(h|h)<;>simpa(decide:=true) [CF,h]using v);have J:ev.Kind=22\/ev.Kind=23->Df ev.Obj wv.AK.length=true:=(by rintro(h|h)<;>simpa(decide:=true) [CF,h]using v);rw[Ad (by omega),Ad (by omega),g,W3,AAg,ABD];unfold Bg.J1;rw[AAp (c:=(!true)=true) (by simp)]
    -- the last part
    have N:∀wake,wake=(if ev.Kind=18 then ev.Value else -1)->Bg.J9 ev s wv wake=some (GU wv s ev,true):=by
     rintro wake rfl;unfold Bg.J9;rw[P9 wv a s.Sync B,AAg];unfold OB;rw[W3,AAs rfl];unfold Bg.QZ Bg.Z9 GU;simp only[H,AAg];by_cases d:ev.Kind=4
     . rw[AAs (by simp[d]),Cb (by simp_all),AAg];simp[d]
     . rw[AAp (c:=(ev.Kind==4)=true) (by simp_all)];by_cases G:ev.Kind=22
       . rw[AAs (by simp[G]),Cb (by simp_all),AAg];simp[G]
       simp_all
    have u:∀b,Bg.J8 ev s wv b=if b=true then some (NH,false)else some (GU wv s ev,true):=by
     intro b;unfold Bg.J8;cases b with
     |true=>rfl
     |false=>rw[AAp (c:=false=true) (by simp),BO (by omega),BO (by omega),BO (by omega),AAp (c:=false=true) (by simp)];grind
    have o:∀b,Bg.J7 ev s wv b=if(!b&&(F8 (ix s.Count ev.Thread) 0 ev.Du&&(F8 (ix s.Count ev.Thread) 0 ev.DR&&HV s ev)))=true then some (GU wv s ev,true)else some (NH,false):=by intro b;unfold Bg.J7;rw[H,AAg,YT _ _ I.1,AAg,YT _ _ I.2,AAg,value_eq s ev w.t (λh=>by simp_all) (λh=>by simp_all),AAg];simp only[u];cases b<;>cases F8 (ix s.Count ev.Thread) 0 ev.Du<;>cases F8 (ix s.Count ev.Thread) 0 ev.DR<;>cases HV s ev<;>rfl
    have n:∀b,Bg.J6 ev s wv b=if(!b&&((ev.DR.isEmpty||(ev.Kind==4||ev.Kind==22))&&(F8 (ix s.Count ev.Thread) 0 ev.Du&&(F8 (ix s.Count ev.Thread) 0 ev.DR&&HV s ev))))=true then some (GU wv s ev,true)else some (NH,false):=by
     intro b;unfold Bg.J6;simp only[o];cases b with
     |true=>rfl
     |false=>
      cases hF:ev.DR with
      |nil=>simp
      |cons x r=>grind
    have M:∀b,b=(ev.Kind==3||ev.Kind==4)->Bg.J5 ev s wv b=if((ev.Du.isEmpty||(ev.Kind==5||Om wv ev))&&((ev.DR.isEmpty||(ev.Kind==4||ev.Kind==22))&&(F8 (ix s.Count ev.Thread) 0 ev.Du&&(F8 (ix s.Count ev.Thread) 0 ev.DR&&HV s ev))))=true then some (GU wv s ev,true)else some (NH,false):=by
     rintro b rfl;unfold Bg.J5;simp only[n];cases hD:ev.Du with
     |nil=>simp
     |cons x r=>
      rw[BC (by simp_all)];by_cases K:ev.Kind=5
      . simp[K]
      . by_cases j:ev.Kind=3
        . have z:=Cb (l:=wv.Cells) (F (.inl j));simp[j,z,Om]
        . by_cases d:ev.Kind=4
          . have z:=Cb (l:=wv.Cells) (F (.inr d));simp[d,z,Om]
          . simp[K,j,d,Om]
    have m:Bg.J4 ev s wv=if(Eh wv s ev&&HV s ev)=true then some (GU wv s ev,true)else some (NH,false):=by
     have e:(Eh wv s ev&&HV s ev)=((ev.Du.isEmpty||(ev.Kind==5||Om wv ev))&&((ev.DR.isEmpty||(ev.Kind==4||ev.Kind==22))&&(F8 (ix s.Count ev.Thread) 0 ev.Du&&(F8 (ix s.Count ev.Thread) 0 ev.DR&&HV s ev)))):=(by unfold Eh;generalize (ev.Du.isEmpty||(ev.Kind==5||Om wv ev))=p;generalize (ev.DR.isEmpty||(ev.Kind==4||ev.Kind==22))=q;cases p<;>cases q<;>cases F8 (ix s.Count ev.Thread) 0 ev.Du<;>cases F8 (ix s.Count ev.Thread) 0 ev.DR<;>rfl);rw[e];unfold Bg.J4;by_cases j:ev.Kind=3
     . simp_all
     . grind
    have L:∀b,b=(ev.Kind==1||ev.Kind==2)->Bg.J2 ev s wv b=if(Mx wv ev&&(Eh wv s ev&&HV s ev))=true then some (GU wv s ev,true)else some (NH,false):=by
     rintro b rfl;unfold Bg.J2 Bg.J3 Mx;rw[m,Vf,AAg];generalize (Eh wv s ev&&HV s ev)=q;by_cases k:ev.Kind=1\/ev.Kind=2
     . have:(ev.Kind==1||ev.Kind==2)=true:=(by simpa using k);rw[this,AAs rfl,AAs k];by_cases i:ev.Site= -1
       . simp[i]
       . simp[i];rfl
     . have:(ev.Kind==1||ev.Kind==2)=false:=(by simpa using k);rw[this,AAp (c:=false=true) (by simp),AAp k];cases hi:Df ev.Site wv.BL.length with
       |false=>rfl
       |true=>
        rw[AAp (c:=(!true)=true) (by simp),Cb hi,AAg];by_cases i:(ix wv.BL ev.Site).Thread=ev.Thread
        . simp[i]
        . simp[i];rfl
    grind
theorem RB.Kw{N M:Nat}{s:AP}(h:RB N s)(b:N<=M)(i:Int)(f:AW->AW)(c:(f (Abs.ix s.AE i)).Al.length<=M):RB M (Abs.Kw s i f):=by
 intro x a;rcases ABB a with a|rfl
 . exact ABc (h x a) b
 . exact c
theorem RB.apply{N:Nat}{s:AP}(h:RB N s)(wv:AD)(t k o wake:Int):RB (N+1) (DX wv s t k o wake).1:=by
 have c:RB (N+1) s:=h.mono (by omega);have hi:=λi=>Nat.le_succ_of_le (h.ix i);have key:∀(p:Prop) [Decidable p] (a b:AP×Int),RB (N+1) a.1->RB (N+1) b.1->RB (N+1) (if p then a else b).1:=by intro p _ a b e f;split<;>assumption
 unfold DX
 repeat' refine key _ _ _ ?_ ?_
 all_goals first
  |exact c
  |exact h.Kw (by omega) _ _ (hi _)
  | (refine h.Kw (by omega) _ _ ?_;have:=UP ((Abs.ix s.AE o).Al++[t]);have:=h.ix o;grind)
  | (refine h.Kw (by omega) _ _ (ABc (List.length_filter_le _ _) (hi _)))
  |exact h.Kw (by omega) (Abs.ix wv.Af o).Mutex (λx=>⟨-1,x.Al⟩) (hi _)
  |exact h.Kw (by omega) (Abs.ix wv.Af o).Mutex (λx=>⟨t,x.Al⟩) (hi _)
  | (by_cases d:CL o 0 s.AA=[]<;>simp only[d,AA5,AAx]<;>exact c)
theorem RB.start(wv:AD):RB 0 (Jg wv):=by
 intro x a
 have:=ABg a;simp_all
def fM(e:AG):Bool:=e.Kind==3||e.Kind==23
def Jx(l:List AG)(t:Int):List Bool:=(l.filter λe=>e.Thread==t).map fM
def KX(reads:List Bool)(k:Int):Bool:=Df k reads.length&&ix reads k
def O6(pre:List AG)(ev:AG):Bool:=ev.Du.all (KX (Jx pre ev.Thread))&&ev.DR.all (KX (Jx pre ev.Thread))
theorem gF.L2(L1:Int->AB8 Bool)(l:List Int)(reads:List Bool)(t:Int)(c:l.length<4611686018427387904):∀(n i:Nat),i<=l.length->l.length<n+i->Aq.Cr L1 l reads t n (i:Int)=if(l.drop i).all (KX reads)=true then Aq.J3 L1 t else some false
 |0,i,h1,h2=>by omega
 |n+1,i,h1,h2=>by
  unfold Aq.Cr Aq.L2;by_cases hi:i<l.length
  . unfold Aq.J2;rw[BC (by omega),CZ hi,AAg,E6 hi,Ai (by omega),gF.L2 L1 l reads t c n (i+1) (by omega) (by omega),ABW];generalize l[i]=x;generalize (l.drop (i+1)).all (KX reads)=q;unfold KX;by_cases a:x<0
    . have:Df x reads.length=false:=(by simp[Df];omega);simp_all
    . by_cases b:x>=(reads.length:Int)
      . have:Df x reads.length=false:=(by simp[Df];omega);simp_all
      . have h:Df x reads.length=true:=(by simp[Df];omega);rw[Ad a,Ad b,Cb h,AAg,h];grind
  grind
theorem gG(reads:List Bool)(ev:AG)(b:JC ev):Aq reads ev=some (ev.Du.all (KX reads)&&ev.DR.all (KX reads)):=by
 unfold Aq;have f:=BU;have a:∀L1 t l,l.length<4611686018427387904->Aq.J1 L1 reads t l=if l.all (KX reads)=true then Aq.J3 L1 t else some false:=by
  intro L1 t l c
  have:=gF.L2 L1 l reads t c BP 0 (by omega) (by omega);rw[ABJ]at this;exact this
 rw[Za];generalize BP-3=m;have e:Aq.AZ ev reads (m+1) 2=some true:=by unfold Aq.AZ Aq.L1;rfl
 have d:Aq.AZ ev reads (m+2) 1=some (ev.DR.all (KX reads)):=by unfold Aq.AZ Aq.L1;rw[BC (by decide),AAp (by decide),AAs (by decide),a _ _ _ b.2];unfold Aq.J3;rw[show A1 (1+1)=2 from rfl,e];cases ev.DR.all (KX reads)<;>rfl
 unfold Aq.AZ Aq.L1;rw[BC (by decide),AAs (by decide),a _ _ _ b.1];unfold Aq.J3;rw[show A1 (0+1)=1 from rfl,d];grind
def Vl(x t:Int):Int->List AG->Bool
 |_,[]=>false
 |nv,e::r=>if e.Thread=t then(nv==x&&fM e)||Vl x t (nv+1) r else Vl x t nv r
theorem xG(e:AG)(r:List AG)(t:Int):Jx (e::r) t=if e.Thread=t then fM e::Jx r t else Jx r t:=by unfold Jx;grind
theorem scan_eq(x t:Int)(l:List AG):∀a:Int,Vl x t a l=KX (Jx l t) (x-a):=by
 induction l with
 |nil=>intro a;simp[Vl,KX,Jx,Df];omega
 |cons e r ih=>
  intro a;unfold Vl;rw[xG];by_cases h:e.Thread=t
  . rw[AAs h,AAs h,ih];unfold KX;by_cases c:x=a
    . subst c;have b:Df (x-x) (fM e::Jx r t).length=true:=(by rw[Bb];simp only[ABe];omega);have i:ix (fM e::Jx r t) (x-x)=fM e:=(by simp[ix]);have j:Df (x-(x+1)) (Jx r t).length=false:=by
       cases hq:Df (x-(x+1)) (Jx r t).length with
       |false=>rfl
       |true=>have:=Bb.1 hq;omega
      simp_all
    . have d:(a==x)=false:=(by simpa usingλh=>c h.symm);have b:Df (x-a) (fM e::Jx r t).length=Df (x-(a+1)) (Jx r t).length:=(by rw[Bool.eq_iff_iff,Bb,Bb];simp;omega);rw[d,b];cases hb:Df (x-(a+1)) (Jx r t).length with
      |false=>simp
      |true=>obtain⟨f,g⟩:=Bb.1 hb;have:ix (fM e::Jx r t) (x-a)=ix (Jx r t) (x-(a+1)):=(by unfold ix;rw[show(x-a).toNat=(x-(a+1)).toNat+1 from by omega,ABT]);simp_all
  simp_all
theorem reads.L2(L1:Int->AB8 Bool)(i:Nat)(k:Int)(l:List AG)(a:List Int)(t x:Int)(hi:i<=l.length)(hi':i<=1000000)(d:gt a k=some x):∀(n j b:Nat)(ok:Bool),j<=i->i<n+j->b<=j->
 C2.Cr L1 (i:Int) k l a t n (b:Int) ok (j:Int)=C2.J3 L1 k (ok||Vl x t b ((l.take i).drop j))
 |0,j,b,ok,h1,h2,h3=>by omega
 |n+1,j,b,ok,h1,h2,h3=>by
  unfold C2.Cr C2.L2;by_cases g:j<i
  . have f:j<(l.take i).length:=(by simp;omega);have e:=λ(c:Nat) ok' h=>reads.L2 L1 i k l a t x hi hi' d n (j+1) c ok' (by omega) (by omega) h;unfold C2.J1 C2.J2;rw[BC (by omega),CZ (by omega),AAg,E6 f,Ai (i:=j) (by omega),Ai (i:=b) (by omega),d,AAg,Vl];simp only[List.getElem_take,e (b+1) _ (by omega),e b _ (by omega),show((b:Int)+1)=((b+1:Nat):Int)from rfl];unfold fM;grind
  . rw[Ad (by omega),List.drop_eq_nil_of_le (by simp;omega)];simp[Vl]
theorem YZ(i:Nat)(l:List AG)(a:List Int)(t:Int)(hi:i<=l.length)(hi':i<=1000000)(c:a.length<4611686018427387904):∀(n k:Nat),k<=a.length->a.length<n+k->
 C2.AZ (i:Int) l a t n (k:Int)=some ((a.drop k).all (KX (Jx (l.take i) t)))
 |0,k,h1,h2=>by omega
 |n+1,k,h1,h2=>by
  unfold C2.AZ C2.L1;by_cases b:k<a.length
  . have:=reads.L2 (C2.AZ (i:Int) l a t n) i (k:Int) l a t a[k] hi hi' (CZ b) BP 0 0 false (by omega) (by have:=BU;omega) (by omega);rw[ABJ,scan_eq]at this;simp only[Int.natCast_zero,Int.sub_zero,Bool.false_or]at this;rw[BC (by omega),this,E6 b,ABW];unfold C2.J3 C2.J4;rw[Ai (by omega),YZ i l a t hi hi' c n (k+1) (by omega) (by omega)];grind
  . rw[Ad (by omega),Gb b];rfl
theorem kG(i:Nat)(l:List AG)(a:List Int)(t:Int)(hi:i<=l.length)(hi':i<=1000000)(b:a.length<4611686018427387904):C2 l (i:Int) t a=some (a.all (KX (Jx (l.take i) t))):=by have:=YZ i l a t hi hi' b BP 0 (by omega) (by have:=BU;omega);rw[ABJ]at this;exact this
def GJ(wv:AD):List AG->AB->List AG->Int×Int
 |_,_,[]=>(0,0)
 |pre,s,x::r=>if(IZ wv s x&&O6 pre x)=true then GJ wv (pre++[x]) (GU wv s x) r else((pre.length:Int),12)
def Hc(t:Aw):Int×Int:=if t.AF.length>400 then(0,2)else if Cs t.World=true then GJ t.World [] (GQ t.World) t.AF else(0,1)
theorem MZ{wv:AD}{s:AB}{x:AG}(h:IZ wv s x=true):Df x.Thread wv.AA.length=true:=by unfold IZ at h;simp_all
theorem Md(l:List AG)(x:AG)(t:Int):Jx (l++[x]) t=if x.Thread=t then Jx l t++[fM x]else Jx l t:=by unfold Jx;grind
theorem LR(l:List AG)(t:Int):(Jx l t).length<=l.length:=by unfold Jx;grind
theorem XG(t:Aw)(h:Small t.World)(a:∀e∈t.AF,JC e)(l:t.AF.length<=400):∀(n i:Nat)(s:AB)(R:List (List Bool)),i<=t.AF.length->t.AF.length<n+i->RB i s.Sync->R.length=t.World.AA.length->(∀u:Nat,u<R.length->R[u]? =some (Jx (t.AF.take i) (u:Int)))->
 B5.AZ t n s R (i:Int)=some (GJ t.World (t.AF.take i) s (t.AF.drop i))
 |0,i,s,R,h1,h2,_,_,_=>by omega
 |n+1,i,s,R,h1,h2,h3,h4,h5=>by
  unfold B5.AZ B5.L1;by_cases hi:i<t.AF.length
  . have f:=a _ (AA0 hi);rw[BC (by omega),CZ hi,AAg,ZP t.World h s (h3.mono (by omega)) _ f,AAg,E6 hi,GJ,ABw (by omega)];unfold QN;cases hp:IZ t.World s t.AF[i]with
    |false=>rfl
    |true=>
     rw[AAs rfl,AAp (c:=(!true)=true) (by simp),ABD];have m:=MZ hp;obtain⟨k,r⟩:=Bb.1 m;have o:t.AF[i].Thread.toNat<R.length:=(by omega);have d:gt R t.AF[i].Thread=some (Jx (t.AF.take i) t.AF[i].Thread):=(by unfold gt;rw[AAs k,h5 _ o];congr 2;omega);have q:=LR (t.AF.take i) t.AF[i].Thread;rw[ABw (by omega)]at q;rw[d,AAg,gG _ _ f,AAg];unfold B5.J1;show(if(!(O6 (t.AF.take i) t.AF[i]))=true then _ else _)=_
     cases O6 (t.AF.take i) t.AF[i]with
     |false=>rfl
     |true=>
      rw[AAp (c:=(!true)=true) (by simp),AAs rfl,d,AAg,BO (by omega),BO (by omega)];unfold B5.J2;have g:∀b,b=fM t.AF[i]->B5.AZ t n (GU t.World s t.AF[i]) (R.set t.AF[i].Thread.toNat (Jx (t.AF.take i) t.AF[i].Thread++[b])) (A1 ((i:Int)+1))=some (GJ t.World (t.AF.take i++[t.AF[i]]) (GU t.World s t.AF[i]) (t.AF.drop (i+1))):=by
       rintro b rfl;rw[Ai (by omega),AA2 hi];refine XG t h a l n (i+1) _ _ (by omega) (by omega) ?_ (by simp_all) ?_
       . exact h3.apply _ _ _ _ _
       . intro u p;rw[<- AA2 hi,Md];grind
      by_cases j:t.AF[i].Kind=3
      . rw[AAs (by simp[j])];exact g _ (by simp[fM,j])
      . rw[AAp (by simp_all)];exact g _ (by simp[fM,show(t.AF[i].Kind==3)=false by simp_all])
  . rw[Ad (by omega),Gb hi];rfl
theorem zF(t:Aw)(d:∀e∈t.AF,JC e):B5 t=some (Hc t):=by
 unfold B5 Hc;by_cases f:t.AF.length>400
 . grind
 . rw[Ad (by omega),AAp f,Ub,AAg];cases hv:Cs t.World with
   |false=>rfl
   |true=>
    have a:=DF hv;have g:=a.t;rw[AAp (c:=(!true)=true) (by simp),Lc _ a,AAg,AAs ⟨by omega,by omega,Bh (by omega)⟩,AAs rfl]
    have:=XG t a d (by omega) BP 0 (GQ t.World) (List.replicate t.World.AA.length []) (by omega) (by have:=BU;omega) (RB.start _) (by simp) (by intro u b;simp at b;simp[b,Jx]);simp_all
theorem Vb(t:Aw)(d:Small t.World)(b:∀e∈t.AF,JC e)(f:t.AF.length<=400):∀(n i:Nat)(s:AB),i<=t.AF.length->t.AF.length<n+i->RB i s.Sync->
 Ec.AZ t n s (i:Int)=some (GJ t.World (t.AF.take i) s (t.AF.drop i))
 |0,i,s,h1,h2,_=>by omega
 |n+1,i,s,h1,h2,h3=>by
  unfold Ec.AZ Ec.L1;by_cases hi:i<t.AF.length
  . have a:=b _ (AA0 hi);rw[BC (by omega),CZ hi,AAg,SS t.World d s (h3.mono (by omega)) _ a,AAg,E6 hi,GJ,ABw (by omega)];unfold QN;cases hp:IZ t.World s t.AF[i]with
    |false=>rfl
    |true=>
     rw[AAs rfl,AAp (c:=(!true)=true) (by simp),ABD,kG i _ _ _ (by omega) (by omega) a.1,AAg,kG i _ _ _ (by omega) (by omega) a.2,AAg];unfold O6;cases t.AF[i].Du.all (KX (Jx (t.AF.take i) t.AF[i].Thread))with
     |false=>rfl
     |true=>
      cases t.AF[i].DR.all (KX (Jx (t.AF.take i) t.AF[i].Thread))with
      |false=>rfl
      |true=>rw[AAp (c:=(!true)=true) (by simp),ABD,AAs rfl];unfold Ec.J1;rw[AAp (c:=(!true)=true) (by simp),Ai (by omega),AA2 hi];exact Vb t d b f n (i+1) _ (by omega) (by omega) (h3.apply _ _ _ _ _)
  . rw[Ad (by omega),Gb hi];rfl
theorem cB(t:Aw)(b:∀e∈t.AF,JC e):Ec t=some (Hc t):=by
 unfold Ec Hc;by_cases d:t.AF.length>400
 . grind
 . rw[Ad (by omega),AAp d,LY,AAg];cases hv:Cs t.World with
   |false=>rfl
   |true=>
    have a:=DF hv;rw[AAp (c:=(!true)=true) (by simp),LZ _ a,AAg,AAs rfl]
    have:=Vb t a b (by omega) BP 0 (GQ t.World) (by omega) (by have:=BU;omega) (RB.start _);simp_all
end
end Go.Abs
