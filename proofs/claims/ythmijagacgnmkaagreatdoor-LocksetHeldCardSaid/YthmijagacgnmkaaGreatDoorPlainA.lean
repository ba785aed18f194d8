/- What the typed programs give, in plain Lean. -/
import Derived.Test.YthmijagacgnmkaaGreatDoorWalkM
import Derived.Lib.SlicesCompact
set_option linter.unusedSimpArgs false
set_option linter.unusedVariables false
namespace Go.Abs
theorem CX {n:Int} (h: -9223372036854775808≤n) (a:n<9223372036854775808):Ay n=n:=by simp only[Ay,IntKind.wrap,IntKind.bits,IntKind.signed];simp;omega
theorem Ao {i:Nat} (h:i<9223372036854775807):Ay ((i:Int)+1)=((i+1:Nat):Int):=by rw[CX (by omega) (by omega)];rfl
theorem JN {a:Type} (l:List a) (i:Nat):gt l (i:Int)=l[i]? :=by simp[gt]
theorem Cw {a:Type} {l:List a} {i:Nat} (h:i<l.length):gt l (i:Int)=some l[i]:=by rw[JN];simp[h]
def Du (i:Int) (n:Nat):Bool:=decide (0≤i)&&decide (i<(n:Int))
def ix {α:Type} [Inhabited α] (l:List α) (i:Int):α:=(l[i.toNat]?).getD default
theorem CJ {i:Int} {n:Nat}:Du i n=true↔0≤i/\i<n:=by simp[Du]
theorem C1 {a:Type} [Inhabited a] {l:List a} {i:Int} (h:Du i l.length=true):gt l i=some (ix l i):=by
 obtain⟨b,c⟩:=CJ.1 h;have:i.toNat<l.length:=by omega
 simp[gt,ix,b,this]
theorem BM {n b:Nat} (h:n*b≤70368744177664):Af n b=true:=by simp[Af,h]
theorem BO {a:Type} {n b:Nat} {x y:a} (h:n*b≤70368744177664):(if Af n b=true then x else y)=x:=AAa (BM h)
theorem BG {a:Type} {p:Prop} [Decidable p] {x y:a} (h:p):(if decide p=true then x else y)=x:=by rw[AAa (by simpa using h)]
theorem Ad {a:Type} {p:Prop} [Decidable p] {x y:a} (h:¬p):(if decide p=true then x else y)=y:=by rw[AAZ (by simpa using h)]
theorem Eu {a:Type} {l:List a} {i:Nat} (h:i<l.length):l.drop i=l[i]::l.drop (i+1):=ABQ h
theorem GQ {a:Type} {l:List a} {i:Nat} (h:¬i<l.length):l.drop i=[]:=List.drop_eq_nil_of_le (by omega)
theorem Bj:BU=18446744073709551616:=rfl
theorem kinds {P:Int->Prop} (N:P 1) (O:P 2) (Q:P 3) (R:P 4) (S:P 5) (T:P 6) (U:P 7) (V:P 8) (W:P 9) (a:P 10) (b:P 11) (c:P 12) (d:P 13) (e:P 14) (f:P 15) (g:P 16) (h:P 17) (i:P 18) (j:P 19) (l:P 20) (m:P 21) (n:P 22) (o:P 23)
 (X:∀k,k≠1->k≠2->k≠3->k≠4->k≠5->k≠6->k≠7->k≠8->k≠9->k≠10->k≠11->k≠12->k≠13->k≠14->k≠15->k≠16->k≠17->k≠18->k≠19->k≠20->k≠21->k≠22->k≠23->P k) (k:Int):P k:=by
 by_cases s:k=1;· exact s▸N
 by_cases t:k=2;· exact t▸O
 by_cases u:k=3;· exact u▸Q
 by_cases v:k=4;· exact v▸R
 by_cases w:k=5;· exact w▸S
 by_cases x:k=6;· exact x▸T
 by_cases y:k=7;· exact y▸U
 by_cases z:k=8;· exact z▸V
 by_cases B:k=9;· exact B▸W
 by_cases D:k=10;· exact D▸a
 by_cases E:k=11;· exact E▸b
 by_cases C:k=12;· exact C▸c
 by_cases F:k=13;· exact F▸d
 by_cases G:k=14;· exact G▸e
 by_cases H:k=15;· exact H▸f
 by_cases q:k=16;· exact q▸g
 by_cases I:k=17;· exact I▸h
 by_cases J:k=18;· exact J▸i
 by_cases K:k=19;· exact K▸j
 by_cases p:k=20;· exact p▸l
 by_cases L:k=21;· exact L▸m
 by_cases r:k=22;· exact r▸n
 by_cases M:k=23;· exact M▸o
 exact X k s t u v w x y z B D E C F G H q I J K p L r M
end Go.Abs
namespace Go.Abs
set_option maxHeartbeats 4000000
def Bx {α:Type} (o:ABr α) (Q:α->Prop):Prop:=∃r,o=some r/\Q r
theorem tR {a:Type} {r:a} {Q:a->Prop} (h:Q r):Bx (some r) Q:=⟨r,rfl,h⟩
theorem tB {a b:Type} {o:ABr a} {Q:a->Prop} {f:a->ABr b} {R:b->Prop} (h:Bx o Q) (k:∀x,Q x->Bx (f x) R):Bx (o.bind f) R:=by obtain⟨x,rfl,c⟩:=h;exact k x c
theorem tG {a b:Type} {l:List a} {i:Int} {f:a->ABr b} {R:b->Prop} (h:0≤i/\i<(l.length:Int)) (k:∀x,x∈l->Bx (f x) R):Bx ((gt l i).bind f) R:=by
 obtain⟨n,rfl⟩:∃n:Nat,i=n:=⟨i.toNat,by omega⟩;have hn:n<l.length:=by omega
 rw[Cw hn,AAP];exact k _ (AAl hn)
theorem tC {b:Type} {p:Prop} [Decidable p] {a:ABr b} {R:b->Prop} (h:p) (k:Bx a R):Bx (if p then a else none) R:=by rw[AAa h];exact k
theorem tI {d:Type} {c:Bool} {a b:ABr d} {R:d->Prop} (e:c=true->Bx a R) (f:c=false->Bx b R):Bx (if c=true then a else b) R:=by
 cases c with
 |true=>simpa using e rfl
 |false=>simpa using f rfl
theorem tM {a:Type} {o:ABr a} {Q R:a->Prop} (h:Bx o Q) (k:∀x,Q x->R x):Bx o R:=by obtain⟨x,e,b⟩:=h;exact⟨x,e,k x b⟩
structure FH (t:Ab):Prop where
 l:t.L.length≤4000000000000000000
 a:0≤t.At/\t.At≤t.L.length
 u:∀x∈t.L,0≤x/\x<256
theorem Gr {t:Ab} (b:FH t) {n:Int} (hn:0<n/\n<1000):Bx (Ak t n) λr=>(0≤r.1/\r.1<n)/\FH r.2:=by
 have e:=b.l;have f:=b.a;unfold Ak Ak.J1;rw[CX (n:=t.At+1) (by omega) (by omega),CX (n:=t.At+1-1) (by omega) (by omega)];refine tI (λ_=> ?_) λh=> ?_
 . exact tI (λ_=>tR ⟨⟨by omega,hn.1⟩,b⟩) λh=>by cases h
 . have d:¬t.At≥(t.L.length:Int):=(by simpa using h);refine tI (λh=>absurd (AAc h) (by omega)) λ_=> ?_;refine tG (by omega) λx c=>tC (by omega) (tR ⟨?_,b.l,by simp only;omega,b.u⟩);have c:=b.u x c;rw[CX (by omega) (by omega)];exact⟨Int.tmod_nonneg _ c.1,Int.tmod_lt_of_pos _ hn.1⟩
def qS:ABs:=⟨#[113]⟩
def vN:List ABs:=[⟨#[97]⟩,⟨#[98]⟩,⟨#[120]⟩,⟨#[121]⟩,⟨#[118]⟩]
theorem V6 {l k:List ABs} (h:(l.all λx=>k.any λy=>decide (x=y))=true) {x:ABs} (c:x∈l):x∈k:=by obtain⟨y,a,b⟩:=List.any_eq_true.1 (AAX.1 h x c);rw[AAc b];exact a
theorem Xb {x:ABs} (h:(vN.any λy=>decide (x=y))=true):x∈vN:=V6 (l:=[x]) (by simpa using h) (AAj.2 rfl)
def S5:Nat->A7->Prop
 |0,_=>False
 |n+1,e=>e.Op=1/\e.L=[]∨(e.Op=2/\e.L=[]/\e.Name∈vN)∨(e.Op=3/\e.Name=qS/\∃a,e.L=[a]/\S5 n a)∨(e.Op∈[(6:Int),7,8,11,13,17]/\∃a b,e.L=[a,b]/\S5 n a/\S5 n b)
theorem okE_mono {n:Nat}:∀{e:A7},S5 n e->S5 (n+1) e:=by
 induction n with
 |zero=>exactλh=>h.elim
 |succ n ih=>
  intro e h;rcases h with h|h|⟨c,d,a,f,g⟩|⟨c,a,b,d,f,g⟩
  . exact .inl h
  . exact .inr (.inl h)
  . exact .inr (.inr (.inl ⟨c,d,a,f,ih g⟩))
  . exact .inr (.inr (.inr ⟨c,a,b,d,ih f,ih g⟩))
def U4 (m m':AO):Prop:=FH m'.t/\m'={m with t:=m'.t}
theorem T9 {R:AO->Int->ABr (A7×AO)} {a:Int} {m:AO} {v:Int×Ab} (d:FH v.2) (C:0≤v.1/\v.1<10) {c:Bool} {j:Nat}
 (h:c=false->7≤v.1->∀k f,(f=0∨f=Ay (a-1))->FH k.t->Bx (R k f) λr=>S5 j r.1/\U4 k r.2):
 Bx (C4.J1 R a m v c) λr=>S5 (j+1) r.1/\U4 m r.2:=by
 unfold C4.J1 Jq Ii IJ;simp only[AAP];refine tI (λ_=> ?_) λu=>tI (λ_=> ?_) λl=> ?_
 . refine tB (Gr d (by omega)) ?_;rintro n ⟨_,b⟩;exact tR ⟨.inl ⟨rfl,rfl⟩,b,rfl⟩
 . refine tB (Gr d (by omega)) ?_;rintro n ⟨g,b⟩;exact tG g λx i=>tR ⟨.inr (.inl ⟨rfl,rfl,V6 (by decide) i⟩),b,rfl⟩
 . have l:=of_decide_eq_false l;have h:=h u (by omega);refine tI (λ_=> ?_) λ_=> ?_
   . refine tB (h _ _ (.inl rfl) d) ?_;rintro e ⟨b,q,s⟩;exact tR ⟨.inr (.inr (.inl ⟨rfl,rfl,_,rfl,b⟩)),q,by rw[s]⟩
   . refine tB (Gr d (by omega)) ?_;rintro n ⟨g,b⟩;refine tG g λx i=>tB (h _ _ (.inr rfl) b) ?_;rintro e ⟨o,g2,p⟩;refine tB (h _ _ (.inr rfl) g2) ?_;rintro B ⟨w,y,z⟩;exact tR ⟨.inr (.inr (.inr ⟨i,_,_,rfl,o,w⟩)),y,by rw[z,p]⟩
theorem okE_le {a b:Nat} (h:a≤b) {e:A7} (c:S5 a e):S5 b e:=by
 induction h with
 |refl=>exact c
 |step _ ih=>exact okE_mono ih
theorem T8 {n:Nat} {m:AO} (hn:0<n) (c:FH m.t):Bx (B5 n m 0) λr=>S5 1 r.1/\U4 m r.2:=by
 obtain⟨n,rfl⟩:∃k,n=k+1:=⟨n-1,by omega⟩;show Bx (C4 (B5 n) m 0) _;unfold C4;refine tB (Gr c (by omega)) ?_;rintro v ⟨b,a⟩;refine tI (λ_=>T9 a b (λh=>by cases h)) λ_=>tI (λ_=>T9 a b λh d=> ?_) λh=> ?_
 . exact absurd (of_decide_eq_false h) (by omega)
 . simp at h
theorem zW (d:Nat):∀(n:Nat) (m:AO),d<n->d<100->FH m.t->Bx (B5 n m d) λr=>S5 (d+1) r.1/\U4 m r.2:=by
 induction d with
 |zero=>exactλn m hn _ a=>T8 hn a
 |succ d ih=>
  intro n m hn hd a;obtain⟨n,rfl⟩:∃k,n=k+1:=⟨n-1,by omega⟩;show Bx (C4 (B5 n) m _) _;unfold C4;refine tB (Gr a (by omega)) ?_;rintro v ⟨g,f⟩;have key:∀c,Bx (C4.J1 (B5 n) ((d+1:Nat):Int) m v c) λr=>S5 (d+1+1) r.1/\U4 m r.2:=by
   intro c;refine T9 f g λ_ _ i j e b=> ?_;rcases e with rfl|rfl
   . exact tM (T8 (by omega) b) λr h=>⟨okE_le (by omega) h.1,h.2⟩
   . rw[CX (by omega) (by omega),show((d+1:Nat):Int)-1=(d:Int)from by omega];exact ih n i (by omega) (by omega) b
  exact tI (λ_=>key _) λ_=>tI (λ_=>key _) λ_=>key _
theorem KS {m:AO} {d:Int} (hd:d=0∨d=1) (a:FH m.t):Bx (B5 BU m d) λr=>S5 2 r.1/\U4 m r.2:=by
 have b:=Bj;rcases hd with rfl|rfl
 . exact tM (T8 (by omega) a) λr h=>⟨okE_le (by omega) h.1,h.2⟩
 . exact zW 1 BU m (by omega) (by omega) a
theorem NY (l:List ABs) (s:ABs) (d:l.length<1000000):Bx (CF l s) λr=> -1≤r/\r<l.length:=by
 have c:=Bj;have key:∀n (i:Nat),l.length<n+i->i≤l.length->Bx (CF.AZ l s n i) λr=> -1≤r/\r<l.length:=by
  intro n;induction n with
  |zero=>intro i a b;omega
  |succ n ih=>intro i a b;unfold CF.AZ CF.L1 CF.J1;refine tI (λh=> ?_) λ_=>tR (by omega);have h:=AAc h;refine tG (by omega) λx _=>tI (λ_=>tR (by omega)) λ_=> ?_;rw[Ao (by omega)];exact ih (i+1) (by omega) (by omega)
 exact key BU 0 (by omega) (by omega)
theorem P8 {m:AO} (a:m.held.length<1000) (s:ABs):Bx (Dg m s) λr=>r.2=m:=by unfold Dg;exact tB (NY _ _ (by omega)) λ_ _=>tR rfl
end Go.Abs
namespace Go.Abs
theorem V3 {a b:List Int} (d:a.Pairwise (· < ·)) (f:b.Pairwise (· < ·)) (h:∀x,x∈a↔x∈b):a=b:=by
 induction a generalizing b with
 |nil=>
  cases b with
  |nil=>rfl
  |cons y b=>have:=(h y).2 (by simp);simp at this
 |cons x a ih=>
  cases b with
  |nil=>have:=(h x).1 (by simp);simp at this
  |cons y b=>
   rw[List.pairwise_cons]at d f;have j:x=y:=by
    have g:=(h x).1 (by simp);have i:=(h y).2 (by simp);rcases AAp.1 g with e|g
    . exact e
    . rcases AAp.1 i with e|i
      . exact e.symm
      . have:=f.1 x g;have:=d.1 y i;omega
   subst j;congr 1;refine ih d.2 f.2 λz=> ?_;have k:=h z;simp only[AAp]at k;constructor
   . intro c
     have:=d.1 z c;rcases k.1 (.inr c)with e|e
     . omega
     . exact e
   . intro c
     have:=f.1 z c;rcases k.2 (.inr c)with e|e
     . omega
     . exact e
theorem Q9 (d:Array Int) (hd:∀i j,i≤j->j<d.size->d[i]! ≤d[j]!):∀m,m≤d.size->(∀x,x∈Lib.compactUpTo d m↔∃i,i<m/\d[i]! =x)/\(Lib.compactUpTo d m).Pairwise (· < ·):=by
 intro m;induction m with
 |zero=>intro _;exact⟨λx=>by simp[Lib.compactUpTo],by simp[Lib.compactUpTo]⟩
 |succ m ih=>
  intro q;obtain⟨f,g⟩:=ih (by omega);rw[Lib.compactUpTo_succ];by_cases c:Lib.keeps d m=true
  . rw[AAa c];refine⟨λx=> ?_,?_⟩
    . rw[AAh,f x,AAj];constructor
      . rintro(⟨i,hi,e⟩|e)
        . exact⟨i,by omega,e⟩
        . exact⟨m,by omega,e.symm⟩
      . rintro⟨i,hi,e⟩;by_cases a:i=m
        . exact .inr (by rw[← e,a])
        . exact .inl ⟨i,by omega,e⟩
    . rw[List.pairwise_append];refine⟨g,by simp,λx n y h=> ?_⟩;rw[AAj]at h;subst h;obtain⟨i,hi,e⟩:=(f x).1 n;have b:m=0∨d[m]! ≠d[m-1]! :=(by simpa[Lib.keeps]using c);have o:=hd i (m-1) (by omega) (by omega);have p:=hd (m-1) m (by omega) (by omega);rcases b with k|k
      . omega
      . rw[← e];omega
  . rw[AAZ c,List.append_nil];refine⟨λx=> ?_,g⟩;have b:¬(m=0∨d[m]! ≠d[m-1]!):=(by simpa[Lib.keeps]using c);rw[not_or]at b;have l:d[m]! =d[m-1]! :=(by have:=b.2;simpa using this);rw[f x];constructor
    . rintro⟨i,hi,e⟩;exact⟨i,by omega,e⟩
    . rintro⟨i,hi,e⟩;by_cases a:i=m
      . exact⟨m-1,by omega,by rw[← l,← a,e]⟩
      . exact⟨i,by omega,e⟩
def Qu (l:List Int):List Int:=l.mergeSort λx y=>decide (x≤y)
def Lz (l:List Int):List Int:=Lib.compact (Qu l)
theorem QC (l:List Int):(Qu l).length=l.length:=by simp[Qu]
theorem uS (l:List Int) (x:Int):x∈Qu l↔x∈l:=by simp[Qu]
theorem Sx (l:List Int):(Qu l).Pairwise (· ≤ ·):=by have:=List.pairwise_mergeSort (le:=λx y:Int=>decide (x≤y)) (by simp;omega) (by simp;omega) l;simpa[Qu]using this
theorem Qm (l:List Int) (h:l.Pairwise (· ≤ ·)):(∀x,x∈Lib.compact l↔x∈l)/\(Lib.compact l).Pairwise (· < ·):=by
 have hd:∀i j,i≤j->j<l.toArray.size->l.toArray[i]! ≤l.toArray[j]! :=by
  intro i j c f;have a:j<l.length:=by simpa using f
  rcases Nat.lt_or_eq_of_le c with b|rfl
  . have:=List.pairwise_iff_getElem.1 h i j (by omega) a b;rw[getElem!_pos l.toArray i (by simp;omega),getElem!_pos l.toArray j (by simpa using a)];simpa using this
  . exact Int.le_refl _
 obtain⟨b,d⟩:=Q9 l.toArray hd l.length (by simp);refine⟨λx=> ?_,d⟩;show x∈Lib.compactUpTo l.toArray l.length↔_;rw[b x,List.mem_iff_getElem];constructor
 . rintro⟨i,hi,e⟩;rw[getElem!_pos l.toArray i (by simpa using hi)]at e;exact⟨i,hi,by simpa using e⟩
 . rintro⟨i,hi,e⟩;exact⟨i,hi,by rw[getElem!_pos l.toArray i (by simpa using hi)];simpa using e⟩
theorem l8 (l:List Int):(Lib.compact l).length≤l.length:=by unfold Lib.compact Lib.compactUpTo;rw[AA0];exact ABK (ABg _ _) (by simp)
theorem KF (l:List Int) (x:Int):x∈Lz l↔x∈l:=by unfold Lz;rw[(Qm _ (Sx l)).1,uS]
theorem KC (l:List Int):(Lz l).Pairwise (· < ·):=(Qm _ (Sx l)).2
theorem N5 (l:List Int):(Lz l).length≤l.length:=by have:=l8 (Qu l);rw[QC]at this;exact this
def G1 (out:List Int) (x:Int):Nat:=(out.takeWhile λy=>decide (y<x)).length
def ins (out:List Int) (x:Int):List Int:=if out[G1 out x]? =some x then out else out.take (G1 out x)++x::out.drop (G1 out x)
theorem Ya (out:List Int) (x:Int) (i:Nat) (hi:i≤out.length) (b:∀(k:Nat) (d:k<out.length),k<i->out[k]<x) (c:∀(e:i<out.length),¬out[i]<x):G1 out x=i:=by
 unfold G1;induction out generalizing i with
 |nil=>simp at hi;simp[hi]
 |cons y out ih=>
  by_cases a:y<x
  . cases i with
    |zero=>exact absurd a (c (by simp))
    |succ i=>rw[List.takeWhile_cons_of_pos (by simpa using a),AA4];rw[ih i (by simpa using hi) (λk d f=>by have:=b (k+1) (by simpa using d) (by omega);simpa using this) (λe=>by have:=c (by simpa using e);simpa using this)]
  . cases i with
    |zero=>rw[List.takeWhile_cons_of_neg (by simpa using a)];rfl
    |succ i=>have:=b 0 (by simp) (by omega);simp at this;exact absurd this a
theorem Vx (out:List Int) (x:Int):(ins out x).length≤out.length+1:=by
 unfold ins;split
 . omega
 . simp;omega
def insAll (l:List Int):List Int:=l.foldl ins []
theorem uC (out:List Int) (x:Int) (h:out.Pairwise (· < ·)):(ins out x).Pairwise (· < ·)/\∀z,z∈ins out x↔z∈out∨z=x:=by
 have key:∀(out:List Int),out.Pairwise (· < ·)->(∀(k:Nat) (b:k<out.length),k<G1 out x->out[k]<x)/\(∀(k:Nat) (b:k<out.length),G1 out x≤k->x≤out[k])/\G1 out x≤out.length:=by
  intro out;induction out with
  |nil=>intro _;simp[G1]
  |cons y out ih=>
   intro j;rw[List.pairwise_cons]at j;obtain⟨i,g2,o⟩:=ih j.2;by_cases f:y<x
   . have e:G1 (y::out) x=G1 out x+1:=(by unfold G1;rw[List.takeWhile_cons_of_pos (by simpa using f)];rfl);rw[e];refine⟨λk b d=> ?_,λk b d=> ?_,by simp;omega⟩
     . cases k with
       |zero=>simpa using f
       |succ k=>have:=i k (by simpa using b) (by omega);simpa using this
     . cases k with
       |zero=>omega
       |succ k=>have:=g2 k (by simpa using b) (by omega);simpa using this
   . have e:G1 (y::out) x=0:=(by unfold G1;rw[List.takeWhile_cons_of_neg (by simpa using f)];rfl);rw[e];refine⟨λk b d=>by omega,λk b _=> ?_,by simp⟩;cases k with
     |zero=>simp;omega
     |succ k=>
      have g:k<out.length:=by simpa using b
      have:=j.1 out[k] (AAl g);simp;omega
 obtain⟨i,g2,o⟩:=key out h;unfold ins;split
 . rename_i c;obtain⟨q,c⟩:=AAS.1 c;refine⟨h,λz=>⟨.inl,?_⟩⟩;rintro(a|rfl)
   . exact a
   . rw[← c];exact AAl q
 . rename_i c;have l:out=out.take (G1 out x)++out.drop (G1 out x):=(ABj _ _).symm;refine⟨?_,λz=> ?_⟩
   . rw[List.pairwise_append,List.pairwise_cons];refine⟨h.sublist (List.take_sublist _ _),⟨λz a=> ?_,h.sublist (List.drop_sublist _ _)⟩,λy f z a=> ?_⟩
     . obtain⟨k,b,rfl⟩:=List.mem_iff_getElem.1 a;rw[List.getElem_drop];rw[List.length_drop]at b;have m:=g2 (G1 out x+k) (by omega) (by omega);by_cases n:k=0
       . subst n;have:out[G1 out x+0]≠x:=λe=>c (by rw[AAV (by omega)];simpa using e);omega
       . have p:=g2 (G1 out x) (by omega) (by omega);have s:=List.pairwise_iff_getElem.1 h (G1 out x) (G1 out x+k) (by omega) (by omega) (by omega);omega
     . obtain⟨k,b,rfl⟩:=List.mem_iff_getElem.1 f;rw[List.getElem_take];rw[List.length_take]at b;have m:=i k (by omega) (by omega);rcases AAp.1 a with rfl|a
       . exact m
       . obtain⟨r,g,rfl⟩:=List.mem_iff_getElem.1 a;rw[List.getElem_drop];rw[List.length_drop]at g;have p:=g2 (G1 out x+r) (by omega) (by omega);omega
   . rw[AAh,AAp];constructor
     . rintro(a|rfl|a)
       . exact .inl (ABp a)
       . exact .inr rfl
       . exact .inl (List.mem_of_mem_drop a)
     . rintro(a|rfl)
       . rw[l,AAh]at a;exact a.imp id .inr
       . exact .inr (.inl rfl)
theorem oK (l:List Int):insAll l=Lz l:=by
 have key:∀(l a:List Int),a.Pairwise (· < ·)->(l.foldl ins a).Pairwise (· < ·)/\∀z,z∈l.foldl ins a↔z∈a∨z∈l:=by
  intro l;induction l with
  |nil=>intro a h;exact⟨h,by simp⟩
  |cons x l ih=>
   intro a h;obtain⟨b,c⟩:=uC a x h;obtain⟨d,e⟩:=ih (ins a x) b;refine⟨d,λz=> ?_⟩;rw[List.foldl_cons,e z,c z,AAp];constructor
   . rintro((h|h)|h)
     . exact .inl h
     . exact .inr (.inl h)
     . exact .inr (.inr h)
   . rintro(h|h|h)
     . exact .inl (.inl h)
     . exact .inl (.inr h)
     . exact .inr h
 obtain⟨b,c⟩:=key l [] (by simp);exact V3 b (KC l) λz=>by rw[KF];have:=c z;simpa[insAll]using this
def Hp (c:Int):Bool:=(decide (97≤c)&&decide (c≤122))||(decide (65≤c)&&decide (c≤90))
def Mw (c:Int):Bool:=Hp c||((decide (48≤c)&&decide (c≤57))||c==95)
def I8 (s:ABs) (i:Nat):Int:=((s.get! i).toNat:Int)
def OH (s:ABs) (i:Nat):Bool:=Hp (I8 s i)||(decide (0<i)&&((decide (48≤I8 s i)&&decide (I8 s i≤57))||I8 s i==95))
theorem bR (s:ABs) (i:Nat) (h:(s.get! i).toNat<128):Utf8.decode s i=((s.get! i).toNat,1):=by unfold Utf8.decode;simp[h]
theorem mB (s:ABs) (i:Nat) (h:¬(s.get! i).toNat<128):128≤(Utf8.decode s i).1:=by
 unfold Utf8.decode;simp only[Nat.add_zero,h,AAd];have b:128≤Utf8.runeError:=by decide
 split
 . split
   . assumption
   . exact b
 . split
   . split
     . rename_i a;simp only[AAR,AAk]at a;exact ABK (by decide) a.1
     . exact b
   . split
     . split
       . rename_i a;simp only[AAR,AAk]at a;exact ABK (by decide) a.1
       . exact b
     . exact b
def pW (c:Int) (pos:Nat):Bool:=Hp c||(decide (0<pos)&&((decide (48≤c)&&decide (c≤57))||c==95))
theorem Ts (s:ABs) (L:Nat->ABr Bool) (a:Nat) (b:a<s.size):
 Cm.L1 s L a=if pW ((Utf8.decode s a).1:Int) a=true then L (a+(Utf8.decode s a).2)else some false:=by
 unfold Cm.L1;rw[BG b];unfold Cm.J2 Cm.J3 pW Hp;generalize ((Utf8.decode s a).1:Int)=c;have e:decide ((a:Int)>0)=decide (0<a):=by simp
 rw[e];generalize decide (97≤c)=b1;generalize decide (c≤122)=b2;generalize decide (65≤c)=b3;generalize decide (c≤90)=b4;generalize decide (48≤c)=b5;generalize decide (c≤57)=b6;generalize decide (0<a)=b7;generalize (c==95)=b8;cases b1<;>cases b2<;>cases b3<;>cases b4<;>cases b5<;>cases b6<;>cases b7<;>cases b8<;>rfl
theorem Ml (s:ABs):∀(n a:Nat),a≤s.size->s.size<n+a->Cm.AZ s n a=some ((List.range' a (s.size-a)).all (OH s))
 |0,a,h1,h2=>by omega
 |n+1,a,h1,h2=>by
  unfold Cm.AZ;by_cases c:a<s.size
  . rw[Ts s _ a c];have d:List.range' a (s.size-a)=a::List.range' (a+1) (s.size-(a+1)):=(by rw[show s.size-a=(s.size-(a+1))+1 from by omega,List.range'_succ]);rw[d,ABL];by_cases b:(s.get! a).toNat<128
    . rw[bR s a b,Ml s n (a+1) (by omega) (by omega)];show(if OH s a=true then _ else _)=_
      cases OH s a<;>simp
    . have g:=mB s a b;have f:OH s a=false:=(by unfold OH Hp I8;simp;omega);have e:pW ((Utf8.decode s a).1:Int) a=false:=(by unfold pW Hp;simp;omega);rw[f,e,Bool.false_and];rfl
  . unfold Cm.L1;rw[Ad c];have:s.size-a=0:=(by omega);simp[Cm.J4,this]
theorem qX {s:ABs} {i:Nat} (h:i<s.size):sgt s (i:Int)=some (s.get! i):=by
 unfold sgt;rw[AAa (by omega)];simp only[ABO];rw[getElem?_pos s i h];congr 1;have e:s.get! i=s[i]:=by simp[ByteArray.get!,getElem!_pos,h];rfl
 exact e.symm
theorem OM (c:Int):Fj c=some (Hp c):=by unfold Fj Fj.J1 Hp;simp only[ge_iff_le];generalize decide (97≤c)=b1;generalize decide (c≤122)=b2;generalize decide (65≤c)=b3;generalize decide (c≤90)=b4;cases b1<;>cases b2<;>cases b3<;>cases b4<;>rfl
theorem Xn (c:Int):HB c=some (Mw c):=by unfold HB Hb;rw[OM,AAP];unfold HB.J1 Hb.J1 Mw;simp only[ge_iff_le];generalize Hp c=b1;generalize decide (48≤c)=b5;generalize decide (c≤57)=b6;generalize (c==95)=b8;cases b1<;>cases b5<;>cases b6<;>cases b8<;>rfl
theorem Md (s:ABs) (c:s.size≤12):∀(n i:Nat),i≤s.size->s.size<n+i->Bu.AZ s n i=some ((List.range' i (s.size-i)).all λk=>Mw (I8 s k))
 |0,pos,h1,h2=>by omega
 |n+1,i,h1,h2=>by
  unfold Bu.AZ Bu.L1;by_cases b:i<s.size
  . rw[BG (by omega),qX b,AAP,Xn,AAP,Ao (by omega),Md s c n (i+1) (by omega) (by omega)];have a:List.range' i (s.size-i)=i::List.range' (i+1) (s.size-(i+1)):=(by rw[show s.size-i=(s.size-(i+1))+1 from by omega,List.range'_succ]);rw[a,ABL];show(if(!(Mw (I8 s i)))=true then _ else _)=_
    cases Mw (I8 s i)<;>simp
  . rw[Ad (by omega)];have:s.size-i=0:=(by omega);simp[Bu.J2,this]
theorem PK (s:ABs):∀(n i:Nat),i≤22->22<n+i->Df.AZ s n i=some ((LD.drop i).any λx=>s.toList==x.toList)
 |0,pos,h1,h2=>by omega
 |n+1,i,h1,h2=>by
  have b:LD.length=22:=rfl;unfold Df.AZ Df.L1;by_cases c:i<22
  . have a:i<LD.length:=(by omega);rw[BG (by omega),AAa (by omega),Cw a,AAP,Ao (by omega),PK s n (i+1) (by omega) (by omega),Eu a,List.any_cons];cases(s.toList==LD[i].toList)<;>simp
  . rw[Ad (by omega)];have:LD.drop i=[]:=List.drop_eq_nil_of_le (by omega);simp[Df.J1,this]
def uE (s:ABs):Bool:=LD.any λx=>s.toList==x.toList
theorem Rn (s:ABs):Df s=some (uE s):=PK s BU 0 (by omega) (by decide)
theorem TK:Js=some LD:=rfl
theorem Kx (s:ABs) (v:List ABs) (b:v.length≤100):∀(n i:Nat),i≤v.length->v.length<n+i->DH.AZ s v n i=some ((v.drop i).any λx=>x.toList==s.toList)
 |0,pos,h1,h2=>by omega
 |n+1,i,h1,h2=>by
  unfold DH.AZ DH.L1;by_cases a:i<v.length
  . rw[BG (by omega),Cw a,AAP,Ao (by omega),Kx s v b n (i+1) (by omega) (by omega),Eu a,List.any_cons];cases(v[i].toList==s.toList)<;>simp
  . rw[Ad (by omega)];have:v.drop i=[]:=List.drop_eq_nil_of_le (by omega);simp[DH.J1,this]
theorem RZ (s:ABs):DH s=some (uE s):=by unfold DH;rw[TK,AAP];refine(Kx s LD (by decide) BU 0 (by omega) (by decide)).trans ?_;rw[AAx];congr 1;unfold uE;congr 1;funext x;exact Bool.beq_comm
def PV (s:ABs):Bool:=decide (1≤s.size)&&decide (s.size≤12)&& !uE s&&(List.range' 0 s.size).all (OH s)
theorem Vt (s:ABs):Cm s=some (PV s):=by
 unfold Cm;by_cases c:s.size<1
 . rw[BG (by omega)];simp[Cm.J1,PV];omega
 . rw[Ad (by omega)];by_cases d:s.size>12
   . rw[BG (by omega)];simp[Cm.J1,PV];omega
   . rw[Ad (by omega),Rn,AAP];unfold Cm.J1;rw[Ml s BU 0 (by omega) (by have:BU=18446744073709551616:=rfl;omega)];have a:1≤s.size:=(by omega);have b:s.size≤12:=(by omega);simp only[PV,a,b,decide_true,AA8,Nat.sub_zero];cases uE s<;>simp
theorem nA (s:ABs) (h:0<s.size):(Hp (I8 s 0)&&(List.range' 0 s.size).all λk=>Mw (I8 s k))=(List.range' 0 s.size).all (OH s):=by
 have f:List.range' 0 s.size=0::List.range' 1 (s.size-1):=by rw[show s.size=(s.size-1)+1 from by omega,List.range'_succ];simp
 rw[f,ABL,ABL];have b:OH s 0=Hp (I8 s 0):=by simp[OH]
 have c:Mw (I8 s 0)=(Hp (I8 s 0)||((decide (48≤I8 s 0)&&decide (I8 s 0≤57))||I8 s 0==95)):=rfl;have d:(List.range' 1 (s.size-1)).all (OH s)=(List.range' 1 (s.size-1)).all λk=>Mw (I8 s k):=by
  rw[Bool.eq_iff_iff,AAX,AAX];have e:∀k∈List.range' 1 (s.size-1),OH s k=Mw (I8 s k):=λk a=>by have:0<k:=(by have:=List.mem_range'_1.1 a;omega);simp[OH,Mw,this]
  exact⟨λh k a=>e k a▸h k a,λh k a=>(e k a).symm▸h k a⟩
 rw[b,c,d];cases Hp (I8 s 0)<;>simp
theorem OL (s:ABs):Bu s=some (PV s):=by
 unfold Bu;by_cases c:s.size<1
 . rw[BG (by omega)];simp[Bu.J1,PV];omega
 . rw[Ad (by omega)];by_cases d:s.size>12
   . rw[BG (by omega)];simp[Bu.J1,PV];omega
   . rw[Ad (by omega),show(0:Int)=((0:Nat):Int)from rfl,qX (by omega),AAP,OM,AAP,RZ,AAP];unfold Bu.J1;rw[show(0:Int)=((0:Nat):Int)from rfl,Md s (by omega) BU 0 (by omega) (by have:BU=18446744073709551616:=rfl;omega)];have a:1≤s.size:=(by omega);have b:s.size≤12:=(by omega);simp only[PV,a,b,decide_true,AA8,Nat.sub_zero];rw[← nA s (by omega)];show(if(!Hp (I8 s 0))=true then _ else _)=_
     cases uE s<;>cases Hp (I8 s 0)<;>simp
instance:Inhabited KE:=⟨⟨⟨#[]⟩,false⟩⟩
theorem ba_beq (a b:ABs):(a==b)=(a.data==b.data):=by cases a;cases b;rfl
theorem sD (a b:ABs):(a.toList==b.toList)=(a==b):=by rw[ba_beq,Bool.eq_iff_iff,AAg,AAg,ByteArray.toList_eq,ByteArray.toList_eq];exact Array.toList_inj
theorem Uc (wv:AB) (L1:List ABs->Int->ABr (List ABs×Bool)) (L1':List ABs->Int->ABr (List ABs×Bool)) (F:List ABs×Bool->ABr (List ABs×Bool))
 (e:F ([],false)=some ([],false)) (f:∀a b,L1 a b=(L1' a b).bind F) (i:Int) (l:List ABs) (x:DT):
 ∀(m:Nat) (k:Int) (c:DT),c.Name=x.Name->c.B7=x.B7->c.F6=false->c.Init=x.Init->
  BK.Cf L1 i l wv x m k=(AU.Cf L1' i wv.Cells l x m c k).bind F
 |0,k,c,_,_,_,_=>rfl
 |m+1,k,c,e1,e2,e3,e4=>by
  have o:=λp=>Uc wv L1 L1' F e f i l x m p ⟨c.Name,k,c.B7,c.F6,c.Init⟩ e1 e2 e3 e4;unfold BK.Cf AU.Cf BK.L2 AU.L2;by_cases d:k<x.B7
  . rw[BG d,BG d];cases gt wv.Cells (Ay (i+k))with
    |none=>rfl
    |some y=>simp only[AAP,BK.J2,o,e1,e2,e3,e4];by_cases g:y.Index=k<;>by_cases h:y.Name.toList=x.Name.toList<;>by_cases j:y.B7=x.B7<;>by_cases n:y.Init=x.Init<;>cases a5:y.F6<;>simp[g,h,j,n,e]
  . rw[Ad d,Ad d];simp only[BK.J3,AU.J2,f,e2]
def Mo (wv:AB):List ABs×Bool->ABr (List ABs×Bool):=λv=>if v.2=true then BK.J4 wv v.1 else some ([],false)
theorem Zf (wv:AB) (m:wv.Cells.length≤12):∀(n:Nat) (names:List ABs) (i:Int),
 BK.AZ wv n names i=(AU.AZ wv.Cells n names i).bind (Mo wv)
 |0,_,_=>rfl
 |n+1,names,i=>by
  have j:=Zf wv m n;unfold BK.AZ AU.AZ BK.L1 AU.L1;by_cases hi:i<(wv.Cells.length:Int)
  . rw[BG hi,BG hi];cases hx:gt wv.Cells i with
    |none=>rfl
    |some x=>
     simp only[AAP];by_cases d:Af (names.length+1) 16=true
     . rw[AAa d,AAa d];by_cases e:x.B7=0
       . simp only[e,ABC,AAq,j];by_cases c:x.Index=0<;>simp[c,Mo]
       . simp only[e,AAg,AAd,BK.J1,AU.J1];by_cases c:x.B7<1
         . simp[c,Mo]
         . by_cases f:x.B7>4
           . simp[c,f,Mo]
           . simp only[c,f,decide_false,AAY,AAd];have k:=Uc wv _ _ (Mo wv) rfl (λa b=>j a b) i names x BU 0 x rfl rfl;by_cases g:x.B7>Ay ((wv.Cells.length:Int)-i)
             . cases x.F6<;>simp[g,Mo]
             . simp only[g,decide_false,AAY,AAd];cases hv:x.F6 with
               |false=>simp only[AAY,AAd];exact k hv rfl
               |true=>
                simp only[AAq];have o:0≤i:=by
                 unfold gt at hx;by_cases h:0≤i
                 . exact h
                 . simp[h]at hx
                show BK.Cf _ _ _ _ _ BU 0=_;rw[show BU=18446744073709551615+1 from rfl];unfold BK.Cf BK.L2;rw[BG (by omega),CX (by omega) (by omega),Int.add_zero,hx];simp only[AAP,BK.J2,hv];by_cases l:x.Index=0<;>simp[l,Mo]
     . rw[AAZ d,AAZ d];rfl
  . rw[Ad hi,Ad hi];simp[AU.J3,Mo]
theorem ML (l:List DT) (j:l.length≤12) (L1:List ABs->Int->ABr (List ABs×Bool)) (names:List ABs) (x:DT) (i:Nat) (f:1≤x.B7) (g:x.B7≤4) (n:x.B7≤(l.length:Int)-i) (Q:List ABs×Bool->Prop) (c:Q ([],false))
 (b:∃v,L1 (names++[x.Name]) ((i+x.B7.toNat:Nat):Int)=some v/\Q v):
 ∀(m k:Nat) (a:DT),a.B7=x.B7->k≤x.B7->x.B7<(m+k:Nat)->∃v,AU.Cf L1 (i:Int) l names x m a (k:Int)=some v/\Q v
 |0,k,a,e,h,h'=>by omega
 |m+1,k,a,e,h,h'=>by
  unfold AU.Cf AU.L2;by_cases d:(k:Int)<x.B7
  . rw[BG d,CX (by omega) (by omega),show(i:Int)+(k:Int)=((i+k:Nat):Int)from by omega,Cw (by omega),AAP,Ao (by omega)];split
    . exact⟨_,rfl,c⟩
    . exact ML l j L1 names x i f g n Q c b m (k+1) _ e (by omega) (by omega)
  . rw[Ad d];unfold AU.J2;rw[e,CX (by omega) (by omega),show(i:Int)+x.B7=((i+x.B7.toNat:Nat):Int)from by omega];exact b
theorem MM (l:List DT) (d:l.length≤12):∀(n i:Nat) (names:List ABs),i≤l.length->l.length<n+i->names.length≤i->∃v,AU.AZ l n names (i:Int)=some v/\v.1.length≤l.length
 |0,i,names,a,b,c=>by omega
 |n+1,i,names,a,b,c=>by
  unfold AU.AZ AU.L1;by_cases hi:i<l.length
  . rw[BG (by omega),Cw hi,AAP,BO (by omega)];have g:∃v,some (([],false):List ABs×Bool)=some v/\v.1.length≤l.length:=⟨_,rfl,by simp⟩;generalize l[i]=x;by_cases e:x.B7=0
    . simp only[e,ABC,AAq];rw[Ao (by omega)];split
      . exact g
      . exact MM l d n (i+1) _ (by omega) (by omega) (by simp;omega)
    . simp only[e,AAg,AAd,AU.J1];rw[CX (n:=(l.length:Int)-i) (by omega) (by omega)];by_cases a:x.B7<1
      . simp[a]
      . by_cases b:x.B7>4
        . simp[a,b]
        . by_cases c:x.F6=true
          . simp[a,b,c]
          . by_cases f:x.B7>(l.length:Int)-i
            . simp[a,b,c,f]
            . simp only[a,b,c,f,decide_false,AAY,AAd];refine ML l d _ names x i (by omega) (by omega) (by omega) _ (by simp) ?_ BU 0 x rfl (by omega) (by have:=Bj;omega);exact MM l d n (i+x.B7.toNat) _ (by omega) (by omega) (by simp;omega)
  . rw[Ad (by omega)];exact⟨_,rfl,by simp;omega⟩
def Ki (wv:AB):List ABs:=wv.AF.map (·.Name)++(wv.Ah.map (·.Name)++(wv.AK++wv.AA))
def SK:List ABs->List ABs->Bool
 |_,[]=>true
 |seen,x::r=>PV x&& !(seen.any λy=>y==x)&&SK (seen++[x]) r
structure Small (wv:AB):Prop where
 c:wv.Cells.length≤12
 l:wv.AF.length≤4
 d:wv.Ah.length≤2
 f:wv.AK.length≤2
 t:wv.AA.length≤4
 s:wv.BF.length≤60
theorem names.L3 (wv:AB) (a:List ABs) (c:(a++wv.AK++wv.AA).length≤1000):∀(n i:Nat) (b:List ABs),i≤(a++wv.AK++wv.AA).length->(a++wv.AK++wv.AA).length<n+i->
 BB.Hz a wv n (i:Int) b=some (SK b ((a++wv.AK++wv.AA).drop i))
 |0,i,b,h1,h2=>by omega
 |n+1,i,b,h1,h2=>by
  unfold BB.Hz BB.L3;by_cases hi:i<(a++wv.AK++wv.AA).length
  . rw[BG (by omega),Cw hi,AAP,Vt,AAP,Eu hi];unfold BB.J3;rw[Ao (by omega),names.L3 wv a c n (i+1) _ (by omega) (by omega)];generalize (a++wv.AK++wv.AA)[i]=x;rw[SK];cases PV x<;>cases hs:(b.any λy=>y==x)<;>simp
  . rw[Ad (by omega),GQ hi];rfl
theorem names.J2 (wv:AB) (b:Small wv) (a:List ABs) (c:a.length≤100):BB.J2 wv a=some (SK [] (a++(wv.AK++wv.AA))):=by
 have:=b.f;have:=b.t;have d:=Bj;unfold BB.J2;rw[BO (by omega),BO (by simp;omega)]
 have:=names.L3 wv a (by simp;omega) BU 0 [] (by omega) (by simp;omega);rw[AAx,ABB]at this;exact this
theorem names.L2 (wv:AB) (b:Small wv):∀(n i:Nat) (a:List ABs),i≤wv.Ah.length->wv.Ah.length<n+i->a.length≤50+i->BB.Cf wv n a (i:Int)=some (SK [] (a++((wv.Ah.drop i).map (·.Name)++(wv.AK++wv.AA))))
 |0,i,a,h1,h2,h3=>by omega
 |n+1,i,a,h1,h2,h3=>by
  have:=b.d;unfold BB.Cf BB.L2;by_cases hi:i<wv.Ah.length
  . rw[BG (by omega),Cw hi,AAP,BO (by omega),Ao (by omega),names.L2 wv b n (i+1) _ (by omega) (by omega) (by simp;omega),Eu hi];simp only[AAi,ABB,AA6,ABN]
  . rw[Ad (by omega),GQ hi,names.J2 wv b a (by omega)];simp
theorem names.L1 (wv:AB) (b:Small wv):∀(n i:Nat) (a:List ABs),i≤wv.AF.length->wv.AF.length<n+i->a.length≤20+i->BB.AZ wv n a (i:Int)=some (SK [] (a++((wv.AF.drop i).map (·.Name)++(wv.Ah.map (·.Name)++(wv.AK++wv.AA)))))
 |0,i,a,h1,h2,h3=>by omega
 |n+1,i,a,h1,h2,h3=>by
  have:=b.l;have:=b.d;have c:=Bj;unfold BB.AZ BB.L1;by_cases hi:i<wv.AF.length
  . rw[BG (by omega),Cw hi,AAP,BO (by omega),Ao (by omega),names.L1 wv b n (i+1) _ (by omega) (by omega) (by simp;omega),Eu hi];simp only[AAi,ABB,AA6,ABN]
  . rw[Ad (by omega),GQ hi];unfold BB.J1
    have:=names.L2 wv b BU 0 a (by omega) (by omega) (by omega);rw[AAx]at this;simpa using this
theorem names_eq (wv:AB) (b:Small wv) (a:List ABs) (d:a.length≤12):BB wv a=some (SK [] (a++Ki wv)):=by
 have:=b.l;have c:=Bj;unfold BB;rw[BO (by omega)]
 have:=names.L1 wv b BU 0 a (by omega) (by omega) (by omega);rw[AAx]at this;exact this
theorem N4.J6 (wv:AB) (b:Small wv) (a:List ABs) (c:a.length≤100):BK.J6 wv a=some (a++(wv.AK++wv.AA),true):=by have:=b.f;have:=b.t;unfold BK.J6;rw[BO (by omega),BO (by simp;omega),ABB]
theorem N4.L4 (wv:AB) (b:Small wv):∀(n i:Nat) (a:List ABs),i≤wv.Ah.length->wv.Ah.length<n+i->a.length≤50+i->BK.L4r wv n a (i:Int)=some (a++((wv.Ah.drop i).map (·.Name)++(wv.AK++wv.AA)),true)
 |0,i,a,h1,h2,h3=>by omega
 |n+1,i,a,h1,h2,h3=>by
  have:=b.d;unfold BK.L4r BK.L4;by_cases hi:i<wv.Ah.length
  . rw[BG (by omega),Cw hi,AAP,BO (by omega),Ao (by omega),N4.L4 wv b n (i+1) _ (by omega) (by omega) (by simp;omega),Eu hi];simp only[AAi,ABB,AA6,ABN]
  . rw[Ad (by omega),GQ hi,N4.J6 wv b a (by omega)];simp
theorem N4.L3 (wv:AB) (b:Small wv):∀(n i:Nat) (a:List ABs),i≤wv.AF.length->wv.AF.length<n+i->a.length≤20+i->BK.Hz wv n a (i:Int)=some (a++((wv.AF.drop i).map (·.Name)++(wv.Ah.map (·.Name)++(wv.AK++wv.AA))),true)
 |0,i,a,h1,h2,h3=>by omega
 |n+1,i,a,h1,h2,h3=>by
  have:=b.l;have:=b.d;have c:=Bj;unfold BK.Hz BK.L3;by_cases hi:i<wv.AF.length
  . rw[BG (by omega),Cw hi,AAP,BO (by omega),Ao (by omega),N4.L3 wv b n (i+1) _ (by omega) (by omega) (by simp;omega),Eu hi];simp only[AAi,ABB,AA6,ABN]
  . rw[Ad (by omega),GQ hi];unfold BK.J5
    have:=N4.L4 wv b BU 0 a (by omega) (by omega) (by omega);rw[AAx]at this;simpa using this
theorem N4.J4 (wv:AB) (b:Small wv) (a:List ABs) (c:a.length≤12):BK.J4 wv a=some (a++Ki wv,true):=by
 have:=b.l;have d:=Bj;unfold BK.J4
 have:=N4.L3 wv b BU 0 a (by omega) (by omega) (by omega);rw[AAx]at this;exact this
theorem oV (l:List ABs) (x:ABs) (b:l.length≤1000):∀(n i:Nat),i≤l.length->l.length<n+i->∃r,CF.AZ l x n (i:Int)=some r/\(0≤r↔((l.drop i).any λy=>y==x)=true)
 |0,i,h1,h2=>by omega
 |n+1,i,h1,h2=>by
  unfold CF.AZ CF.L1;by_cases hi:i<l.length
  . rw[BG (by omega),Cw hi,AAP,Ao (by omega),Eu hi,sD,List.any_cons];obtain⟨r,c,a⟩:=oV l x b n (i+1) (by omega) (by omega);cases hx:(l[i]==x)with
    |true=>exact⟨_,rfl,by simp⟩
    |false=>exact⟨r,by simpa using c,by simpa using a⟩
  . rw[Ad (by omega),GQ hi];exact⟨-1,rfl,by simp⟩
theorem at_eq (l:List ABs) (x:ABs) (c:l.length≤1000):∃r,CF l x=some r/\decide (r≥0)=(l.any λy=>y==x):=by
 obtain⟨r,b,a⟩:=oV l x c BU 0 (by omega) (by have:=Bj;omega);rw[AAx]at a;refine⟨r,b,?_⟩;cases h:(l.any λy=>y==x)with
 |true=>simpa using a.2 h
 |false=>simp only[decide_eq_false_iff_not,ge_iff_le];intro d;rw[a.1 d]at h;cases h
theorem Uy (wv:AB) (v:List ABs×Bool) (d:v.1.length≤1000):∀(n i:Nat),i≤v.1.length->v.1.length<n+i->
 Ap.AZ v wv n (i:Int)=if SK (v.1.take i) (v.1.drop i)=true then Ap.J3 wv else some false
 |0,i,h1,h2=>by omega
 |n+1,i,h1,h2=>by
  unfold Ap.AZ Ap.L1;by_cases hi:i<v.1.length
  . rw[BG (by omega),Cw hi,AAP,OL,AAP,Eu hi,AAa (c:=0≤(i:Int)/\(i:Int).toNat≤v.1.length) (by simp;omega),ABO];obtain⟨r,a,b⟩:=at_eq (v.1.take i) v.1[i] (by simp;omega);rw[a,AAP,b];unfold Ap.J2;rw[Ao (by omega),Uy wv v d n (i+1) (by omega) (by omega),SK,AAm hi];cases PV v.1[i]<;>cases((v.1.take i).any λy=>y==v.1[i])<;>simp
  . rw[Ad (by omega),GQ hi];rfl
def Gu (nt:Nat):Int->Int->List Dp->Bool
 |_,_,[]=>true
 |t,n,x::r=>if x.Thread<t∨x.Thread≥nt then false else if x.Thread>t then x.Stmt==0&&Gu nt x.Thread 1 r else x.Stmt==n&&Gu nt t (n+1) r
theorem Rm (wv:AB) (e:Small wv):∀(n i:Nat) (t:Int) (a:Nat),i≤wv.BF.length->wv.BF.length<n+i->a≤i->CP.AZ wv n t (a:Int) (i:Int)=some (Gu wv.AA.length t a (wv.BF.drop i))
 |0,i,t,a,h1,h2,h3=>by omega
 |n+1,i,t,a,h1,h2,h3=>by
  have:=e.s;unfold CP.AZ CP.L1;by_cases hi:i<wv.BF.length
  . rw[BG (by omega),Cw hi,AAP,Eu hi];simp only[CP.J1,CP.J2];rw[Ao (i:=i) (by omega),Ao (i:=a) (by omega),show Ay (0+1)=((1:Nat):Int)from rfl];rw[Rm wv e n (i+1) _ (a+1) (by omega) (by omega) (by omega),Rm wv e n (i+1) _ 1 (by omega) (by omega) (by omega)];generalize wv.BF[i]=x;rw[Gu];by_cases b:x.Thread<t
    . simp[b]
    . by_cases c:x.Thread≥(wv.AA.length:Int)
      . simp[b,c]
      . by_cases f:x.Thread>t
        . by_cases d:x.Stmt=0<;>simp[b,c,f,d]
        . by_cases d:x.Stmt=(a:Int)<;>simp[b,c,f,d]
  . rw[Ad (by omega),GQ hi];rfl
theorem U3 (wv:AB) (q:Small wv):∀(n i:Nat) (t:Int) (f:Nat),i≤wv.BF.length->wv.BF.length<n+i->f≤i->(∀(h:0<i) (D:i-1<wv.BF.length),t=wv.BF[i-1].Thread/\(f:Int)=wv.BF[i-1].Stmt+1)->(i=0->t=0/\f=0)->0≤t->
 Ap.Hz wv n (i:Int)=some (Gu wv.AA.length t f (wv.BF.drop i))
 |0,i,t,f,h1,h2,h3,_,_,_=>by omega
 |n+1,i,t,f,h1,h2,h3,h4,h5,h6=>by
  have:=q.s;unfold Ap.Hz Ap.L3;by_cases hi:i<wv.BF.length
  . rw[BG (by omega),Cw hi,AAP,Eu hi];have m:∀(j:Int) (e:Nat),e≤i+1->(j=wv.BF[i].Thread/\(e:Int)=wv.BF[i].Stmt+1)->0≤j->Ap.Hz wv n ((i+1:Nat):Int)=some (Gu wv.AA.length j e (wv.BF.drop (i+1))):=
     λj e a b c=>U3 wv q n (i+1) j e (by omega) (by omega) a (λ_ _=>b) (by omega) c
    simp only[Ap.J6,Ap.J7,Ap.J8,Ap.J9];rw[Ao (i:=i) (by omega)];rw[Gu];by_cases a0:wv.BF[i].Thread<0
    . have:wv.BF[i].Thread<t:=(by omega);simp[a0,this]
    . by_cases o:wv.BF[i].Thread≥(wv.AA.length:Int)
      . simp[a0,o]
      . simp only[a0,o,decide_false,ABD,AAY,AAd];by_cases B:i=0
        . subst B;obtain⟨rfl,rfl⟩:=h5 rfl;simp only[Int.natCast_zero,ABC,AAq,a0,AAd,Int.lt_irrefl,gt_iff_lt,decide_false,AAY];by_cases d:wv.BF[0].Stmt=0
          . simp only[d,bne_self_eq_false,AAY,AAd,ABC,AA8];rw[m wv.BF[0].Thread 1 (by omega) ⟨rfl,by simp[d]⟩ (by omega)];split
            . rfl
            . rw[show wv.BF[0].Thread=0 from by omega];rfl
          . simp[d]
        . have x:((i:Int)==0)=false:=(by simp;omega);have l:gt wv.BF (Ay ((i:Int)-1))=some wv.BF[i-1]:=(by rw[CX (by omega) (by omega),show(i:Int)-1=((i-1:Nat):Int)from by omega,Cw (by omega)]);obtain⟨v,w⟩:=h4 (by omega) (by omega);have z:Ay (wv.BF[i-1].Stmt+1)=(f:Int):=(by rw[← w];exact CX (by omega) (by omega));have y:decide ((i:Int)>0)=true:=(by simp;omega);simp only[x,l,AAP,AAY,AAd,z,← v,y,AAq];by_cases p:t=wv.BF[i].Thread
          . have C:¬wv.BF[i].Thread<t:=(by omega);have k:¬wv.BF[i].Thread>t:=(by omega);simp only[p,bne_self_eq_false,AAY,AAd,Int.lt_irrefl,gt_iff_lt];by_cases d:wv.BF[i].Stmt=(f:Int)
            . simp only[d,bne_self_eq_false,AAY,AAd,ABC,AA8];rw[m wv.BF[i].Thread (f+1) (by omega) ⟨rfl,by omega⟩ (by omega)];rfl
            . simp[d]
          . have r:(t != wv.BF[i].Thread)=true:=(by simpa using p);simp only[r,AAq];by_cases d:wv.BF[i].Stmt=0
            . by_cases g:wv.BF[i].Thread<t
              . simp[d,g]
              . have k:wv.BF[i].Thread>t:=(by omega);have u:¬t>wv.BF[i].Thread:=(by omega);simp only[d,g,k,u,bne_self_eq_false,AAY,AAd,decide_false,AAq,ABC,AA8];rw[m wv.BF[i].Thread 1 (by omega) ⟨rfl,by simp[d]⟩ (by omega)];rfl
            . by_cases g:wv.BF[i].Thread<t
              . simp[d,g]
              . have k:wv.BF[i].Thread>t:=(by omega);simp[d,g,k]
  . rw[Ad (by omega),GQ hi];rfl
theorem sites_eq (wv:AB) (a:Small wv):CP wv=some (Gu wv.AA.length 0 0 wv.BF):=by have:=Rm wv a BU 0 0 0 (by omega) (by have:=a.s;have:=Bj;omega) (by omega);rw[AAx]at this;exact this
theorem vM (wv:AB) (a:Small wv):Ap.J5 wv=some (Gu wv.AA.length 0 0 wv.BF):=by have:=U3 wv a BU 0 0 0 (by omega) (by have:=a.s;have:=Bj;omega) (by omega) (by omega) (by simp) (by omega);rw[AAx]at this;exact this
def OE (wv:AB) (c:Ty):Bool:=Du c.Mutex wv.AF.length&& !(ix wv.AF c.Mutex).RW
theorem QL (i:Int) (n:Nat):Ez i (n:Int)=some (Du i n):=by unfold Ez Ez.J1 Du;simp only[ge_iff_le];cases decide (0≤i)<;>rfl
theorem Ww (wv:AB) (a:Small wv):∀(n i:Nat),i≤wv.Ah.length->wv.Ah.length<n+i->Bh.AZ wv n (i:Int)=if(wv.Ah.drop i).all (OE wv)=true then some (Gu wv.AA.length 0 0 wv.BF)else some false
 |0,i,h1,h2=>by omega
 |n+1,i,h1,h2=>by
  have:=a.d;unfold Bh.AZ Bh.L1;by_cases hi:i<wv.Ah.length
  . rw[BG (by omega),Cw hi,AAP,Eu hi,Ao (by omega),Ww wv a n (i+1) (by omega) (by omega),ABL];generalize wv.Ah[i]=c;unfold Fq;rw[QL,AAP];unfold OE Fq.J1;cases h:Du c.Mutex wv.AF.length with
    |false=>simp
    |true=>rw[AAa rfl,C1 h,AAP,AAP];cases(ix wv.AF c.Mutex).RW<;>simp
  . rw[Ad (by omega),GQ hi];unfold Bh.J4;rw[sites_eq wv a];rfl
theorem Uv (wv:AB) (b:Small wv):∀(n i:Nat),i≤wv.Ah.length->wv.Ah.length<n+i->Ap.Cf wv n (i:Int)=if(wv.Ah.drop i).all (OE wv)=true then some (Gu wv.AA.length 0 0 wv.BF)else some false
 |0,i,h1,h2=>by omega
 |n+1,i,h1,h2=>by
  have:=b.d;unfold Ap.Cf Ap.L2;by_cases hi:i<wv.Ah.length
  . unfold Ap.J4;rw[BG (by omega),Cw hi,AAP,Eu hi,Ao (by omega),Uv wv b n (i+1) (by omega) (by omega),ABL];generalize wv.Ah[i]=c;unfold OE;by_cases a:c.Mutex<0
    . have:Du c.Mutex wv.AF.length=false:=(by simp[Du];omega);simp[a,this]
    . by_cases e:c.Mutex≥(wv.AF.length:Int)
      . have:Du c.Mutex wv.AF.length=false:=(by simp[Du];omega);simp[a,e,this]
      . have h:Du c.Mutex wv.AF.length=true:=(by simp[Du];omega);rw[Ad a,Ad e,C1 h,AAP,h];cases(ix wv.AF c.Mutex).RW<;>simp
  . rw[Ad (by omega),GQ hi];exact vM wv b
def Cz (wv:AB):Bool:=decide (wv.Cells.length≤12)&&decide (wv.AF.length≤4)&&decide (wv.Ah.length≤2)&&decide (wv.AK.length≤2)&&decide (1≤wv.AA.length)&&decide (wv.AA.length≤4)&&decide (wv.BF.length≤60)&&
 (match AU wv.Cells with
 |some v=>v.2&&SK [] (v.1++Ki wv)&&wv.Ah.all (OE wv)&&Gu wv.AA.length 0 0 wv.BF
 |none=>false)
theorem Yn (wv:AB):Bh wv=some (Cz wv):=by
 unfold Bh Bh.J1;by_cases a:wv.Cells.length≤12
 . by_cases b:wv.AF.length≤4
   . by_cases c:wv.Ah.length≤2
     . by_cases d:wv.AK.length≤2
       . by_cases e:wv.BF.length≤60
         . rw[Ad (by omega),Ad (by omega),Ad (by omega),Ad (by omega),AAZ (by simp;omega)];unfold Bh.J2;by_cases g:1≤wv.AA.length
           . by_cases f:wv.AA.length≤4
             . have i:Small wv:=⟨a,b,c,d,f,e⟩;obtain⟨v,l,m⟩:=MM wv.Cells a BU 0 [] (by omega) (by have:=Bj;omega) (by simp);have j:AU wv.Cells=some v:=l;rw[Ad (by omega),AAZ (by simp;omega),j,AAP];have k:Cz wv=(v.2&&SK [] (v.1++Ki wv)&&wv.Ah.all (OE wv)&&Gu wv.AA.length 0 0 wv.BF):=(by unfold Cz;rw[j];simp[a,b,c,d,e,g,f]);rw[k,names_eq wv i v.1 (by omega),AAP];unfold Bh.J3;have h:=Ww wv i BU 0 (by omega) (by have:=Bj;omega);rw[AAx]at h;rw[show(0:Int)=((0:Nat):Int)from rfl,h];cases v.2<;>cases SK [] (v.1++Ki wv)<;>cases wv.Ah.all (OE wv)<;>simp
             . rw[Ad (by omega),AAa (by simp;omega)];simp[Cz,f]
           . rw[BG (by omega),AAa rfl];simp[Cz,g]
         . rw[Ad (by omega),Ad (by omega),Ad (by omega),Ad (by omega),AAa (by simp;omega)];simp[Cz,e]
       . rw[Ad (by omega),Ad (by omega),Ad (by omega),BG (by omega),AAa rfl];simp[Cz,d]
     . rw[Ad (by omega),Ad (by omega),BG (by omega),AAa rfl];simp[Cz,c]
   . rw[Ad (by omega),BG (by omega),AAa rfl];simp[Cz,b]
 . rw[BG (by omega),AAa rfl];simp[Cz,a]
theorem Lq (wv:AB):Ap wv=some (Cz wv):=by
 unfold Ap Ap.J1;by_cases a:wv.Cells.length≤12
 . by_cases c:wv.AF.length≤4
   . by_cases d:wv.Ah.length≤2
     . by_cases e:wv.AK.length≤2
       . by_cases h:1≤wv.AA.length
         . by_cases g:wv.AA.length≤4
           . by_cases f:wv.BF.length≤60
             . have l:Small wv:=⟨a,c,d,e,g,f⟩;obtain⟨v,k,n⟩:=MM wv.Cells a BU 0 [] (by omega) (by have:=Bj;omega) (by simp);have o:AU wv.Cells=some v:=k;rw[Ad (by omega),Ad (by omega),Ad (by omega),Ad (by omega),Ad (by omega),Ad (by omega),AAZ (by simp;omega)];have m:Cz wv=(v.2&&SK [] (v.1++Ki wv)&&wv.Ah.all (OE wv)&&Gu wv.AA.length 0 0 wv.BF):=(by unfold Cz;rw[o];simp[a,c,d,e,f,h,g]);have hn:BK wv=Mo wv v:=(by have:=Zf wv a BU [] 0;rw[show(0:Int)=((0:Nat):Int)from rfl,k]at this;exact this);rw[hn,m];unfold Mo;have i:=Uv wv l BU 0 (by omega) (by have:=Bj;omega);rw[AAx]at i;cases dU:v.2 with
               |false=>simp
               |true=>rw[AAa rfl,N4.J4 wv l v.1 (by omega),AAP,AAZ (by simp)];have b:(v.1++Ki wv).length≤1000:=(by simp[Ki];omega);have j:=Uy wv (v.1++Ki wv,true) b BU 0 (by omega) (by have:=Bj;simp only;omega);rw[List.take_zero,AAx]at j;rw[show(0:Int)=((0:Nat):Int)from rfl,j];unfold Ap.J3;rw[show(0:Int)=((0:Nat):Int)from rfl,i];cases SK [] (v.1++Ki wv)<;>cases wv.Ah.all (OE wv)<;>simp
             . rw[Ad (by omega),Ad (by omega),Ad (by omega),Ad (by omega),Ad (by omega),Ad (by omega),AAa (by simp;omega)];simp[Cz,f]
           . rw[Ad (by omega),Ad (by omega),Ad (by omega),Ad (by omega),Ad (by omega),BG (by omega),AAa rfl];simp[Cz,g]
         . rw[Ad (by omega),Ad (by omega),Ad (by omega),Ad (by omega),BG (by omega),AAa rfl];simp[Cz,h]
       . rw[Ad (by omega),Ad (by omega),Ad (by omega),BG (by omega),AAa rfl];simp[Cz,e]
     . rw[Ad (by omega),Ad (by omega),BG (by omega),AAa rfl];simp[Cz,d]
   . rw[Ad (by omega),BG (by omega),AAa rfl];simp[Cz,c]
 . rw[BG (by omega),AAa rfl];simp[Cz,a]
theorem DJ {wv:AB} (h:Cz wv=true):Small wv:=by unfold Cz at h;simp only[AAR,AAk]at h;obtain⟨⟨⟨⟨⟨⟨⟨a,b⟩,c⟩,d⟩,g⟩,e⟩,f⟩,i⟩:=h;exact⟨a,b,c,d,e,f⟩
instance:Inhabited Ty:=⟨⟨⟨#[]⟩,0⟩⟩
instance:Inhabited DT:=⟨⟨⟨#[]⟩,0,0,false,0⟩⟩
instance:Inhabited Dp:=⟨⟨0,0,0⟩⟩
instance:Inhabited AY:=⟨⟨0,[]⟩⟩
instance:Inhabited AG:=⟨⟨0,0,false⟩⟩
def JE (wv:AB):AN:=⟨List.replicate wv.AF.length ⟨-1,[]⟩, -1,List.replicate wv.AK.length false,(List.replicate wv.AA.length ⟨0,0,false⟩).set 0 ⟨1,0,false⟩⟩
theorem start.L1 (wv:AB) (a:Small wv) (D:List Bool) (T:List AG) (tx:Int):∀(n i:Nat),i≤wv.AF.length->wv.AF.length<n+i->
 Dm.AZ wv n ⟨List.replicate i ⟨-1,[]⟩++List.replicate (wv.AF.length-i) ⟨0,[]⟩,tx,D,T⟩ (i:Int)=Dm.J1 ⟨List.replicate wv.AF.length ⟨-1,[]⟩,tx,D,T⟩
 |0,i,h1,h2=>by omega
 |n+1,i,h1,h2=>by
  have:=a.l;unfold Dm.AZ Dm.L1;by_cases hi:i<wv.AF.length
  . rw[BG (by simp;omega)];have e:List.replicate (wv.AF.length-i) (AY.mk 0 [])=AY.mk 0 []::List.replicate (wv.AF.length-(i+1)) (AY.mk 0 []):=(by rw[show wv.AF.length-i=(wv.AF.length-(i+1))+1 from by omega,List.replicate_succ]);have b:gt (List.replicate i (AY.mk (-1) [])++List.replicate (wv.AF.length-i) (AY.mk 0 [])) (i:Int)=some ⟨0,[]⟩:=(by rw[JN,e,AAy (by simp)];simp);have c:(List.replicate i (AY.mk (-1) [])++List.replicate (wv.AF.length-i) (AY.mk 0 [])).set i (AY.mk (-1) [])=List.replicate (i+1) (AY.mk (-1) [])++List.replicate (wv.AF.length-(i+1)) (AY.mk 0 []):=(by rw[e,List.set_append_right _ _ (by simp)];simp only[ABb,Nat.sub_self,List.set_cons_zero];rw[ABq];simp);simp only[b,AAP,ABO,c];rw[Ao (by omega)];exact start.L1 wv a D T tx n (i+1) (by omega) (by omega)
  . rw[Ad (by simp;omega)];have:i=wv.AF.length:=(by omega);subst this;simp
theorem VS (wv:AB) (a:Small wv):Dm wv=some (JE wv):=by
 have c:=a.l;have d:=a.f;have e:=a.t;have g:=Bj;unfold Dm;rw[AAa ⟨by omega,by omega,BM (by omega)⟩,AAa ⟨by omega,by omega,BM (by omega)⟩,AAa ⟨by omega,by omega,BM (by omega)⟩]
 have:=start.L1 wv a (List.replicate wv.AK.length false) (List.replicate wv.AA.length (AG.mk 0 0 false)) (-1) BU 0 (by omega) (by omega);simp only[List.replicate_zero,ABN,Nat.sub_zero,Int.natCast_zero]at this;rw[this];unfold Dm.J1 Dm.J2 JE;simp only[ABb];by_cases h:wv.AA.length=0
 . simp[h]
 . have b:0<wv.AA.length:=(by omega);rw[BG (by omega)];have:gt (List.replicate wv.AA.length (AG.mk 0 0 false)) 0=some ⟨0,0,false⟩:=(by show gt _ ((0:Nat):Int)=_;rw[JN];simp[b]);rw[this];rfl
theorem Pm.L3 (wv:AB) (a:Small wv) (L:List AY) (D:List Bool) (tx:Int):∀(n i:Nat),i≤wv.AA.length->wv.AA.length<n+i->
 B2.Hz wv n ⟨L,tx,D,(List.replicate i ⟨0,0,false⟩).set 0 ⟨1,0,false⟩⟩ (i:Int)=some ⟨L,tx,D,(List.replicate wv.AA.length ⟨0,0,false⟩).set 0 ⟨1,0,false⟩⟩
 |0,i,h1,h2=>by omega
 |n+1,i,h1,h2=>by
  have:=a.t;unfold B2.Hz B2.L3;by_cases hi:i<wv.AA.length
  . unfold B2.J3;rw[BG (by omega)];simp only[List.length_set,ABb];rw[BO (by omega),BO (by omega),Ao (by omega)];have e:∀x,(if((i:Int)==0)=true then B2.Hz wv n ⟨L,tx,D,(List.replicate i ⟨0,0,false⟩).set 0 ⟨1,0,false⟩++[⟨1,0,false⟩]⟩ x else B2.Hz wv n ⟨L,tx,D,(List.replicate i ⟨0,0,false⟩).set 0 ⟨1,0,false⟩++[⟨0,0,false⟩]⟩ x)=B2.Hz wv n ⟨L,tx,D,(List.replicate (i+1) ⟨0,0,false⟩).set 0 ⟨1,0,false⟩⟩ x:=by
     intro x;cases i with
     |zero=>rfl
     |succ i=>rw[AAZ (by simp;omega),ABq (n:=i+1),List.set_append_left _ _ (by simp)]
    rw[e];exact Pm.L3 wv a L D tx n (i+1) (by omega) (by omega)
  . rw[Ad (by omega)];have:i=wv.AA.length:=(by omega);subst this;rfl
theorem Pm.L2 (wv:AB) (a:Small wv) (L:List AY) (tx:Int):∀(n i:Nat),i≤wv.AK.length->wv.AK.length<n+i->
 B2.Cf wv n ⟨L,tx,List.replicate i false,[]⟩ (i:Int)=some ⟨L,tx,List.replicate wv.AK.length false,(List.replicate wv.AA.length ⟨0,0,false⟩).set 0 ⟨1,0,false⟩⟩
 |0,i,h1,h2=>by omega
 |n+1,i,h1,h2=>by
  have:=a.f;unfold B2.Cf B2.L2;by_cases hi:i<wv.AK.length
  . rw[BG (by omega)];simp only[ABb];rw[BO (by omega),Ao (by omega),← ABq];exact Pm.L2 wv a L tx n (i+1) (by omega) (by omega)
  . rw[Ad (by omega)];have:i=wv.AK.length:=(by omega);subst this;unfold B2.J2;exact Pm.L3 wv a L _ tx BU 0 (by omega) (by have:=a.t;have:=Bj;omega)
theorem Pm.L1 (wv:AB) (a:Small wv):∀(n i:Nat),i≤wv.AF.length->wv.AF.length<n+i->
 B2.AZ wv n ⟨List.replicate i ⟨-1,[]⟩, -1,[],[]⟩ (i:Int)=some (JE wv)
 |0,i,h1,h2=>by omega
 |n+1,i,h1,h2=>by
  have:=a.l;unfold B2.AZ B2.L1;by_cases hi:i<wv.AF.length
  . rw[BG (by omega)];simp only[ABb];rw[BO (by omega),Ao (by omega),← ABq];exact Pm.L1 wv a n (i+1) (by omega) (by omega)
  . rw[Ad (by omega)];have:i=wv.AF.length:=(by omega);subst this;unfold B2.J1;exact Pm.L2 wv a _ (-1) BU 0 (by omega) (by have:=a.f;have:=Bj;omega)
theorem Ny (wv:AB) (a:Small wv):B2 wv=some (JE wv):=Pm.L1 wv a BU 0 (by omega) (by have:=a.l;have:=Bj;omega)
def FQ (wv:AB):AD:=⟨JE wv,wv.Cells.map (·.Init),List.replicate wv.AK.length 0,List.replicate wv.AA.length 0⟩
theorem wstart.L1 (wv:AB) (a:Small wv) (S:AN) (F C:List Int):∀(n i:Nat),i≤wv.Cells.length->wv.Cells.length<n+i->
 Cc.AZ wv n ⟨S,(wv.Cells.take i).map (·.Init),F,C⟩ (i:Int)=some ⟨S,wv.Cells.map (·.Init),F,C⟩
 |0,i,h1,h2=>by omega
 |n+1,i,h1,h2=>by
  have:=a.c;unfold Cc.AZ Cc.L1;by_cases hi:i<wv.Cells.length
  . rw[BG (by omega),Cw hi,AAP];simp only;rw[BO (by simp;omega),Ao (by omega)];have e:(wv.Cells.take i).map (·.Init)++[wv.Cells[i].Init]=(wv.Cells.take (i+1)).map (·.Init):=(by rw[← AAm hi,AA3];rfl);rw[e];exact wstart.L1 wv a S F C n (i+1) (by omega) (by omega)
  . rw[Ad (by omega),AA9 (by omega)];rfl
theorem qT.L1 (wv:AB) (a:Small wv) (S:AN) (F C:List Int):∀(n i:Nat),i≤wv.Cells.length->wv.Cells.length<n+i->
 Eo.AZ wv n ⟨S,(wv.Cells.take i).map (·.Init),F,C⟩ (i:Int)=some ⟨S,wv.Cells.map (·.Init),F,C⟩
 |0,i,h1,h2=>by omega
 |n+1,i,h1,h2=>by
  have:=a.c;unfold Eo.AZ Eo.L1;by_cases hi:i<wv.Cells.length
  . rw[BG (by omega),Cw hi,AAP];simp only;rw[BO (by simp;omega),Ao (by omega)];have e:(wv.Cells.take i).map (·.Init)++[wv.Cells[i].Init]=(wv.Cells.take (i+1)).map (·.Init):=(by rw[← AAm hi,AA3];rfl);rw[e];exact qT.L1 wv a S F C n (i+1) (by omega) (by omega)
  . rw[Ad (by omega),AA9 (by omega)];rfl
theorem LX (wv:AB) (a:Small wv):Cc wv=some (FQ wv):=by have b:=a.c;have d:=a.f;have e:=a.t;have g:=Bj;unfold Cc;rw[VS wv a,AAP,AAa ⟨by omega,by omega,BM (by omega)⟩,AAa ⟨by omega,by omega,BM (by omega)⟩,AAa ⟨by omega,by omega,BM (by omega)⟩];exact wstart.L1 wv a (JE wv) _ _ BU 0 (by omega) (by omega)
theorem Oo (wv:AB) (a:Small wv):Eo wv=some (FQ wv):=by have b:=a.c;have d:=a.f;have e:=a.t;have g:=Bj;unfold Eo;rw[Ny wv a,AAP,AAa ⟨by omega,by omega,BM (by omega)⟩,AAa ⟨by omega,by omega,BM (by omega)⟩];exact qT.L1 wv a (JE wv) _ _ BU 0 (by omega) (by omega)
end Go.Abs
namespace Go.Abs
set_option maxHeartbeats 4000000
theorem JD (i:Int) (n:Nat):DA i (n:Int)=some (Du i n):=QL i n
theorem aG (i:Int) (n:Nat):HC i (n:Int)=some (Du i n):=QL i n
theorem Ux (i:Int) (n:Nat):K0 i (n:Int)=some (Du i n):=QL i n
def GY (wv:AB) (s:AN):Bool:=wv.Ah.all (λc=>Du c.Mutex wv.AF.length)&&(s.AF.length==wv.AF.length&&(s.B6.length==wv.AK.length&&s.AA.length==wv.AA.length))
theorem Mx (a b:Nat):((a:Int)==(b:Int))=(a==b):=by rw[Bool.eq_iff_iff,AAg,AAg];omega
theorem nI (a b:Nat):((a:Int) != (b:Int))= !(a==b):=by rw[← Mx];rfl
theorem NN (wv:AB) (a:Small wv):∀(n i:Nat),i≤wv.Ah.length->wv.Ah.length<n+i->EP.AZ wv n (i:Int)=some ((wv.Ah.drop i).all λc=>Du c.Mutex wv.AF.length)
 |0,i,h1,h2=>by omega
 |n+1,i,h1,h2=>by
  have:=a.d;unfold EP.AZ EP.L1;by_cases hi:i<wv.Ah.length
  . rw[BG (by omega),Cw hi,AAP,Eu hi,Ao (by omega),NN wv a n (i+1) (by omega) (by omega),ABL,JD,AAP];cases Du wv.Ah[i].Mutex wv.AF.length<;>simp
  . rw[Ad (by omega),GQ hi];rfl
theorem My (wv:AB) (b:Small wv) (s:AN):EP wv s=some (GY wv s):=by have a:=NN wv b BU 0 (by omega) (by have:=b.d;have:=Bj;omega);rw[AAx]at a;unfold EP EP.J1 GY;rw[nI,nI,nI,show(0:Int)=((0:Nat):Int)from rfl,a];cases(s.AF.length==wv.AF.length)<;>cases(s.B6.length==wv.AK.length)<;>cases(s.AA.length==wv.AA.length)<;>simp
theorem OT (wv:AB) (e:Small wv) (s:AN):∀(n i:Nat),i≤wv.Ah.length->wv.Ah.length<n+i->EN.AZ s wv n (i:Int)=some (((wv.Ah.drop i).all λc=>Du c.Mutex wv.AF.length)&&(s.AF.length==wv.AF.length&&(s.B6.length==wv.AK.length&&s.AA.length==wv.AA.length)))
 |0,i,h1,h2=>by omega
 |n+1,i,h1,h2=>by
  have:=e.d;unfold EN.AZ EN.L1;by_cases hi:i<wv.Ah.length
  . unfold EN.J1;rw[BG (by omega),Cw hi,AAP,Eu hi,Ao (by omega),OT wv e s n (i+1) (by omega) (by omega),ABL];generalize wv.Ah[i]=c;by_cases a:c.Mutex<0
    . have:Du c.Mutex wv.AF.length=false:=(by simp[Du];omega);simp[a,this]
    . by_cases b:c.Mutex≥(wv.AF.length:Int)
      . have:Du c.Mutex wv.AF.length=false:=(by simp[Du];omega);simp[a,b,this]
      . have h:Du c.Mutex wv.AF.length=true:=(by simp[Du];omega);rw[Ad a,AAZ (by simpa using b),h,AA8]
  . rw[Ad (by omega),GQ hi];unfold EN.J2 EN.J3;rw[Mx,Mx,Mx];cases(s.AF.length==wv.AF.length)<;>cases(s.B6.length==wv.AK.length)<;>simp
theorem Ly (wv:AB) (b:Small wv) (s:AN):EN wv s=some (GY wv s):=by have a:=OT wv b s BU 0 (by omega) (by have:=b.d;have:=Bj;omega);rw[AAx]at a;exact a
def JV (wv:AB) (s:AD):Bool:=GY wv s.Sync&&(s.Cells.length==wv.Cells.length&&(s.AK.length==wv.AK.length&&s.Count.length==wv.AA.length))
theorem Rq (wv:AB) (a:Small wv) (s:AD):Ed wv s=some (JV wv s):=by unfold Ed Ed.J1 JV;rw[My wv a,AAP,Mx,Mx,Mx];cases GY wv s.Sync<;>cases(s.Cells.length==wv.Cells.length)<;>cases(s.AK.length==wv.AK.length)<;>simp
theorem ZG (wv:AB) (a:Small wv) (s:AD):HJ wv s=some (JV wv s):=by unfold HJ HJ.J1 JV;rw[Ly wv a,AAP,Mx,Mx,Mx];cases GY wv s.Sync<;>cases(s.Cells.length==wv.Cells.length)<;>cases(s.AK.length==wv.AK.length)<;>simp
def B8 (wv:AB) (k o:Int):Bool:=
 if k=1∨k=2∨k=5∨k=12∨k=13∨k=14∨k=15 then o== -1
 else if k=3∨k=4 then Du o wv.Cells.length
 else if k=6∨k=7 then Du o wv.AF.length&& !(ix wv.AF o).RW
 else if k=8∨k=9∨k=10∨k=11 then Du o wv.AF.length&&(ix wv.AF o).RW
 else if k=16∨k=17∨k=18∨k=19 then Du o wv.Ah.length
 else if k=20∨k=21 then Du o wv.AA.length
 else if k=22∨k=23 then Du o wv.AK.length
 else false
theorem lockRW {c:Type} (l:List KE) (o:Int) (f g:Bool->ABr c) (y:ABr c) (d:∀b,f b=g b) (hn:y=g false) (a:KE->Bool):(if Du o l.length=true then(gt l o).bind λx=>f (a x)else y)=g (Du o l.length&&a (ix l o)):=by
 cases h:Du o l.length with
 |false=>simp[hn]
 |true=>rw[AAa rfl,C1 h,AAP,d];simp
theorem Ma (wv:AB) (o:Int):∀k,CD wv k o=some (B8 wv k o):=by
 refine kinds ?_ ?_ ?_ ?_ ?_ ?_ ?_ ?_ ?_ ?_ ?_ ?_ ?_ ?_ ?_ ?_ ?_ ?_ ?_ ?_ ?_ ?_ ?_ (λk d e f g h i j l m p q n r s t b u v w a y c z=> ?_)
 all_goals
  unfold CD CD.J1;simp(decide:=true)only[B8,CD.J2,CD.J3,CD.J4,CD.J5,CD.J6,CD.J7,CD.J8,CD.J9,JD,AAP,ABC,AAq,AAd,AAg,ABD,ABn,ABo,false_or,AAY]
 all_goals first
  |done
  | (simp only[d,e,f,g,h,i,j,l,m,p,q,n,r,s,t,b,u,v,w,a,y,c,z,AAd,or_self];done)
  |exact lockRW wv.AF o some some (some false) (λ_=>rfl) rfl (λx=> !x.RW)
  |exact lockRW wv.AF o some some (some false) (λ_=>rfl) rfl (λx=>x.RW)
theorem X3 (wv:AB) (k o:Int):IP wv k o=some (B8 wv k o):=Ma wv o k
theorem WT (l:List Int) (v:Int) (c:l.length≤1000000000):∀(n i:Nat),i≤l.length->l.length<n+i->∃r,Fm.AZ l v n (i:Int)=some r/\(0≤r↔v∈l.drop i)
 |0,i,h1,h2=>by omega
 |n+1,i,h1,h2=>by
  unfold Fm.AZ Fm.L1;by_cases hi:i<l.length
  . rw[BG (by omega),Cw hi,AAP,Ao (by omega),Eu hi];obtain⟨r,d,b⟩:=WT l v c n (i+1) (by omega) (by omega);generalize l.drop (i+1)=rest at b ⊢;by_cases a:v=l[i]
    . exact⟨i,by simp[a],by simp[a]⟩
    . exact⟨r,by simpa[a]using d,by simpa[a]using b⟩
  . rw[Ad (by omega),GQ hi];exact⟨-1,rfl,by simp⟩
theorem WO (l:List Int) (v:Int) (c:l.length≤1000000000):GP l v=some (l.contains v):=by obtain⟨r,b,a⟩:=WT l v c BU 0 (by omega) (by have:=Bj;omega);rw[AAx]at a;unfold GP Fm;rw[show(0:Int)=((0:Nat):Int)from rfl,b,AAP];congr 1;rw[Bool.eq_iff_iff,decide_eq_true_iff,AAn];exact a
theorem eA (l:List Int) (v:Int) (b:l.length≤1000000000):∀(n i:Nat),i≤l.length->l.length<n+i->GC.AZ l v n (i:Int)=some ((l.drop i).contains v)
 |0,i,h1,h2=>by omega
 |n+1,i,h1,h2=>by
  unfold GC.AZ GC.L1;by_cases hi:i<l.length
  . rw[BG (by omega),Cw hi,AAP,Ao (by omega),Eu hi,eA l v b n (i+1) (by omega) (by omega)];generalize l.drop (i+1)=rest;by_cases a:l[i]=v
    . simp[a]
    . have:¬v=l[i]:=λh=>a h.symm;simp[a,this]
  . rw[Ad (by omega),GQ hi];rfl
theorem jV (l:List Int) (v:Int) (a:l.length≤1000000000):GC l v=some (l.contains v):=eA l v a BU 0 (by omega) (by have:=Bj;omega)
def RB (N:Nat) (s:AN):Prop:=∀x∈s.AF,x.Ax.length≤N
theorem RB.ix {N:Nat} {s:AN} (h:RB N s) (i:Int):(ix s.AF i).Ax.length≤N:=by
 unfold Abs.ix;cases hx:s.AF[i.toNat]? with
 |none=>exact Nat.zero_le _
 |some x=>exact h x (AAe hx)
def Ka (wv:AB) (s:AN) (t k o:Int):Bool:=
 let me:=ix s.AA t
 if k=1 then me.Status==1
 else if k=17 then me.Status==4&&(me.Es==o&&(ix s.AF (ix wv.Ah o).Mutex).Bz== -1)
 else me.Status==2&&(
  if k=6 then(ix s.AF o).Bz== -1
  else if k=10 then(ix s.AF o).Bz== -1&&((ix s.AF o).Ax.length:Int)==0
  else if k=8 then(ix s.AF o).Bz== -1&& !(ix s.AF o).Ax.contains t
  else if k=7∨k=11 then(ix s.AF o).Bz==t
  else if k=9 then(ix s.AF o).Ax.contains t
  else if k=12 then s.Tx== -1
  else if k=13 then s.Tx==t
  else if k=14 then !me.Atomic
  else if k=15 then me.Atomic
  else if k=16∨k=18∨k=19 then(ix s.AF (ix wv.Ah o).Mutex).Bz==t
  else if k=20 then o != t&&(ix s.AA o).Status==0
  else if k=21 then o != t&&(ix s.AA o).Status==5
  else if k=22 then !ix s.B6 o
  else if k=23 then ix s.B6 o
  else true)
def CL (wv:AB) (s:AN) (t k o:Int):Bool:=GY wv s&&(Du t wv.AA.length&&(B8 wv k o&&Ka wv s t k o))
theorem EY {wv:AB} {s:AN} (h:GY wv s=true):s.AF.length=wv.AF.length/\s.B6.length=wv.AK.length/\s.AA.length=wv.AA.length:=by unfold GY at h;simp only[AAR,AAg]at h;exact h.2
theorem G7 {wv:AB} {s:AN} (h:GY wv s=true) {o:Int} (b:Du o wv.Ah.length=true):Du (ix wv.Ah o).Mutex wv.AF.length=true:=by
 unfold GY at h;simp only[AAR,AAX]at h;obtain⟨c,d⟩:=CJ.1 b;have a:o.toNat<wv.Ah.length:=by omega
 refine h.1 _ ?_;unfold ix;rw[AAV a];exact AAl a
theorem MY (wv:AB) (D:Small wv) (s:AN) (g:RB 1000000000 s) (t o:Int):∀k,De wv s t k o=some (CL wv s t k o):=by
 intro k;unfold De CL;rw[My wv D,AAP];cases hf:GY wv s with
 |false=>rfl
 |true=>
  rw[JD,AAP];cases ht:Du t wv.AA.length with
  |false=>rfl
  |true=>
   rw[Ma,AAP];cases b:B8 wv k o with
   |false=>rfl
   |true=>
    obtain⟨e,E,h⟩:=EY hf;have f:gt s.AA t=some (ix s.AA t):=C1 (by rw[h];exact ht);unfold De.J1;simp only[Bool.not_true,AAY,AAd,AA8];rw[f,AAP];revert b;have P:=g.ix o;have d:=WO (ix s.AF o).Ax t (g.ix o);revert k;refine kinds ?_ ?_ ?_ ?_ ?_ ?_ ?_ ?_ ?_ ?_ ?_ ?_ ?_ ?_ ?_ ?_ ?_ ?_ ?_ ?_ ?_ ?_ ?_ (λk n p q r u v w z B F G C H I J j K L M i N m O=> ?_)
    all_goals
     intro b;unfold Ka;simp(decide:=true)only[B8,ABD,ABn,ABo,false_or,AAq,AAd,AAR]at b;simp(decide:=true)only[De.J2,De.J3,EF,EF.J1,EF.J2,EF.J3,EF.J4,EF.J5,EF.J6,ABC,AAg,AAq,AAd,ABD,ABn,ABo,false_or,AAY]
    all_goals first
     |done
     | (rw[C1 (l:=wv.Ah) b,AAP,C1 (l:=s.AF) (by rw[e];exact G7 hf b)];simp only[AAP];generalize (ix s.AA t).Status=x;generalize (ix s.AA t).Es=y;by_cases a:x=4<;>by_cases c:y=o<;>simp[a,c];done)
     | (rw[C1 (l:=wv.Ah) b,AAP,C1 (l:=s.AF) (by rw[e];exact G7 hf b)];simp only[AAP];generalize (ix s.AA t).Status=x;by_cases a:x=2<;>simp[a];done)
     | (rw[C1 (l:=s.AF) (by rw[e];exact b.1)];simp only[AAP,d];generalize (ix s.AA t).Status=x;by_cases a:x=2<;>by_cases c:(ix s.AF o).Bz= -1<;>simp[a,c];done)
     | (rw[C1 (l:=s.AA) (by rw[h];exact b)];simp only[AAP];generalize (ix s.AA t).Status=x;by_cases a:x=2<;>by_cases c:o=t<;>simp[a,c];done)
     | (rw[C1 (l:=s.B6) (by rw[E];exact b)];simp only[AAP];generalize (ix s.AA t).Status=x;by_cases a:x=2<;>simp[a];done)
     | (generalize (ix s.AA t).Status=x;by_cases a:x=2<;>simp[a];done)
     | (simp only[f,AAP];generalize (ix s.AA t).Status=x;by_cases a:x=2<;>simp[a];done)
     | (exfalso;revert b;simp only[n,p,q,r,u,v,w,z,B,F,G,C,H,I,J,j,K,L,M,i,N,m,O,AAd,or_self,AAY,imp_self];done)
     |skip
theorem NR (wv:AB) (D:Small wv) (s:AN) (g:RB 1000000000 s) (t o:Int):∀k,CV wv s t k o=some (CL wv s t k o):=by
 intro k;unfold CV CL;rw[Ly wv D,AAP];cases hf:GY wv s with
 |false=>rfl
 |true=>
  rw[aG,AAP];cases ht:Du t wv.AA.length with
  |false=>rfl
  |true=>
   rw[X3,AAP];cases b:B8 wv k o with
   |false=>rfl
   |true=>
    obtain⟨e,E,h⟩:=EY hf;have f:gt s.AA t=some (ix s.AA t):=C1 (by rw[h];exact ht);unfold CV.J1;simp only[Bool.not_true,AAY,AAd,AA8];rw[f,AAP];revert b;have P:=g.ix o;have d:=jV (ix s.AF o).Ax t (g.ix o);revert k;refine kinds ?_ ?_ ?_ ?_ ?_ ?_ ?_ ?_ ?_ ?_ ?_ ?_ ?_ ?_ ?_ ?_ ?_ ?_ ?_ ?_ ?_ ?_ ?_ (λk n p q r u v w z B F G C H I J j K L M i N m O=> ?_)
    all_goals
     intro b;unfold Ka;simp(decide:=true)only[B8,ABD,ABn,ABo,false_or,AAq,AAd,AAR]at b;simp(decide:=true)only[CV.J2,CV.J3,CV.J4,CV.J5,CV.J6,CV.J7,CV.J8,ABC,AAg,AAq,AAd,ABD,ABn,ABo,false_or,AAY]
    all_goals first
     |done
     | (rw[C1 (l:=wv.Ah) b,AAP,C1 (l:=s.AF) (by rw[e];exact G7 hf b)];simp only[AAP];generalize (ix s.AA t).Status=x;generalize (ix s.AA t).Es=y;by_cases a:x=4<;>by_cases c:y=o<;>simp[a,c];done)
     | (rw[C1 (l:=wv.Ah) b,AAP,C1 (l:=s.AF) (by rw[e];exact G7 hf b)];simp only[AAP];generalize (ix s.AA t).Status=x;by_cases a:x=2<;>simp[a];done)
     | (rw[C1 (l:=s.AF) (by rw[e];exact b.1)];simp only[AAP,d];generalize (ix s.AA t).Status=x;by_cases a:x=2<;>by_cases c:(ix s.AF o).Bz= -1<;>simp[a,c];done)
     | (rw[C1 (l:=s.AA) (by rw[h];exact b)];simp only[AAP];generalize (ix s.AA t).Status=x;by_cases a:x=2<;>by_cases c:o=t<;>simp[a,c];done)
     | (rw[C1 (l:=s.B6) (by rw[E];exact b)];simp only[AAP];generalize (ix s.AA t).Status=x;by_cases a:x=2<;>simp[a];done)
     | (generalize (ix s.AA t).Status=x;by_cases a:x=2<;>simp[a];done)
     | (simp only[f,AAP];generalize (ix s.AA t).Status=x;by_cases a:x=2<;>simp[a];done)
     | (exfalso;revert b;simp only[n,p,q,r,u,v,w,z,B,F,G,C,H,I,J,j,K,L,M,i,N,m,O,AAd,or_self,AAY,imp_self];done)
     |skip
theorem eF (l:List Int) (x:Int) (m:l.length≤1000000000):∀(n i:Nat),i≤l.length->l.length<n+i->(∀(k:Nat) (f:k<l.length),k<i->l[k]<x)->ES.AZ l x n (i:Int)=some (ins l x)
 |0,i,h1,h2,_=>by omega
 |n+1,i,h1,h2,h3=>by
  unfold ES.AZ ES.L1;have step:∀(b:Bool),(∀(hi:i<l.length),b=decide (l[i]<x))->(¬i<l.length->b=false)->ES.J1 (ES.AZ l x n) (i:Int) l x b=some (ins l x):=by
   intro b g p;unfold ES.J1;by_cases hi:i<l.length
   . rw[g hi];by_cases c:l[i]<x
     . rw[BG c,Ao (by omega)];refine eF l x m n (i+1) (by omega) (by omega) λk f j=> ?_;by_cases e:k=i
       . subst e;exact c
       . exact h3 k f (by omega)
     . rw[Ad c];have d:=Ya l x i h1 h3 (λ_=>c);unfold ES.J2 ES.J3 ins;rw[BG (by omega),Cw hi,AAP,d,AAV hi];by_cases e:l[i]=x
       . simp[e]
       . have:(l[i]==x)=false:=(by simpa using e);rw[this,AAZ (by simp),ABO,AAa ⟨by omega,by omega⟩,BO (by simp;omega),BO (by simp;omega),AAa ⟨by omega,by omega⟩,BO (by simp;omega),AAZ (by simpa using e)];have o:(l.drop i).take (l.length-i)=l.drop i:=AA9 (by rw[List.length_drop];omega);rw[o];simp
   . rw[p hi,AAZ (by simp)];have d:=Ya l x i h1 h3 (λh=>absurd h hi);have a:i=l.length:=(by omega);unfold ES.J2 ES.J3 ins;rw[Ad (by omega),AAZ (by simp),d,ABO,AAa ⟨by omega,by omega⟩,BO (by simp;omega),BO (by simp;omega),AAa ⟨by omega,by omega⟩,BO (by simp;omega),AAZ (by simp[a])];congr 1;simp[a]
  by_cases hi:i<l.length
  . rw[BG (by omega),Cw hi,AAP];exact step _ (λ_=>rfl) (λh=>absurd hi h)
  . rw[Ad (by omega)];exact step _ (λh=>absurd h hi) (λ_=>rfl)
theorem xU (l:List Int) (x:Int) (a:l.length≤1000000000):ES l x=some (ins l x):=eF l x a BU 0 (by omega) (by have:=Bj;omega) (λk b h=>by omega)
theorem Union.L2 (b:List Int):∀(n i:Nat) (out:List Int),i≤b.length->b.length<n+i->out.length+b.length≤1000000000+i->b.length≤1000000000->D5.Cf b n out (i:Int)=some ((b.drop i).foldl ins out)
 |0,i,out,h1,h2,h3,h4=>by omega
 |n+1,i,out,h1,h2,h3,h4=>by
  unfold D5.Cf D5.L2;by_cases hi:i<b.length
  . have a:=Vx out b[i];rw[BG (by omega),Cw hi,AAP,xU _ _ (by omega),AAP,Ao (by omega),Union.L2 b n (i+1) _ (by omega) (by omega) (by omega) h4,Eu hi,List.foldl_cons]
  . rw[Ad (by omega),GQ hi];rfl
theorem Union.L1 (a b:List Int) (c:a.length+b.length≤1000000000):∀(n i:Nat) (out:List Int),i≤a.length->a.length<n+i->out.length≤i->D5.AZ a b n out (i:Int)=some (b.foldl ins ((a.drop i).foldl ins out))
 |0,i,out,h1,h2,h3=>by omega
 |n+1,i,out,h1,h2,h3=>by
  unfold D5.AZ D5.L1;by_cases hi:i<a.length
  . have d:=Vx out a[i];rw[BG (by omega),Cw hi,AAP,xU _ _ (by omega),AAP,Ao (by omega),Union.L1 a b c n (i+1) _ (by omega) (by omega) (by omega),Eu hi,List.foldl_cons]
  . rw[Ad (by omega),GQ hi];unfold D5.J1
    have:=Union.L2 b BU 0 out (by omega) (by have:=Bj;omega) (by omega) (by omega);rw[AAx]at this;exact this
theorem eG (a b:List Int) (c:a.length+b.length≤1000000000):D5 a b=some (Lz (a++b)):=by have:=Union.L1 a b c BU 0 [] (by omega) (by have:=Bj;omega) (by simp);rw[AAx,← List.foldl_append]at this;refine Eq.trans this ?_;rw[← oK];rfl
theorem OA (l:List Int) (x:Int) (c:l.length≤1000000000):∀(n i:Nat) (out:List Int),i≤l.length->l.length<n+i->out.length≤i->D7.AZ l x n out (i:Int)=some (out++(l.drop i).filter λy=> !(y==x))
 |0,i,out,h1,h2,h3=>by omega
 |n+1,i,out,h1,h2,h3=>by
  unfold D7.AZ D7.L1;by_cases hi:i<l.length
  . unfold D7.J1;rw[BG (by omega),Cw hi,AAP,Eu hi,List.filter_cons,Ao (by omega)];by_cases e:l[i]=x
    . have a:(l[i] != x)=false:=(by simp[e]);have b:(!(l[i]==x))=false:=(by simp[e]);rw[a,b,AAZ (by simp),AAZ (by simp)];exact OA l x c n (i+1) out (by omega) (by omega) (by omega)
    . have a:(l[i] != x)=true:=(by simpa using e);have b:(!(l[i]==x))=true:=(by simpa using e);rw[a,b,AAa rfl,AAa rfl,BO (by omega),OA l x c n (i+1) _ (by omega) (by omega) (by simp;omega)];simp
  . rw[Ad (by omega),GQ hi];simp[D7.J2]
theorem oH (l:List Int) (x:Int) (a:l.length≤1000000000):D7 l x=some (l.filter λy=> !(y==x)):=by have:=OA l x a BU 0 [] (by omega) (by have:=Bj;omega) (by simp);rw[AAx]at this;exact this
def I3 (x:AG) (o:Int):Bool:=x.Status==3&&x.Es==o
def CA (o:Int):Nat->List AG->List Int
 |_,[]=>[]
 |i,x::r=>if I3 x o=true then(i:Int)::CA o (i+1) r else CA o (i+1) r
theorem Tw (o:Int) (T:List AG):∀i,(CA o i T).length≤T.length:=by
 induction T with
 |nil=>intro i;simp[CA]
 |cons x r ih=>
  intro i
  have:=ih (i+1);unfold CA;split<;>simp<;>omega
theorem Ij (o:Int) (T:List AG):∀(i:Nat) (u:Int),u∈CA o i T->(i:Int)≤u/\u<((i+T.length:Nat):Int):=by
 induction T with
 |nil=>intro i u h;simp[CA]at h
 |cons x r ih=>
  intro i u h;unfold CA at h;split at h
  . rcases AAp.1 h with rfl|h
    . simp;omega
    . have:=ih (i+1) u h;simp at this ⊢;omega
  . have:=ih (i+1) u h;simp at this ⊢;omega
theorem jO (x:AG) (o:Int):Fi x o=some (I3 x o):=by unfold Fi Fi.J1 I3;cases(x.Status==3)<;>simp
theorem NZ (s:AN) (o:Int) (a:s.AA.length≤1000):∀(n i:Nat) (l:List Int),i≤s.AA.length->s.AA.length<n+i->l.length≤i->Cu.AZ o s n l (i:Int)=some (l++CA o i (s.AA.drop i))
 |0,i,l,h1,h2,h3=>by omega
 |n+1,i,l,h1,h2,h3=>by
  unfold Cu.AZ Cu.L1;by_cases hi:i<s.AA.length
  . unfold Cu.J1 Cu.J2;rw[BG (by omega),Cw hi,AAP,Eu hi,CA,Ao (by omega),BO (by omega)];have b:=NZ s o a n (i+1) (l++[(i:Int)]) (by omega) (by omega) (by simp;omega);have c:=NZ s o a n (i+1) l (by omega) (by omega) (by omega);unfold I3;rw[b,c];cases(s.AA[i].Status==3)<;>cases(s.AA[i].Es==o)<;>simp
  . rw[Ad (by omega),GQ hi];simp[Cu.J3,CA]
theorem Wd (s:AN) (o:Int) (a:s.AA.length≤1000):Cu s o=some (CA o 0 s.AA):=by have:=NZ s o a BU 0 [] (by omega) (by have:=Bj;omega) (by simp);rw[AAx]at this;exact this
def MN (wake:Int):Int->List Int->Int
 |c,[]=>c
 |c,w::r=>MN wake (if c<0∨w=wake then w else c) r
theorem fF (wake:Int) (W:List Int) (a:∀w∈W,0≤w):∀c,0≤c->MN wake c W=if W.contains wake=true then wake else c:=by
 induction W with
 |nil=>intro c _;simp[MN]
 |cons w r ih=>
  intro c f;have b:=ih (λw h=>a w (List.mem_cons_of_mem _ h));unfold MN;by_cases e:w=wake
  . rw[AAa (.inr e),b w (a w (ABP ..))];subst e;simp
  . have d:¬wake=w:=λh=>e h.symm;rw[AAZ (by simp[e];omega),b c f];simp[d]
def Er (wake:Int) (W:List Int):Int:=if W=[]then -1 else if W.contains wake=true then wake else W.headD 0
theorem l7 (wake:Int) (W:List Int) (b:∀w∈W,0≤w):MN wake (-1) W=Er wake W:=by
 cases W with
 |nil=>rfl
 |cons w r=>
  unfold MN Er;rw[AAa (.inl (by omega)),fF wake r (λw h=>b w (List.mem_cons_of_mem _ h)) w (b w (ABP ..)),AAZ (c:=w::r=[]) (by simp)];by_cases e:wake=w
  . subst e;have a:(wake::r).contains wake=true:=(by simp);rw[a,AAa rfl];split<;>rfl
  . have a:(w::r).contains wake=r.contains wake:=(by simp[e]);rw[a];rfl
theorem Ur (T:List AG) (o wake:Int) (b:T.length≤1000):∀(n i:Nat) (c:Int),i≤T.length->T.length<n+i->C9.AZ o T wake n c (i:Int)=C9.J3 T (MN wake c (CA o i (T.drop i)))
 |0,i,c,h1,h2=>by omega
 |n+1,i,c,h1,h2=>by
  unfold C9.AZ C9.L1;by_cases hi:i<T.length
  . unfold C9.J1 C9.J2;rw[BG (by omega),Cw hi,AAP,jO,AAP,Eu hi,CA,Ao (by omega)];have e:=λc=>Ur T o wake b n (i+1) c (by omega) (by omega);simp only[e];cases I3 T[i] o with
    |false=>simp
    |true=>
     simp only[AAq,MN];by_cases a:c<0
     . simp[a]
     . by_cases d:(i:Int)=wake<;>simp[a,d]
  . rw[Ad (by omega),GQ hi];rfl
def IY (x:AG):AG:=⟨4,x.Es,x.Atomic⟩
def Iu (o:Int) (x:AG):AG:=if I3 x o=true then IY x else x
theorem uV (tx:Int) (T:List AG) (o wake:Int) (b:T.length≤1000):C9 tx T o wake=some (Er wake (CA o 0 T),if CA o 0 T=[]then T else T.set (Er wake (CA o 0 T)).toNat (IY (ix T (Er wake (CA o 0 T))))):=by
 have h:=Ur T o wake b BU 0 (-1) (by omega) (by have:=Bj;omega);rw[AAx,l7 _ _ (λw d=>(Ij o T 0 w d).1)]at h;refine Eq.trans h ?_;unfold C9.J3 C9.J4;by_cases e:CA o 0 T=[]
 . rw[e];simp[Er]
 . have c:Er wake (CA o 0 T)∈CA o 0 T:=by
    unfold Er;rw[AAZ e];split
    . rename_i h;simpa using h
    . cases hW:CA o 0 T with
      |nil=>exact absurd hW e
      |cons w r=>simp
   have a:=Ij o T 0 _ c;rw[AAZ e,BG (by omega),C1 (CJ.2 (by simpa using a))];rfl
theorem Ln (T:List AG) (o:Int) (d:T.length≤1000):∀(n i:Nat) (c:Nat),i≤T.length->T.length<n+i->c≤i->
 C5.AZ o T n ((T.take i).map (Iu o)++T.drop i) (c:Int) (i:Int)=some (((c+(CA o i (T.drop i)).length:Nat):Int),T.map (Iu o))
 |0,i,c,h1,h2,_=>by omega
 |n+1,i,c,h1,h2,h3=>by
  unfold C5.AZ C5.L1;by_cases hi:i<T.length
  . have a:((T.take i).map (Iu o)).length=i:=(by simp;omega);have f:gt ((T.take i).map (Iu o)++T.drop i) (i:Int)=some T[i]:=(by rw[JN,AAy (by omega),a,Nat.sub_self,Eu hi];rfl);unfold C5.J1;rw[BG (by omega),f,AAP,jO,AAP,Ao (i:=i) (by omega),Ao (i:=c) (by omega),ABO];have b:∀y,y=Iu o T[i]->(T.take i).map (Iu o)++y::T.drop (i+1)=(T.take (i+1)).map (Iu o)++T.drop (i+1):=(by rintro y rfl;rw[← AAm hi,AA3];simp);have g:((T.take i).map (Iu o)++T.drop i).set i (AG.mk 4 T[i].Es T[i].Atomic)=(T.take i).map (Iu o)++AG.mk 4 T[i].Es T[i].Atomic::T.drop (i+1):=(by rw[List.set_append_right _ _ (by omega),a,Nat.sub_self,Eu hi];rfl);have e:(T.take i).map (Iu o)++T.drop i=(T.take i).map (Iu o)++T[i]::T.drop (i+1):=(by rw[← Eu hi]);rw[g,e,Eu hi,CA];cases hw:I3 T[i] o with
    |true=>rw[AAa rfl,AAa rfl,b _ (by simp[Iu,hw,IY]),Ln T o d n (i+1) (c+1) (by omega) (by omega) (by omega)];congr 3;simp;omega
    |false=>rw[AAZ (by simp),AAZ (by simp),b _ (by simp[Iu,hw]),Ln T o d n (i+1) c (by omega) (by omega) (by omega)]
  . rw[Ad (by omega),GQ hi,AA9 (by omega)];simp[C5.J2,CA]
theorem cM (tx:Int) (T:List AG) (o:Int) (a:T.length≤1000):C5 tx T o=some (((CA o 0 T).length:Int),T.map (Iu o)):=by have:=Ln T o a BU 0 0 (by omega) (by have:=Bj;omega) (by omega);simp only[List.take_zero,AA1,AAx,ABN,ABX]at this;exact this
structure U9 (s:AN):Prop where
 l:s.AF.length≤1000
 d:s.B6.length≤1000
 t:s.AA.length≤1000
 r:RB 1000000 s
theorem Wu (s:AN) (b:U9 s):∀(n i:Nat),i≤s.AF.length->s.AF.length<n+i->
 EE.AZ s n (s.AF.take i++List.replicate (s.AF.length-i) ⟨0,[]⟩) (i:Int)=some s
 |0,i,h1,h2=>by omega
 |n+1,i,h1,h2=>by
  have:=b.l;have:=b.d;have:=b.t;unfold EE.AZ EE.L1;by_cases hi:i<s.AF.length
  . have a:(s.AF.take i).length=i:=(by simp;omega);have e:List.replicate (s.AF.length-i) (AY.mk 0 [])=AY.mk 0 []::List.replicate (s.AF.length-(i+1)) (AY.mk 0 []):=(by rw[show s.AF.length-i=(s.AF.length-(i+1))+1 from by omega,List.replicate_succ]);have c:gt (s.AF.take i++List.replicate (s.AF.length-i) (AY.mk 0 [])) (i:Int)=some ⟨0,[]⟩:=(by rw[JN,e,AAy (by omega),a];simp);have f:(s.AF.take i++List.replicate (s.AF.length-i) (AY.mk 0 [])).set i s.AF[i]=s.AF.take (i+1)++List.replicate (s.AF.length-(i+1)) (AY.mk 0 []):=(by rw[e,List.set_append_right _ _ (by omega),a,Nat.sub_self,List.set_cons_zero,← AAm hi,ABB];rfl);have g:=b.r _ (AAl hi);unfold slices_Clone_int;rw[BG (by omega),Cw hi,AAP,BO (by omega),AAP,c,AAP,Ao (by omega),ABO];show EE.AZ s n ((s.AF.take i++List.replicate (s.AF.length-i) (AY.mk 0 [])).set i s.AF[i]) _=_;rw[f];exact Wu s b n (i+1) (by omega) (by omega)
  . rw[Ad (by omega),AA9 (by omega),show s.AF.length-i=0 from by omega];unfold EE.J1 KD Gf;rw[BO (by omega),AAP,BO (by omega),AAP];simp
theorem zI (s:AN) (a:U9 s):EE s=some s:=by have:=a.l;unfold EE;rw[AAa ⟨by omega,by omega,BM (by omega)⟩];have h:=Wu s a BU 0 (by omega) (by have:=Bj;omega);rw[List.take_zero,ABN]at h;exact h
theorem ZS (s:AN) (a:U9 s) (tx:Int) (D:List Bool) (T:List AG):∀(n i:Nat),i≤s.AF.length->s.AF.length<n+i->
 GO.AZ s n ⟨s.AF.take i,tx,D,T⟩ (i:Int)=some ⟨s.AF,tx,D,T⟩
 |0,i,h1,h2=>by omega
 |n+1,i,h1,h2=>by
  have:=a.l;unfold GO.AZ GO.L1;by_cases hi:i<s.AF.length
  . have b:=a.r _ (AAl hi);rw[BG (by omega),Cw hi,AAP,BO (by omega),BO (by simp;omega),Ao (by omega)];simp only[AAm hi];exact ZS s a tx D T n (i+1) (by omega) (by omega)
  . rw[Ad (by omega),AA9 (by omega)];rfl
theorem oM (s:AN) (a:U9 s):GO s=some s:=by have:=a.l;have:=a.d;have:=a.t;unfold GO;rw[BO (by omega),BO (by omega)];exact ZS s a s.Tx s.B6 s.AA BU 0 (by omega) (by have:=Bj;omega)
def Kd (s:AN) (i:Int) (f:AG->AG):AN:=⟨s.AF,s.Tx,s.B6,s.AA.set i.toNat (f (ix s.AA i))⟩
def Kc (s:AN) (i:Int) (f:AY->AY):AN:=⟨s.AF.set i.toNat (f (ix s.AF i)),s.Tx,s.B6,s.AA⟩
def DN (wv:AB) (s:AN) (t k o wake:Int):AN×Int:=
 if k=1 then(Kd s t λx=>⟨2,x.Es,x.Atomic⟩,0)
 else if k=2 then(Kd s t λx=>⟨5,x.Es,x.Atomic⟩,0)
 else if k=6∨k=10 then(Kc s o λx=>⟨t,x.Ax⟩,0)
 else if k=7∨k=11 then(Kc s o λx=>⟨-1,x.Ax⟩,0)
 else if k=8 then(Kc s o λx=>⟨x.Bz,Lz (x.Ax++[t])⟩,0)
 else if k=9 then(Kc s o λx=>⟨x.Bz,x.Ax.filter λy=> !(y==t)⟩,0)
 else if k=12 then(⟨s.AF,t,s.B6,s.AA⟩,0)
 else if k=13 then(⟨s.AF, -1,s.B6,s.AA⟩,0)
 else if k=14 then(Kd s t λx=>⟨x.Status,x.Es,true⟩,0)
 else if k=15 then(Kd s t λx=>⟨x.Status,x.Es,false⟩,0)
 else if k=16 then(Kd (Kc s (ix wv.Ah o).Mutex λx=>⟨-1,x.Ax⟩) t λx=>⟨3,o,x.Atomic⟩,0)
 else if k=17 then(Kd (Kc s (ix wv.Ah o).Mutex λx=>⟨t,x.Ax⟩) t λx=>⟨2,0,x.Atomic⟩,0)
 else if k=18 then(if CA o 0 s.AA=[]then s else Kd s (Er wake (CA o 0 s.AA)) IY,Er wake (CA o 0 s.AA))
 else if k=19 then(⟨s.AF,s.Tx,s.B6,s.AA.map (Iu o)⟩,((CA o 0 s.AA).length:Int))
 else if k=20 then(Kd s o λx=>⟨1,x.Es,x.Atomic⟩,0)
 else if k=22 then(⟨s.AF,s.Tx,s.B6.set o.toNat true,s.AA⟩,0)
 else(s,0)
def mE:AN:=⟨[],0,[],[]⟩
def NV (wv:AB) (s:AN) (t k o wake:Int):AN×Int×Bool:=if CL wv s t k o=true then((DN wv s t k o wake).1,(DN wv s t k o wake).2,true)else(mE,0,false)
theorem YN {l:List AG} {t:Int} (c:Du t l.length=true) (a:AG):gt (l.set t.toNat a) t=some a:=by
 obtain⟨b,d⟩:=CJ.1 c;have:t.toNat<l.length:=by omega
 unfold gt;rw[AAa b,AAT this]
theorem U9.of {wv:AB} (a:Small wv) {s:AN} (b:GY wv s=true) (c:RB 1000000 s):U9 s:=by
 obtain⟨d,e,g⟩:=EY b
 have:=a.l;have:=a.f;have:=a.t;exact⟨by omega,by omega,by omega,c⟩
theorem RB.mono {N M:Nat} {s:AN} (h:RB N s) (a:N≤M):RB M s:=λx b=>ABK (h x b) a
theorem xF (l:List Int) (a:l.length≤1000000000):K4 l=some (Qu l):=by unfold K4;rw[AAa (by omega)];rfl
theorem aX (l:List Int) (a:l.length≤1000000000):slices_Compact l=some (Lib.compact l):=by unfold slices_Compact;rw[AAa (by omega)]
theorem VP (wv:AB) (p:Small wv) (s:AN) (i:RB 1000000 s) (t o wake:Int):∀k,E3 wv s t k o wake=some (NV wv s t k o wake):=by
  intro k;unfold E3 NV;rw[MY wv p s (i.mono (by omega)),AAP];cases he:CL wv s t k o with
  |false=>rfl
  |true=>
    have b:=he;unfold CL at b;simp only[AAR]at b;obtain⟨g,M,a,e⟩:=b;obtain⟨d,N,q⟩:=EY g;have c:=U9.of p g i;have m:Du t s.AA.length=true:=(by rw[q];exact M);have n:gt s.AA t=some (ix s.AA t):=C1 m;have f:=YN m;have L:=i.ix o;have j:(Qu ((ix s.AF o).Ax++[t])).length≤1000000000:=(by rw[QC];simp;omega);have J:=uV s.Tx s.AA o wake c.t;have I:=cM s.Tx s.AA o c.t;rw[zI s c,AAP,AAZ (by simp)];clear he;revert a e;revert k;refine kinds ?_ ?_ ?_ ?_ ?_ ?_ ?_ ?_ ?_ ?_ ?_ ?_ ?_ ?_ ?_ ?_ ?_ ?_ ?_ ?_ ?_ ?_ ?_ (λk x y z B C D E F G O P H Q R S v T U V u W w X=> ?_)
    all_goals
      intro a e;unfold DN;simp(decide:=true)only[B8,ABD,ABn,ABo,false_or,AAq,AAd,AAR]at a;simp(decide:=true)only[E3.J1,E3.J2,E3.J3,ABC,AAg,AAq,AAd,ABD,ABn,ABo,false_or,AAY]
    all_goals first
      |done
      | (rw[n,AAP];rfl)
      | (rw[C1 (l:=s.AF) (by rw[d];exact a.1),AAP];rfl)
      | (rw[C1 (l:=s.AF) (by rw[d];exact a.1),AAP,BO (by omega),xF _ (by simp;omega),AAP,aX _ j,AAP];rfl)
      | (rw[C1 (l:=s.AF) (by rw[d];exact a.1),AAP]
         unfold IV;have r:(ix s.AF o).Ax≠[]:=(by intro h;simp(decide:=true)only[Ka,AAq,AAd,ABD,ABn,ABo,false_or,h,List.contains_nil,Bool.and_false,AAY]at e);rw[AAa ⟨r,by omega⟩,AAP];rfl)
      | (rw[C1 (l:=wv.Ah) a,AAP,C1 (l:=s.AF) (by rw[d];exact G7 g a),AAP,n,AAP,f,AAP];simp only[List.set_set];rfl)
      | (rw[J,AAP];simp only;by_cases K:CA o 0 s.AA=[]<;>simp only[K,AAq,AAd]<;>rfl)
      | (rw[I,AAP];done)
      | (rw[C1 (l:=s.AA) (by rw[q];exact a),AAP];rfl)
      | (rw[C1 (l:=s.B6) (by rw[N];exact a),AAP];done)
      |rfl
      | (exfalso;revert a;simp only[x,y,z,B,C,D,E,F,G,O,P,H,Q,R,S,v,T,U,V,u,W,w,X,AAd,or_self,AAY,imp_self];done)
      |skip
theorem setAll (o:Int) (b:List AG):∀(a:List AG),(CA o a.length b).foldl (λT (u:Int)=>T.set u.toNat (IY (ix T u))) (a++b)=a++b.map (Iu o):=by
 induction b with
 |nil=>intro a;simp[CA]
 |cons x r ih=>
  intro a;unfold CA;have d:ix (a++x::r) ((a.length:Nat):Int)=x:=by unfold ix;rw[ABO,AAy (AAv _)];simp
  have c:=λy=>ih (a++[y]);simp only[AAz,AA4,ABM,ABX,ABB,List.singleton_append]at c;cases hw:I3 x o with
  |true=>rw[AAa rfl,List.foldl_cons,d,ABO,List.set_append_right _ _ (AAv _),Nat.sub_self,List.set_cons_zero,c];simp[Iu,hw]
  |false=>rw[AAZ (by simp),c];simp[Iu,hw]
theorem Ut (W:List Int) (a:W.length≤1000000):∀(n i:Nat) (s:AN),i≤W.length->W.length<n+i->(∀u∈W,Du u s.AA.length=true)->
 DD.AZ W n s (i:Int)=some (⟨s.AF,s.Tx,s.B6,(W.drop i).foldl (λT (u:Int)=>T.set u.toNat (IY (ix T u))) s.AA⟩,(W.length:Int),true)
 |0,i,s,h1,h2,_=>by omega
 |n+1,i,s,h1,h2,h3=>by
  unfold DD.AZ DD.L1;by_cases hi:i<W.length
  . rw[BG (by omega),Cw hi,AAP,C1 (h3 _ (AAl hi)),AAP,Ao (by omega),Ut W a n (i+1) _ (by omega) (by omega) (by simpa using h3),Eu hi,List.foldl_cons];rfl
  . rw[Ad (by omega),GQ hi];rfl
theorem Nw (wv:AB) (z:Small wv) (s:AN) (i:RB 1000000 s) (t o wake:Int):∀k,DD wv s t k o wake=some (NV wv s t k o wake):=by
 intro k;unfold DD NV;rw[NR wv z s (i.mono (by omega)),AAP];cases he:CL wv s t k o with
 |false=>rfl
 |true=>
  have b:=he;unfold CL at b;simp only[AAR]at b;obtain⟨h,T,a,m⟩:=b;obtain⟨f,U,B⟩:=EY h;have d:=U9.of z h i;have n:Du t s.AA.length=true:=by rw[B];exact T
  have p:gt s.AA t=some (ix s.AA t):=C1 n;have g:=YN n;have S:=i.ix o;have x:=Wd s o d.t;have Q:=Tw o s.AA 0;have R:=d.t;rw[oM s d,AAP,AAZ (by simp)];clear he;revert a m;revert k;refine kinds ?_ ?_ ?_ ?_ ?_ ?_ ?_ ?_ ?_ ?_ ?_ ?_ ?_ ?_ ?_ ?_ ?_ ?_ ?_ ?_ ?_ ?_ ?_ (λk F G H I J K L M N V W O X Z pJ D pK pL pO C pP E pQ=> ?_)
  all_goals
   intro a m;unfold DN;simp(decide:=true)only[B8,ABD,ABn,ABo,false_or,AAq,AAd,AAR]at a;simp(decide:=true)only[DD.J1,DD.J2,DD.J5,ABC,AAg,AAq,AAd,ABD,ABn,ABo,false_or,AAY]
  all_goals first
   |done
   | (rw[p,AAP];rfl)
   | (rw[C1 (l:=s.AF) (by rw[f];exact a.1),AAP];rfl)
   | (rw[C1 (l:=s.AF) (by rw[f];exact a.1),AAP,eG _ _ (by simp;omega),AAP];rfl)
   | (rw[C1 (l:=s.AF) (by rw[f];exact a.1),AAP,oH _ _ (by omega),AAP];rfl)
   | (rw[C1 (l:=wv.Ah) a,AAP,C1 (l:=s.AF) (by rw[f];exact G7 h a),AAP,p,AAP,g,AAP];simp only[List.set_set];rfl)
   | (rw[C1 (l:=s.AA) (by rw[B];exact a),AAP];rfl)
   | (rw[C1 (l:=s.B6) (by rw[U];exact a),AAP];done)
   |rfl
   | (exfalso;revert a;simp only[F,G,H,I,J,K,L,M,N,V,W,O,X,Z,pJ,D,pK,pL,pO,C,pP,E,pQ,AAd,or_self,AAY,imp_self];done)
   |skip
  . -- a notification
    rw[x,AAP];cases hWW:CA o 0 s.AA with
    |nil=>rfl
    |cons w r=>
     have y:(w::r).length≤1000:=(by rw[← hWW];omega);have e:∀u,u∈w::r->Du u s.AA.length=true:=λu j=>(by have:=Ij o s.AA 0 u (by rw[hWW];exact j);exact CJ.2 (by simpa using this));have P:gt (w::r) 0=some w:=rfl;rw[BG (by simp only[AA4];omega),P,AAP,jV _ _ (by omega),AAP];unfold DD.J3 DD.J5 Er;rw[AAZ (c:=w::r=[]) (by simp),AAZ (c:=w::r=[]) (by simp)];cases hc:(w::r).contains wake with
     |true=>rw[AAa rfl,C1 (e wake (by simpa using hc)),AAP];rfl
     |false=>rw[AAZ (by simp),C1 (e w (ABP ..)),AAP];rfl
  . -- of all
    have e:∀u,u∈CA o 0 s.AA->Du u s.AA.length=true:=λu j=>(by have:=Ij o s.AA 0 u j;exact CJ.2 (by simpa using this));have q:=Ut (CA o 0 s.AA) (by omega) BU 0 s (by omega) (by have:=Bj;omega) e;have v:=setAll o s.AA [];simp only[ABM,ABN]at v;rw[AAx,v]at q;rw[x,AAP];exact q
instance:Inhabited AN:=⟨mE⟩
def Le:AD:=⟨mE,[],[],[]⟩
def JF (ev:AE):Prop:=ev.DE.length<4611686018427387904/\ev.C2.length<4611686018427387904
def Mb (wv:AB) (ev:AE):Bool:=if ev.Kind=1∨ev.Kind=2 then ev.Site== -1 else Du ev.Site wv.BF.length&&(ix wv.BF ev.Site).Thread==ev.Thread
def FO (c:Int):Int->List Int->Bool
 |_,[]=>true
 |last,x::r=>decide (last<x)&&(decide (x<c)&&FO c x r)
def OG (wv:AB) (ev:AE):Bool:=if ev.Kind=3∨ev.Kind=4 then(ix wv.Cells ev.Obj).B7 != 0 else false
def Ej (wv:AB) (s:AD) (ev:AE):Bool:=
 ((ev.DE.isEmpty||(ev.Kind==5||OG wv ev))&&FO (ix s.Count ev.Thread) 0 ev.DE)&&((ev.C2.isEmpty||(ev.Kind==4||ev.Kind==22))&&FO (ix s.Count ev.Thread) 0 ev.C2)
def HH (s:AD) (ev:AE):Bool:=
 if ev.Kind=3 then ev.Value==ix s.Cells ev.Obj
 else if ev.Kind=23 then ev.Value==ix s.AK ev.Obj
 else if ev.Kind=5 then ev.Value==0||ev.Value==1
 else if ev.Kind=4∨ev.Kind=22 then true
 else if ev.Kind=18 then(CA ev.Obj 0 s.Sync.AA).contains ev.Value||((CA ev.Obj 0 s.Sync.AA).isEmpty&&ev.Value== -1)
 else if ev.Kind=19 then ev.Value==((CA ev.Obj 0 s.Sync.AA).length:Int)
 else ev.Value==0
theorem u7 (wv:AB) (ev:AE):DP wv ev=some (Mb wv ev):=by
 unfold DP DP.J1 Mb;by_cases d:ev.Kind=1
 . simp[d]
 . by_cases e:ev.Kind=2
   . simp[e]
   . have f:(ev.Kind==1)=false:=(by simpa using d);have g:(ev.Kind==2)=false:=(by simpa using e);rw[f,g,AAZ (c:=ev.Kind=1∨ev.Kind=2) (by simp[d,e])];simp only[AAY,AAd];unfold DP.J2;by_cases a:ev.Site≥0
     . by_cases b:ev.Site<(wv.BF.length:Int)
       . have hi:Du ev.Site wv.BF.length=true:=CJ.2 ⟨a,b⟩;rw[BG a,BG b,C1 hi,AAP,hi];rfl
       . have:Du ev.Site wv.BF.length=false:=(by simp[Du];omega);rw[BG a,Ad b,this];rfl
     . have:Du ev.Site wv.BF.length=false:=(by simp[Du];omega);rw[Ad a,this];rfl
theorem dec.L2 (L1:Int->ABr Bool) (ev:AE) (l:List Int) (s:AD) (t:Int) (e:gt s.Count ev.Thread=some (ix s.Count ev.Thread)) (f:l.length<4611686018427387904):∀(n i:Nat) (a:Int),i≤l.length->l.length<n+i->
 AX.Cf L1 ev l s t n a (i:Int)=if FO (ix s.Count ev.Thread) a (l.drop i)=true then AX.J6 L1 t else some false
 |0,i,a,h1,h2=>by omega
 |n+1,i,a,h1,h2=>by
  unfold AX.Cf AX.L2;by_cases hi:i<l.length
  . unfold AX.J5;rw[BG (by omega),Cw hi,AAP,e,Eu hi,Ao (by omega),dec.L2 L1 ev l s t e f n (i+1) _ (by omega) (by omega)];generalize l[i]=x;rw[FO];by_cases b:x≤a
    . have:¬a<x:=(by omega);simp[b,this]
    . have d:a<x:=(by omega);by_cases c:x≥ix s.Count ev.Thread
      . have:¬x<ix s.Count ev.Thread:=(by omega);simp[b,d,c,this]
      . have:x<ix s.Count ev.Thread:=(by omega);simp[b,d,c,this]
  . rw[Ad (by omega),GQ hi];simp[FO]
theorem Wn:BU=(BU-3)+3:=rfl
theorem det.J4 (L1:Int->ABr Bool) (ev:AE) (l:List Int) (s:AD) (t:Int) (a:gt s.Count ev.Thread=some (ix s.Count ev.Thread)) (c:l.length<4611686018427387904) (b:Bool):
 AX.J4 L1 ev l s t b=if(!b&&FO (ix s.Count ev.Thread) 0 l)=true then AX.J6 L1 t else some false:=by
 unfold AX.J4;cases b with
 |true=>simp
 |false=>have:=dec.L2 L1 ev l s t a c BU 0 0 (by omega) (by have:=Bj;omega);rw[AAx]at this;simpa using this
theorem det.J2 (wv:AB) (s:AD) (ev:AE) (g:JF ev) (e:gt s.Count ev.Thread=some (ix s.Count ev.Thread)) (a b:Bool):
 AX.J2 ev s a b=some (((ev.DE.isEmpty||a)&&FO (ix s.Count ev.Thread) 0 ev.DE)&&((ev.C2.isEmpty||b)&&FO (ix s.Count ev.Thread) 0 ev.C2)):=by
 unfold AX.J2;rw[Wn];generalize BU-3=m;have j:AX.AZ a b ev s (m+1) 2=some true:=by unfold AX.AZ AX.L1;rfl
 have d:∀(L1:Int->ABr Bool) (t:Int) (l:List Int) (c:Bool),l.length<4611686018427387904->(t=0/\c=a∨t=1/\c=b)->AX.J3 L1 a b ev s t l=if((l.isEmpty||c)&&FO (ix s.Count ev.Thread) 0 l)=true then AX.J6 L1 t else some false:=by
  intro L1 t l c f h;unfold AX.J3;rw[det.J4 _ _ _ _ _ e f,det.J4 _ _ _ _ _ e f,det.J4 _ _ _ _ _ e f];cases l with
  |nil=>simp
  |cons x r=>rw[BG (by simp only[AA4];omega)];rcases h with⟨rfl,rfl⟩|⟨rfl,rfl⟩<;>simp
 have i:AX.AZ a b ev s (m+2) 1=some ((ev.C2.isEmpty||b)&&FO (ix s.Count ev.Thread) 0 ev.C2):=by unfold AX.AZ AX.L1;rw[BG (by decide),AAZ (by decide),AAa (by decide),d _ 1 ev.C2 b g.2 (.inr ⟨rfl,rfl⟩)];unfold AX.J6;rw[show Ay (1+1)=2 from rfl,j];cases((ev.C2.isEmpty||b)&&FO (ix s.Count ev.Thread) 0 ev.C2)<;>rfl
 unfold AX.AZ AX.L1;rw[BG (by decide),AAa (by decide),d _ 0 ev.DE a g.1 (.inl ⟨rfl,rfl⟩)];unfold AX.J6;rw[show Ay (0+1)=1 from rfl,i];cases((ev.DE.isEmpty||a)&&FO (ix s.Count ev.Thread) 0 ev.DE)<;>simp
theorem Ys (wv:AB) (s:AD) (ev:AE) (f:JF ev) (d:gt s.Count ev.Thread=some (ix s.Count ev.Thread)) (g:ev.Kind=3∨ev.Kind=4->Du ev.Obj wv.Cells.length=true):AX wv s ev=some (Ej wv s ev):=by
 have b:∀e,e=OG wv ev->AX.J1 ev s e=some (Ej wv s ev):=by
  intro e h;unfold AX.J1 Ej;rw[det.J2 wv s ev f d,det.J2 wv s ev f d,det.J2 wv s ev f d,det.J2 wv s ev f d,h];by_cases i:ev.Kind=5
  . simp[i]
  . by_cases a:ev.Kind=4
    . simp[a]
    . have k:(ev.Kind==5)=false:=(by simpa using i);have j:(ev.Kind==4)=false:=(by simpa using a);simp[k,j]
 unfold AX;by_cases c:ev.Kind=3
 . rw[AAa (by simp[c]),C1 (g (.inl c)),AAP];exact b _ (by simp[OG,c])
 . rw[AAZ (by simpa using c)];by_cases a:ev.Kind=4
   . rw[AAa (by simp[a]),C1 (g (.inr a)),AAP];exact b _ (by simp[OG,a])
   . rw[AAZ (by simpa using a)];exact b _ (by simp[OG,c,a])
theorem YX.L1 (ev:AE) (s:AD) (f:s.Sync.AA.length≤1000):∀(n i w:Nat) (b:Bool),i≤s.Sync.AA.length->s.Sync.AA.length<n+i->w≤i->
 A1.AZ ev s n (w:Int) b (i:Int)=some ((b||(CA ev.Obj i (s.Sync.AA.drop i)).contains ev.Value)||((w+(CA ev.Obj i (s.Sync.AA.drop i)).length==0)&&ev.Value== -1))
 |0,i,w,b,h1,h2,h3=>by omega
 |n+1,i,w,b,h1,h2,h3=>by
  unfold A1.AZ A1.L1;by_cases hi:i<s.Sync.AA.length
  . unfold A1.J3 A1.J4;rw[BG (by omega),Cw hi,AAP,Eu hi,CA,Ao (i:=i) (by omega),Ao (i:=w) (by omega)];have a:=λ(w':Nat) b' h=>YX.L1 ev s f n (i+1) w' b' (by omega) (by omega) h;rw[a (w+1) true (by omega),a (w+1) (ev.Value==(i:Int)) (by omega),a w b (by omega)];unfold I3;have c:∀m:Nat,(w+1+m==0)=false:=λm=>(by simp);have d:∀m:Nat,(w+(m+1)==0)=false:=λm=>(by simp);have e:(ev.Value==(i:Int))=decide (ev.Value=(i:Int)):=rfl;cases(s.Sync.AA[i].Status==3)<;>cases(s.Sync.AA[i].Es==ev.Obj)<;>cases b<;>simp[c,d,e]
  . rw[Ad (by omega),GQ hi];unfold A1.J5 A1.J6;have:((w:Int)==0)=(w==0):=(by rw[Bool.eq_iff_iff,AAg,AAg];omega);rw[this];simp only[CA,List.contains_nil,ABM,Nat.add_zero,Bool.or_false];cases b<;>cases(w==0)<;>simp
theorem YX.L2 (ev:AE) (s:AD) (c:s.Sync.AA.length≤1000):∀(n i w:Nat),i≤s.Sync.AA.length->s.Sync.AA.length<n+i->w≤i->
 A1.Cf ev s n (w:Int) (i:Int)=some (ev.Value==((w+(CA ev.Obj i (s.Sync.AA.drop i)).length:Nat):Int))
 |0,i,w,h1,h2,h3=>by omega
 |n+1,i,w,h1,h2,h3=>by
  unfold A1.Cf A1.L2;by_cases hi:i<s.Sync.AA.length
  . unfold A1.J7 A1.J8;rw[BG (by omega),Cw hi,AAP,Eu hi,CA,Ao (i:=i) (by omega),Ao (i:=w) (by omega)];have a:=λ(w':Nat) h=>YX.L2 ev s c n (i+1) w' (by omega) (by omega) h;rw[a (w+1) (by omega),a w (by omega)];unfold I3;have b:∀m:Nat,w+1+m=w+(m+1):=λm=>(by omega);cases(s.Sync.AA[i].Status==3)<;>cases(s.Sync.AA[i].Es==ev.Obj)<;>simp[b]
  . rw[Ad (by omega),GQ hi];simp[A1.J9,CA]
theorem gH {a:Type} (l:List a):(0+l.length==0)=l.isEmpty:=by cases l<;>simp
theorem wC (s:AD) (ev:AE) (k:s.Sync.AA.length≤1000) (l:ev.Kind=3->Du ev.Obj s.Cells.length=true) (m:ev.Kind=23->Du ev.Obj s.AK.length=true):A1 s ev=some (HH s ev):=by
 have h:=YX.L1 ev s k BU 0 0 false (by omega) (by have:=Bj;omega) (by omega);have i:=YX.L2 ev s k BU 0 0 (by omega) (by have:=Bj;omega) (by omega);rw[AAx,gH]at h;rw[AAx,ABX]at i;simp only[Int.natCast_zero,Bool.false_or]at h i;unfold A1 A1.J1 A1.J2 A1.Rw HH;by_cases a:ev.Kind=3
 . rw[AAa (by simp[a]),C1 (l a),AAP,AAa a]
 . rw[AAZ (by simpa using a),AAZ a];by_cases b:ev.Kind=23
   . rw[AAa (by simp[b]),C1 (m b),AAP,AAa b]
   . rw[AAZ (by simpa using b),AAZ b];by_cases f:ev.Kind=5
     . rw[AAa (by simp[f]),AAa f];cases(ev.Value==0)<;>rfl
     . rw[AAZ (by simpa using f),AAZ f];by_cases j:ev.Kind=4
       . simp[j]
       . have o:(ev.Kind==4)=false:=(by simpa using j);rw[o,AAZ (by simp)];by_cases g:ev.Kind=22
         . simp[g]
         . have n:(ev.Kind==22)=false:=(by simpa using g);rw[n,AAZ (c:=ev.Kind=4∨ev.Kind=22) (by simp[j,g])];simp only[AAY,AAd];by_cases d:ev.Kind=18
           . rw[AAa (by simp[d]),AAa d];exact h
           . rw[AAZ (by simpa using d),AAZ d];by_cases e:ev.Kind=19
             . rw[AAa (by simp[e]),AAa e];exact i
             . rw[AAZ (by simpa using e),AAZ e]
def Ex (wv:AB) (s:AD) (ev:AE):AD:=
  ⟨(DN wv s.Sync ev.Thread ev.Kind ev.Obj (if ev.Kind=18 then ev.Value else -1)).1,
   if ev.Kind=4 then s.Cells.set ev.Obj.toNat ev.Value else s.Cells,
   if ev.Kind=22 then s.AK.set ev.Obj.toNat ev.Value else s.AK,
   s.Count.set ev.Thread.toNat (Ay (ix s.Count ev.Thread+1))⟩
def Iv (wv:AB) (s:AD) (ev:AE):Bool:=
 JV wv s&&(Du ev.Thread wv.AA.length&&(CL wv s.Sync ev.Thread ev.Kind ev.Obj&&(Mb wv ev&&(Ej wv s ev&&HH s ev))))
def QK (wv:AB) (s:AD) (ev:AE):AD×Bool:=if Iv wv s ev=true then(Ex wv s ev,true)else(Le,false)
theorem LG {wv:AB} {s:AD} (h:JV wv s=true):GY wv s.Sync=true/\s.Cells.length=wv.Cells.length/\s.AK.length=wv.AK.length/\s.Count.length=wv.AA.length:=by unfold JV at h;simpa only[AAR,AAg]using h
theorem SE {wv:AB} {k o:Int} (h:B8 wv k o=true):1≤k/\k≤23:=by
 unfold B8 at h
 repeat' split at h
 all_goals first|omega|cases h
theorem jR (wv:AB) (a:Small wv) (s:AD) (r:RB 1000000 s.Sync) (ev:AE) (C:JF ev):BW wv s ev=some (QK wv s ev):=by
 have m:∀b,b=true->BW.J1 ev s wv b=some (Le,false):=by rintro b rfl;rfl
 have z:∀b,b=true->BW.J2 ev s wv b=some (Le,false):=by rintro b rfl;rfl
 unfold BW QK Iv;rw[Rq wv a,AAP];cases hf:JV wv s with
 |false=>rfl
 |true=>
  rw[AAZ (c:=(!true)=true) (by simp),AA8];cases ht:Du ev.Thread wv.AA.length with
  |false=>
   rw[Bool.false_and,AAZ (c:=false=true) (by simp)];by_cases d:ev.Thread<0
   . rw[BG d,m _ rfl]
   . rw[Ad d];by_cases g:ev.Thread≥(wv.AA.length:Int)
     . rw[BG g,m _ rfl]
     . exfalso
       have:=CJ.2 ⟨Int.not_lt.1 d,Int.not_le.1 g⟩;rw[ht]at this;cases this
  |true=>
   obtain⟨G,H⟩:=CJ.1 ht;rw[Ad (by omega),Ad (by omega),AA8];obtain⟨q,v,w,B⟩:=LG hf;have D:=a.c;have E:=a.f;have F:=a.t;have p:=U9.of a q r;have i:=MY wv a s.Sync (r.mono (by omega)) ev.Thread ev.Obj ev.Kind;cases VJ:CL wv s.Sync ev.Thread ev.Kind ev.Obj with
   |false=>
    rw[Bool.false_and,AAZ (c:=false=true) (by simp)];by_cases d:ev.Kind<1
    . rw[BG d,m _ rfl]
    . rw[Ad d];unfold BW.J1;by_cases g:ev.Kind>23
      . rw[AAa (by simpa using g)];rfl
      . rw[AAZ (by simpa using g),i,VJ];rfl
   |true=>
    have u:=VJ;unfold CL at u;simp only[AAR]at u;obtain⟨_,_,o,_⟩:=u;obtain⟨I,J⟩:=SE o;have y:gt s.Count ev.Thread=some (ix s.Count ev.Thread):=C1 (by rw[B];exact ht);have n:ev.Kind=3∨ev.Kind=4->Du ev.Obj wv.Cells.length=true:=(by rintro(h|h)<;>simpa(decide:=true) [B8,h]using o);have x:ev.Kind=22∨ev.Kind=23->Du ev.Obj wv.AK.length=true:=(by rintro(h|h)<;>simpa(decide:=true) [B8,h]using o);rw[Ad (by omega)];unfold BW.J1;rw[AAZ (by simp;omega),i,VJ,AAP,AAZ (c:=(!true)=true) (by simp),u7,AAP,AA8];cases hp:Mb wv ev with
    |false=>rfl
    |true=>
     rw[AAZ (c:=(!true)=true) (by simp),Ys wv s ev C y n,AAP,AA8];cases hd:Ej wv s ev with
     |false=>rfl
     |true=>
      rw[AAZ (c:=(!true)=true) (by simp),wC s ev p.t (λh=>by rw[v];exact n (.inl h)) (λh=>by rw[w];exact x (.inr h)),AAP,AA8];cases hv:HH s ev with
      |false=>rfl
      |true=>
       rw[AAa rfl];unfold BW.J2;have j:∀wake,wake=(if ev.Kind=18 then ev.Value else -1)->BW.J3 ev s wv wake=some (Ex wv s ev,true):=by
        rintro wake rfl;unfold BW.J3;rw[VP wv a s.Sync r,AAP];unfold NV;rw[VJ,AAa rfl,AAZ (by simp)];unfold Hs slices_Clone_int;rw[BO (by omega),AAP,BO (by omega),AAP,BO (by omega),AAP];unfold BW.J4 Ex;simp only[y,AAP];by_cases k:ev.Kind=4
        . rw[AAa (by simp[k]),C1 (by rw[v];exact n (.inr k)),AAP];simp[k]
        . rw[AAZ (by simpa using k)];by_cases e:ev.Kind=22
          . rw[AAa (by simp[e]),C1 (by rw[w];exact x (.inl e)),AAP];simp[e]
          . rw[AAZ (by simpa using e)];simp[k,e]
       rw[AAZ (by simp)];by_cases l:ev.Kind=18
       . rw[AAa (by simp[l])];exact j _ (by rw[AAa l])
       . rw[AAZ (by simpa using l)];exact j _ (by rw[AAZ l])
theorem Sy (c:Int) (l:List Int) (j:l.length<4611686018427387904):∀(n i:Nat) (a:Int),i≤l.length->l.length<n+i->(∀(h:0<i) (p:i-1<l.length),a=l[i-1])->(i=0->a=0)->(0<i->1≤a)->
 Dh.AZ c l n (i:Int)=some (FO c a (l.drop i))
 |0,i,a,h1,h2,_,_,_=>by omega
 |n+1,i,a,h1,h2,h3,h4,h5=>by
  unfold Dh.AZ Dh.L1;by_cases hi:i<l.length
  . have o:1≤l[i]->Dh.AZ c l n ((i+1:Nat):Int)=some (FO c l[i] (l.drop (i+1))):=
     λm=>Sy c l j n (i+1) l[i] (by omega) (by omega) (λ_ _=>rfl) (by omega) (λ_=>m)
    unfold Dh.J1;rw[BG (by omega),Cw hi,AAP,Eu hi,Ao (by omega),FO];by_cases d:l[i]<1
    . have:¬a<l[i]:=by
       by_cases b:i=0
       . rw[h4 b];omega
       . have:=h5 (by omega);omega
      simp[d,this]
    . rw[Ad d,o (by omega)];by_cases e:l[i]≥c
      . have:¬l[i]<c:=(by omega);simp[e,this]
      . have g:l[i]<c:=(by omega);rw[Ad e];by_cases b:i=0
        . have:a<l[i]:=(by rw[h4 b];omega);rw[Ad (by omega)];simp[this,g]
        . have k:=h3 (by omega) (by omega);rw[BG (by omega),CX (by omega) (by omega),show(i:Int)-1=((i-1:Nat):Int)from by omega,Cw (by omega),AAP,← k];by_cases f:l[i]≤a
          . have:¬a<l[i]:=(by omega);simp[f,this]
          . have:a<l[i]:=(by omega);simp[f,this,g]
  . rw[Ad (by omega),GQ hi];rfl
theorem Xd (c:Int) (l:List Int) (a:l.length<4611686018427387904):Dh l c=some (FO c 0 l):=by have:=Sy c l a BU 0 0 (by omega) (by have:=Bj;omega) (by omega) (λ_=>rfl) (by omega);rw[AAx]at this;exact this
theorem value_eq (s:AD) (ev:AE) (t:s.Sync.AA.length≤1000) (k:ev.Kind=3->Du ev.Obj s.Cells.length=true) (n:ev.Kind=23->Du ev.Obj s.AK.length=true):Fw s ev=some (HH s ev):=by
 have q:=Wd s.Sync ev.Obj t;have h:=Tw ev.Obj s.Sync.AA 0;unfold Fw Fw.J1 Fw.J2 HH;rw[q,AAP,AAP];by_cases a:ev.Kind=3
 . rw[AAa (by simp[a]),C1 (k a),AAP,AAa a]
 . rw[AAZ (by simpa using a),AAZ a];by_cases b:ev.Kind=23
   . rw[AAa (by simp[b]),C1 (n b),AAP,AAa b]
   . rw[AAZ (by simpa using b),AAZ b];by_cases f:ev.Kind=5
     . rw[AAa (by simp[f]),AAa f];cases(ev.Value==0)<;>rfl
     . rw[AAZ (by simpa using f),AAZ f];by_cases i:ev.Kind=4
       . simp[i]
       . have p:(ev.Kind==4)=false:=(by simpa using i);rw[p];by_cases g:ev.Kind=22
         . simp[g]
         . have o:(ev.Kind==22)=false:=(by simpa using g);rw[o,AAZ (c:=ev.Kind=4∨ev.Kind=22) (by simp[i,g])];simp only[AAY,AAd];by_cases d:ev.Kind=18
           . rw[AAa (by simp[d]),AAa d];have j:=Ij ev.Obj s.Sync.AA 0;cases hWW:CA ev.Obj 0 s.Sync.AA with
             |nil=>simp
             |cons w r=>
              rw[hWW]at h j;unfold Fw.J3;rw[AAZ (by simp;omega),jV _ _ (by omega),AAP];cases hc:(w::r).contains ev.Value with
              |true=>have:=j ev.Value (by simpa using hc);rw[BG (by omega),BG (by omega)];rfl
              |false=>by_cases l:ev.Value≥0<;>by_cases m:ev.Value<(s.Sync.AA.length:Int)<;>simp[l,m]
           . rw[AAZ (by simpa using d),AAZ d];by_cases e:ev.Kind=19
             . rw[AAa (by simp[e]),AAa e]
             . rw[AAZ (by simpa using e),AAZ e]
theorem VY (wv:AB) (i:Small wv) (s:AD) (I:RB 1000000 s.Sync) (ev:AE) (Q:JF ev):BZ wv s ev=some (QK wv s ev):=by
 unfold BZ QK Iv;rw[ZG wv i,AAP];cases hf:JV wv s with
 |false=>rfl
 |true=>
  rw[AAZ (c:=(!true)=true) (by simp),Ux,AAP,AA8];cases ht:Du ev.Thread wv.AA.length with
  |false=>rfl
  |true=>
   rw[AAZ (c:=(!true)=true) (by simp),AA8];obtain⟨G,M,N,S⟩:=LG hf;have T:=i.c;have U:=i.f;have V:=i.t;have F:=U9.of i G I;have j:=NR wv i s.Sync (I.mono (by omega)) ev.Thread ev.Obj ev.Kind;cases VJ:CL wv s.Sync ev.Thread ev.Kind ev.Obj with
   |false=>
    rw[Bool.false_and,AAZ (c:=false=true) (by simp)];by_cases K:ev.Kind<1
    . rw[BG K];rfl
    . rw[Ad K];by_cases L:ev.Kind>23
      . rw[BG L];rfl
      . rw[Ad L,j,VJ];rfl
   |true=>
    have J:=VJ;unfold CL at J;simp only[AAR]at J;obtain⟨_,_,E,_⟩:=J;obtain⟨W,X⟩:=SE E;have P:gt s.Count ev.Thread=some (ix s.Count ev.Thread):=C1 (by rw[S];exact ht);have w:ev.Kind=3∨ev.Kind=4->Du ev.Obj wv.Cells.length=true:=(by rintro(h|h)<;>simpa(decide:=true) [B8,h]using E);have O:ev.Kind=22∨ev.Kind=23->Du ev.Obj wv.AK.length=true:=(by rintro(h|h)<;>simpa(decide:=true) [B8,h]using E);rw[Ad (by omega),Ad (by omega),j,VJ,AAP,AA8];unfold BZ.J1;rw[AAZ (c:=(!true)=true) (by simp)]
    -- the last part
    have o:∀wake,wake=(if ev.Kind=18 then ev.Value else -1)->BZ.J9 ev s wv wake=some (Ex wv s ev,true):=by
     rintro wake rfl;unfold BZ.J9;rw[Nw wv i s.Sync I,AAP];unfold NV;rw[VJ,AAa rfl];unfold BZ.Rw BZ.eC Ex;simp only[P,AAP];by_cases a:ev.Kind=4
     . rw[AAa (by simp[a]),C1 (by rw[M];exact w (.inr a)),AAP];simp[a]
     . rw[AAZ (c:=(ev.Kind==4)=true) (by simpa using a)];by_cases d:ev.Kind=22
       . rw[AAa (by simp[d]),C1 (by rw[N];exact O (.inl d)),AAP];simp[d]
       . rw[AAZ (c:=(ev.Kind==22)=true) (by simpa using d)];simp[a,d]
    have D:∀b,BZ.J8 ev s wv b=if b=true then some (Le,false)else some (Ex wv s ev,true):=by
     intro b;unfold BZ.J8;cases b with
     |true=>rfl
     |false=>
      rw[AAZ (c:=false=true) (by simp),BO (by omega),BO (by omega),BO (by omega),AAZ (c:=false=true) (by simp)];by_cases y:ev.Kind=18
      . rw[AAa (by simp[y])];exact o _ (by rw[AAa y])
      . rw[AAZ (by simpa using y)];exact o _ (by rw[AAZ y])
    have C:∀b,BZ.J7 ev s wv b=if(!b&&(FO (ix s.Count ev.Thread) 0 ev.DE&&(FO (ix s.Count ev.Thread) 0 ev.C2&&HH s ev)))=true then some (Ex wv s ev,true)else some (Le,false):=by intro b;unfold BZ.J7;rw[P,AAP,Xd _ _ Q.1,AAP,Xd _ _ Q.2,AAP,value_eq s ev F.t (λh=>by rw[M];exact w (.inl h)) (λh=>by rw[N];exact O (.inr h)),AAP];simp only[D];cases b<;>cases FO (ix s.Count ev.Thread) 0 ev.DE<;>cases FO (ix s.Count ev.Thread) 0 ev.C2<;>cases HH s ev<;>rfl
    have B:∀b,BZ.J6 ev s wv b=if(!b&&((ev.C2.isEmpty||(ev.Kind==4||ev.Kind==22))&&(FO (ix s.Count ev.Thread) 0 ev.DE&&(FO (ix s.Count ev.Thread) 0 ev.C2&&HH s ev))))=true then some (Ex wv s ev,true)else some (Le,false):=by
     intro b;unfold BZ.J6;simp only[C];cases b with
     |true=>rfl
     |false=>
      cases hF:ev.C2 with
      |nil=>simp
      |cons x r=>
       rw[BG (by simp only[AA4];omega)];by_cases a:ev.Kind=4
       . simp[a]
       . by_cases d:ev.Kind=22
         . simp[d]
         . simp[a,d]
    have n:∀b,b=(ev.Kind==3||ev.Kind==4)->BZ.J5 ev s wv b=if((ev.DE.isEmpty||(ev.Kind==5||OG wv ev))&&((ev.C2.isEmpty||(ev.Kind==4||ev.Kind==22))&&(FO (ix s.Count ev.Thread) 0 ev.DE&&(FO (ix s.Count ev.Thread) 0 ev.C2&&HH s ev))))=true then some (Ex wv s ev,true)else some (Le,false):=by
     rintro b rfl;unfold BZ.J5;simp only[B];cases hD:ev.DE with
     |nil=>simp
     |cons x r=>
      rw[BG (by simp only[AA4];omega)];by_cases R:ev.Kind=5
      . simp[R]
      . by_cases g:ev.Kind=3
        . have H:=C1 (l:=wv.Cells) (w (.inl g));simp[g,H,OG]
        . by_cases a:ev.Kind=4
          . have H:=C1 (l:=wv.Cells) (w (.inr a));simp[a,H,OG]
          . simp[R,g,a,OG]
    have z:BZ.J4 ev s wv=if(Ej wv s ev&&HH s ev)=true then some (Ex wv s ev,true)else some (Le,false):=by
     have e:(Ej wv s ev&&HH s ev)=((ev.DE.isEmpty||(ev.Kind==5||OG wv ev))&&((ev.C2.isEmpty||(ev.Kind==4||ev.Kind==22))&&(FO (ix s.Count ev.Thread) 0 ev.DE&&(FO (ix s.Count ev.Thread) 0 ev.C2&&HH s ev)))):=(by unfold Ej;generalize (ev.DE.isEmpty||(ev.Kind==5||OG wv ev))=p;generalize (ev.C2.isEmpty||(ev.Kind==4||ev.Kind==22))=q;cases p<;>cases q<;>cases FO (ix s.Count ev.Thread) 0 ev.DE<;>cases FO (ix s.Count ev.Thread) 0 ev.C2<;>rfl);rw[e];unfold BZ.J4;by_cases g:ev.Kind=3
     . rw[AAa (c:=(ev.Kind==3)=true) (by simp[g])];exact n _ (by simp[g])
     . rw[AAZ (c:=(ev.Kind==3)=true) (by simpa using g)];exact n _ (by have:(ev.Kind==3)=false:=(by simpa using g);simp[this])
    have m:∀b,b=(ev.Kind==1||ev.Kind==2)->BZ.J2 ev s wv b=if(Mb wv ev&&(Ej wv s ev&&HH s ev))=true then some (Ex wv s ev,true)else some (Le,false):=by
     rintro b rfl;unfold BZ.J2 BZ.J3 Mb;rw[z,Ux,AAP];generalize (Ej wv s ev&&HH s ev)=q;by_cases k:ev.Kind=1∨ev.Kind=2
     . have:(ev.Kind==1||ev.Kind==2)=true:=(by simpa using k);rw[this,AAa rfl,AAa k];by_cases v:ev.Site= -1
       . simp[v]
       . simp[v];rfl
     . have:(ev.Kind==1||ev.Kind==2)=false:=(by simpa using k);rw[this,AAZ (c:=false=true) (by simp),AAZ k];cases hi:Du ev.Site wv.BF.length with
       |false=>rfl
       |true=>
        rw[AAZ (c:=(!true)=true) (by simp),C1 hi,AAP];by_cases v:(ix wv.BF ev.Site).Thread=ev.Thread
        . simp[v]
        . simp[v];rfl
    have u:∀q:Bool,(if q=true then some (Ex wv s ev,true)else some (Le,false))=some (if q=true then(Ex wv s ev,true)else(Le,false)):=λq=>by cases q<;>rfl
    rw[← u];by_cases k:ev.Kind=1
    . rw[AAa (c:=(ev.Kind==1)=true) (by simp[k])];exact m _ (by simp[k])
    . have e:(ev.Kind==1)=false:=(by simpa using k);rw[AAZ (c:=(ev.Kind==1)=true) (by simpa using k)];exact m _ (by simp[e])
end Go.Abs
