/- What the typed programs give, in plain Lean. -/
import Derived.Test.YtdojkofgkcmagaaGreatDoorWalkF
import Derived.Lib.SlicesCompact
set_option linter.defProp false
set_option linter.unusedSimpArgs false
set_option linter.unusedVariables false
namespace Go.Abs
def B9{n:Int}(h: -9223372036854775808<=n)(a:n<9223372036854775808):BA n=n:=by simp only[BA,IntKind.wrap,IntKind.bits,IntKind.signed];simp;omega
variable{i:Nat}
theorem Aj(h:i<9223372036854775807):BA ((i:Int)+1)=((i+1:Nat):Int):=by rw[B9 ah ah];rfl
variable{a:Type}
theorem JI(l:List a)(i:Nat):gt l (i:Int)=l[i]? :=by simp[gt]
theorem CF{l:List a}(h:i<l.length):gt l (i:Int)=some l[i]:=by rw[JI];simp[h]
def Cu(i:Int)(n:Nat):Bool:=decide (0<=i)&&decide (i<(n:Int))
def bn{p:Prop}(h:p:=by simp[Cu];omega):p:=h
def ix[Inhabited a](l:List a)(i:Int):a:=(l[i.toNat]?).getD default
variable{o:Int}{n:Nat}
theorem BF:Cu o n=true↔0<=o/\o<n:=by simp[Cu]
theorem CL[Inhabited a]{l:List a}(h:Cu o l.length=true):gt l o=some (ix l o):=by
 obtain⟨b,c⟩:=BF.1 h;have:o.toNat<l.length:=ah
 simp[gt,ix,b,this]
theorem K8[Inhabited a]{l:List a}(h:i<l.length):ix l (i:Int)=l[i]:=by simp[ix,h]
theorem Bm(h:n*i<=70368744177664):Ap n i=true:=by simp[Ap,h]
def BV{x y:a}(h:n*i<=70368744177664):(if Ap n i=true then x else y)=x:=AAL (Bm h)
variable{p:Prop}
theorem A9[Decidable p]{x y:a}(h:p):(if decide p=true then x else y)=x:=by rw[AAL (by simpa using h)]
theorem Ae[Decidable p]{x y:a}(h:¬p):(if decide p=true then x else y)=y:=by rw[AAK (by simpa using h)]
def EC{l:List a}(h:i<l.length):l.drop i=l[i]::l.drop (i+1):=AA7 h
theorem Ez{l:List a}(h:¬i<l.length):l.drop i=[]:=List.drop_eq_nil_of_le ah
theorem BO:BW=18446744073709551616:=rfl
def aG{p:Prop}(h:p:=by have:=BO;omega):p:=h
variable{l:iw}
theorem kinds(N:l 1)(O:l 2)(Q:l 3)(R:l 4)(S:l 5)(T:l 6)(U:l 7)(V:l 8)(W:l 9)(P:l 10)(m:l 11)(n:l 12)(o:l 13)(p:l 14)(q:l 15)(r:l 16)(s:l 17)(t:l 18)(u:l 19)(v:l 20)(w:l 21)(x:l 22)(y:l 23)(X:∀k,k≠1->k≠2->k≠3->k≠4->k≠5->k≠6->k≠7->k≠8->k≠9->k≠10->k≠11->k≠12->k≠13->k≠14->k≠15->k≠16->k≠17->k≠18->k≠19->k≠20->k≠21->k≠22->k≠23->l k)(k:Int):l k:=by
 by_cases z:k=1;· exact z▸N
 by_cases B:k=2;· exact B▸O
 by_cases C:k=3;· exact C▸Q
 by_cases D:k=4;· exact D▸R
 by_cases E:k=5;· exact E▸S
 by_cases F:k=6;· exact F▸T
 by_cases G:k=7;· exact G▸U
 by_cases H:k=8;· exact H▸V
 by_cases I:k=9;· exact I▸W
 by_cases a:k=10;· exact a▸P
 by_cases b:k=11;· exact b▸m
 by_cases L:k=12;· exact L▸n
 by_cases c:k=13;· exact c▸o
 by_cases d:k=14;· exact d▸p
 by_cases e:k=15;· exact e▸q
 by_cases K:k=16;· exact K▸r
 by_cases f:k=17;· exact f▸s
 by_cases g:k=18;· exact g▸t
 by_cases h:k=19;· exact h▸u
 by_cases J:k=20;· exact J▸v
 by_cases i:k=21;· exact i▸w
 by_cases M:k=22;· exact M▸x
 by_cases j:k=23;· exact j▸y
 exact X k z B C D E F G H I a b L c d e K f g h J i M j
variable{b:Type}{c:Bool}{d:dv}{x:ABe}{k:gi}{m:AO}{f:d4}{j:BE}
section
set_option maxHeartbeats 4000000
def CD(o:ABd a)(Q:a->Prop):Prop:=∃r,o=some r/\Q r
def tR{r:a}{Q:a->Prop}(h:Q r):CD (some r) Q:=⟨r,rfl,h⟩
theorem tB{o:ABd a}{Q:a->Prop}{f:a->ABd b}{R:b->Prop}(h:CD o Q)(k:∀x,Q x->CD (f x) R):CD (o.bind f) R:=by obtain⟨x,rfl,c⟩:=h;exact k x c
theorem tG{l:List a}{f:a->ABd b}{R:b->Prop}(h:0<=o/\o<(l.length:Int))(k:∀x,x∈l->CD (f x) R):CD ((gt l o).bind f) R:=by
 obtain⟨n,rfl⟩:∃n:Nat,o=n:=⟨o.toNat,ah⟩;have hn:n<l.length:=ah
 rw[CF hn,AAB];exact k _ (AAS hn)
theorem tC[Decidable p]{a:ABd b}{R:b->Prop}(h:p)(k:CD a R):CD (if p then a else none) R:=by rw[AAL h];exact k
theorem tI{d b:ABd a}{R:a->Prop}(e:c=true->CD d R)(f:c=false->CD b R):CD (if c=true then d else b) R:=by
 cases c with
 |true=>simpa using e rfl
 |false=>simpa using f rfl
theorem tM{o:ABd a}{Q R:a->Prop}(h:CD o Q)(k:∀x,Q x->R x):CD o R:=by obtain⟨x,e,b⟩:=h;exact⟨x,e,k x b⟩
structure DG (t:AU):Prop where
 l:t.L.length<=4000000000000000000
 a:0<=t.At/\t.At<=t.L.length
 u:∀x∈t.L,0<=x/\x<256
theorem Gp{t:AU}(b:DG t){n:Int}(hn:0<n/\n<1000):CD (Ah t n) λr=>(0<=r.1/\r.1<n)/\DG r.2:=by
 have e:=b.l;have f:=b.a;unfold Ah Ah.J1;rw[B9 (n:=t.At+1) ah ah,B9 (n:=t.At+1-1) ah ah];refine tI (λ_=> ?_) λh=> ?_
 . exact tI (λ_=>tR ⟨⟨ah,hn.1⟩,b⟩) λh=>by cases h
 . have d:¬t.At>=(t.L.length:Int):=(by simpa using h);refine tI (λh=>absurd (AAO h) ah) λ_=> ?_;refine tG ah λx c=>tC ah (tR ⟨?_,b.l,aA,b.u⟩);have c:=b.u x c;rw[B9 ah ah];exact⟨Int.tmod_nonneg _ c.1,Int.tmod_lt_of_pos _ hn.1⟩
def qS:ABe:=⟨#[113]⟩
def vN:List ABe:=[⟨#[97]⟩,⟨#[98]⟩,⟨#[120]⟩,⟨#[121]⟩,⟨#[118]⟩]
theorem WJ{l:dv}(h:(l.all λx=>d.any λy=>decide (x=y))=true)(c:x∈l):x∈d:=by obtain⟨y,a,b⟩:=List.any_eq_true.1 (AAH.1 h x c);rw[AAO b];exact a
theorem Xq(h:(vN.any λy=>decide (x=y))=true):x∈vN:=WJ (l:=[x]) (by simpa using h) (AAl.2 rfl)
def S8:Nat->BE->Prop
 |0,_=>False
 |n+1,e=>e.Op=1/\e.L=[]\/(e.Op=2/\e.L=[]/\e.Name∈vN)\/(e.Op=3/\e.Name=qS/\∃a,e.L=[a]/\S8 n a)\/(e.Op∈[(6:Int),7,8,11,13,17]/\∃a b,e.L=[a,b]/\S8 n a/\S8 n b)
theorem okE_mono:∀{e:BE},S8 n e->S8 (n+1) e:=by
 induction n with
 |zero=>exactλh=>h.elim
 |succ n ih=>
  intro e h;rcases h with h|h|⟨c,d,a,f,g⟩|⟨c,a,b,d,f,g⟩
  . exact .inl h
  . exact .inr (.inl h)
  . exact .inr (.inr (.inl ⟨c,d,a,f,ih g⟩))
  . exact .inr (.inr (.inr ⟨c,a,b,d,ih f,ih g⟩))
def VF(m m':AO):Prop:=DG m'.t/\m'={m with t:=m'.t}
theorem UF(d:DG f.2)(C:0<=f.1/\f.1<10)(h:c=false->7<=f.1->∀R v,(v=0\/v=BA (o-1))->DG R.t->CD (k R v) λr=>S8 i r.1/\VF R r.2):
 CD (DA.J1 k o m f c) λr=>S8 (i+1) r.1/\VF m r.2:=by
 unfold DA.J1 Jo Ii IJ;simp only[AAB];refine tI (λ_=> ?_) λu=>tI (λ_=> ?_) λl=> ?_
 . refine tB (Gp d ah) ?_;rintro n ⟨_,b⟩;exact tR ⟨.inl ⟨rfl,rfl⟩,b,rfl⟩
 . refine tB (Gp d ah) ?_;rintro n ⟨g,b⟩;exact tG g λx j=>tR ⟨.inr (.inl ⟨rfl,rfl,WJ aS j⟩),b,rfl⟩
 . have l:=of_decide_eq_false l;have h:=h u ah;refine tI (λ_=> ?_) λ_=> ?_
   . refine tB (h _ _ (.inl rfl) d) ?_;rintro e ⟨b,q,s⟩;exact tR ⟨.inr (.inr (.inl ⟨rfl,rfl,_,rfl,b⟩)),q,by rw[s]⟩
   . refine tB (Gp d ah) ?_;rintro n ⟨g,b⟩;refine tG g λx j=>tB (h _ _ (.inr rfl) b) ?_;rintro e ⟨a,g2,p⟩;refine tB (h _ _ (.inr rfl) g2) ?_;rintro B ⟨w,y,z⟩;exact tR ⟨.inr (.inr (.inr ⟨j,_,_,rfl,a,w⟩)),y,by rw[z,p]⟩
theorem okE_le(h:i<=n)(c:S8 i j):S8 n j:=by
 induction h with
 |refl=>exact c
 |step _ ih=>exact okE_mono ih
theorem UE(hn:0<n)(c:DG m.t):CD (CO n m 0) λr=>S8 1 r.1/\VF m r.2:=by
 obtain⟨n,rfl⟩:∃k,n=k+1:=⟨n-1,ah⟩;show CD (DA (CO n) m 0) _;unfold DA;refine tB (Gp c ah) ?_;rintro v ⟨b,a⟩;refine tI (λ_=>UF a b bk) λ_=>tI (λ_=>UF a b λh d=> ?_) λh=> ?_
 . exact absurd (of_decide_eq_false h) ah
 . simp at h
theorem expr_tot(d:Nat):∀(n:Nat)(m:AO),d<n->d<100->DG m.t->CD (CO n m d) λr=>S8 (d+1) r.1/\VF m r.2:=by
 induction d with
 |zero=>exactλn m hn _ a=>UE hn a
 |succ d ih=>
  intro n m hn hd a;obtain⟨n,rfl⟩:∃k,n=k+1:=⟨n-1,ah⟩;show CD (DA (CO n) m _) _;unfold DA;refine tB (Gp a ah) ?_;rintro v ⟨g,f⟩;have key:∀c,CD (DA.J1 (CO n) ((d+1:Nat):Int) m v c) λr=>S8 (d+1+1) r.1/\VF m r.2:=by
   intro c;refine UF f g λ_ _ i j e b=> ?_;rcases e with rfl|rfl
   . exact tM (UE ah b) λr h=>⟨okE_le ah h.1,h.2⟩
   . rw[B9 ah ah,show((d+1:Nat):Int)-1=(d:Int)from by omega];exact ih n i ah ah b
  exact tI (λ_=>key _) λ_=>tI (λ_=>key _) λ_=>key _
theorem KR(hd:o=0\/o=1)(a:DG m.t):CD (CO BW m o) λr=>S8 2 r.1/\VF m r.2:=by
 have b:=BO;rcases hd with rfl|rfl
 . exact tM (UE ah a) λr h=>⟨okE_le ah h.1,h.2⟩
 . exact expr_tot 1 BW m ah ah a
theorem Nd(l:dv)(s:ABe)(d:l.length<1000000):CD (CU l s) λr=> -1<=r/\r<l.length:=by
 have c:=BO;have key:∀n (i:Nat),l.length<n+i->i<=l.length->CD (CU.Aa l s n i) λr=> -1<=r/\r<l.length:=by
  intro n;induction n with
  |zero=>intro i a b;omega
  |succ n ih=>intro i a b;unfold CU.Aa CU.L1 CU.J1;refine tI (λh=> ?_) λ_=>tR ah;have h:=AAO h;refine tG ah λx _=>tI (λ_=>tR ah) λ_=> ?_;rw[Aj ah];exact ih (i+1) ah ah
 exact key BW 0 ah ah
theorem QE(a:m.held.length<1000)(s:ABe):CD (Dq m s) λr=>r.2=m:=by unfold Dq;exact tB (Nd _ _ ah) λ_ _=>tR rfl
end
theorem cY{a b:dc}(d:a.Pairwise (· < ·))(f:b.Pairwise (· < ·))(h:∀x,x∈a↔x∈b):a=b:=by
 induction a generalizing b with
 |nil=>
  cases b with
  |nil=>rfl
  |cons y b=>have:=(h y).2 ak;grind
 |cons x a ih=>
  cases b with
  |nil=>grind
  |cons y b=>
   rw[List.pairwise_cons]at d f;have g:x=y:=by
    have c:=(h x).1 ak;have i:=(h y).2 ak;rcases AAn.1 c with e|c
    . exact e
    . grind
   grind
theorem RI(d:Array Int)(hd:∀i j,i<=j->j<d.size->d[i]! <=d[j]!):∀m,m<=d.size->(∀x,x∈Lib.compactUpTo d m↔∃i,i<m/\d[i]! =x)/\(Lib.compactUpTo d m).Pairwise (· < ·):=by
 intro m;induction m with
 |zero=>intro _;exact⟨λx=>by simp[Lib.compactUpTo],by simp[Lib.compactUpTo]⟩
 |succ m ih=>
  intro n;obtain⟨g,b⟩:=ih ah;rw[Lib.compactUpTo_succ];by_cases a:Lib.keeps d m=true
  . rw[AAL a];refine⟨λx=> ?_,?_⟩
    . grind
    . rw[List.pairwise_append];refine⟨b,ak,λx h y c=> ?_⟩;rw[AAl]at c;subst c;obtain⟨i,hi,e⟩:=(g x).1 h;have f:m=0\/d[m]! ≠d[m-1]! :=(by simpa[Lib.keeps]using a);have k:=hd i (m-1) ah ah;have l:=hd (m-1) m ah ah;omega
  . rw[AAK a,ABc];refine⟨λx=> ?_,b⟩;have f:¬(m=0\/d[m]! ≠d[m-1]!):=(by simpa[Lib.keeps]using a);grind
def Qz(l:dc):List Int:=l.mergeSort λx y=>decide (x<=y)
def Od(l:dc):List Int:=Lib.compact (Qz l)
theorem Sy(l:dc):(Qz l).length=l.length:=by simp[Qz]
theorem x5(l:dc)(x:Int):x∈Qz l↔x∈l:=by simp[Qz]
theorem Sz(l:dc):(Qz l).Pairwise (· <= ·):=by have:=List.pairwise_mergeSort (le:=λx y:Int=>decide (x<=y)) an an l;simpa[Qz]using this
theorem Qq(l:dc)(h:l.Pairwise (· <= ·)):(∀x,x∈Lib.compact l↔x∈l)/\(Lib.compact l).Pairwise (· < ·):=by
 have hd:∀i j,i<=j->j<l.toArray.size->l.toArray[i]! <=l.toArray[j]! :=by
  intro i j b f;have c:j<l.length:=by simpa using f
  rcases Nat.lt_or_eq_of_le b with a|rfl
  . have:=List.pairwise_iff_getElem.1 h i j ah c a;grind
  . omega
 obtain⟨a,d⟩:=RI l.toArray hd l.length ak;refine⟨λx=> ?_,d⟩;show x∈Lib.compactUpTo l.toArray l.length↔_;rw[a x,List.mem_iff_getElem];constructor
 . grind
 . rintro⟨i,hi,e⟩;exact⟨i,hi,am⟩
theorem oM(l:dc):(Lib.compact l).length<=l.length:=by unfold Lib.compact Lib.compactUpTo;grind
theorem Kb(l:dc)(x:Int):x∈Od l↔x∈l:=by unfold Od;rw[(Qq _ (Sz l)).1,x5]
def LM(l:dc):(Od l).Pairwise (· < ·):=(Qq _ (Sz l)).2
theorem Tn(l:dc):(Od l).length<=l.length:=by have:=oM (Qz l);rw[Sy]at this;exact this
def HN(out:dc)(x:Int):Nat:=(out.takeWhile λy=>decide (y<x)).length
def ins(out:dc)(x:Int):List Int:=if out[HN out x]? =some x then out else out.take (HN out x)++x::out.drop (HN out x)
theorem aI(out:dc)(x:Int)(i:Nat)(hi:i<=out.length)(a:∀(k:Nat)(b:k<out.length),k<i->out[k]<x)(e:∀(d:i<out.length),¬out[i]<x):HN out x=i:=by
 unfold HN;induction out generalizing i with
 |nil=>simp_all
 |cons y out ih=>
  by_cases f:y<x
  . cases i with
    |zero=>simp_all
    |succ i=>rw[List.takeWhile_cons_of_pos am,AA8];rw[ih i am (λk b c=>bg) (λd=>am)]
  . cases i with
    |zero=>simp_all
    |succ i=>have:=a 0 ak ah;grind
theorem XY(out:dc)(x:Int):(ins out x).length<=out.length+1:=by unfold ins;grind
def insAll(l:dc):List Int:=l.foldl ins []
theorem xI(out:dc)(x:Int)(h:out.Pairwise (· < ·)):(ins out x).Pairwise (· < ·)/\∀z,z∈ins out x↔z∈out\/z=x:=by
 have key:∀(out:dc),out.Pairwise (· < ·)->(∀(k:Nat)(a:k<out.length),k<HN out x->out[k]<x)/\(∀(k:Nat)(a:k<out.length),HN out x<=k->x<=out[k])/\HN out x<=out.length:=by
  intro out;induction out with
  |nil=>intro _;simp[HN]
  |cons y out ih=>
   intro b;rw[List.pairwise_cons]at b;obtain⟨g,g2,i⟩:=ih b.2;by_cases c:y<x
   . have e:HN (y::out) x=HN out x+1:=(by unfold HN;rw[List.takeWhile_cons_of_pos (by simp_all)];rfl);grind
   . have e:HN (y::out) x=0:=(by unfold HN;rw[List.takeWhile_cons_of_neg (by simp_all)];rfl);rw[e];refine⟨λk a j=>ah,λk a _=> ?_,ak⟩;cases k with
     |zero=>simp;omega
     |succ k=>
      have f:k<out.length:=by simpa using a
      have:=b.1 out[k] (AAS f);simp;omega
 obtain⟨g,g2,i⟩:=key out h;unfold ins;split
 . grind
 . rename_i p;have l:out=out.take (HN out x)++out.drop (HN out x):=(ABA _ _).symm;refine⟨?_,λz=> ?_⟩
   . rw[List.pairwise_append,List.pairwise_cons];refine⟨h.sublist (List.take_sublist _ _),⟨λz d=> ?_,h.sublist (List.drop_sublist _ _)⟩,λy c z d=> ?_⟩
     . obtain⟨k,a,rfl⟩:=List.mem_iff_getElem.1 d;rw[List.getElem_drop];rw[List.length_drop]at a;have m:=g2 (HN out x+k) ah ah;by_cases q:k=0
       . grind
       . have n:=g2 (HN out x) ah ah;have o:=List.pairwise_iff_getElem.1 h (HN out x) (HN out x+k) ah ah ah;omega
     . obtain⟨k,a,rfl⟩:=List.mem_iff_getElem.1 c;grind
   . rw[AAW,AAn];constructor
     all_goals grind
theorem xH(l:dc):insAll l=Od l:=by
 have key:∀(l a:dc),a.Pairwise (· < ·)->(l.foldl ins a).Pairwise (· < ·)/\∀z,z∈l.foldl ins a↔z∈a\/z∈l:=by
  intro l;induction l with
  |nil=>simp_all
  |cons x l ih=>intro a h;obtain⟨b,c⟩:=xI a x h;grind
 obtain⟨b,c⟩:=key l [] ak;exact cY b (LM l) λz=>by rw[Kb];have:=c z;simpa[insAll]using this
def JE(c:Int):Bool:=(decide (97<=c)&&decide (c<=122))||(decide (65<=c)&&decide (c<=90))
def Nz(c:Int):Bool:=JE c||((decide (48<=c)&&decide (c<=57))||c==95)
def KI(s:ABe)(i:Nat):Int:=((s.get! i).toNat:Int)
def PF(s:ABe)(i:Nat):Bool:=JE (KI s i)||(decide (0<i)&&((decide (48<=KI s i)&&decide (KI s i<=57))||KI s i==95))
theorem cP(s:ABe)(i:Nat)(h:(s.get! i).toNat<128):Utf8.decode s i=((s.get! i).toNat,1):=by unfold Utf8.decode;simp[h]
theorem oP(s:ABe)(i:Nat)(h:¬(s.get! i).toNat<128):128<=(Utf8.decode s i).1:=by
 unfold Utf8.decode;simp only[Nat.add_zero,h,AAT];have a:128<=Utf8.runeError:=aS
 grind
def sB(c:Int)(pos:Nat):Bool:=JE c||(decide (0<pos)&&((decide (48<=c)&&decide (c<=57))||c==95))
theorem Tu(s:ABe)(L:iz)(pos:Nat)(a:pos<s.size):
 Cx.L1 s L pos=if sB ((Utf8.decode s pos).1:Int) pos=true then L (pos+(Utf8.decode s pos).2)else some false:=by
 unfold Cx.L1;rw[A9 a];unfold Cx.J2 Cx.J3 sB JE;grind
theorem Mi(s:ABe):∀(n pos:Nat),pos<=s.size->s.size<n+pos->Cx.Aa s n pos=some ((List.range' pos (s.size-pos)).all (PF s))
 |0,pos,h1,h2=>ah
 |n+1,pos,h1,h2=>by
  unfold Cx.Aa;by_cases b:pos<s.size
  . rw[Tu s _ pos b];have c:List.range' pos (s.size-pos)=pos::List.range' (pos+1) (s.size-(pos+1)):=(by rw[show s.size-pos=(s.size-(pos+1))+1 from by omega,List.range'_succ]);rw[c,AAy];by_cases a:(s.get! pos).toNat<128
    . rw[cP s pos a,Mi s n (pos+1) ah ah];show(if PF s pos=true then _ else _)=_
      grind
    . have d:=oP s pos a;have f:PF s pos=false:=(by unfold PF JE KI;simp;omega);have e:sB ((Utf8.decode s pos).1:Int) pos=false:=(by unfold sB JE;simp;omega);simp_all
  . unfold Cx.L1;rw[Ae b];have:s.size-pos=0:=ah;simp[Cx.J4,this]
theorem tV(h:i<x.size):sgt x (i:Int)=some (x.get! i):=by
 unfold sgt;rw[AAL ah];simp only[AAz];rw[getElem?_pos x i h];congr 1;have e:x.get! i=x[i]:=by simp[ByteArray.get!,getElem!_pos,h];rfl
 grind
theorem OU(c:Int):Fl c=some (JE c):=by unfold Fl Fl.J1 JE;grind
theorem X3(c:Int):G6 c=some (Nz c):=by unfold G6 HW;rw[OU,AAB];unfold G6.J1 HW.J1 Nz;grind
theorem Ma(s:ABe)(c:s.size<=12):∀(n i:Nat),i<=s.size->s.size<n+i->B5.Aa s n i=some ((List.range' i (s.size-i)).all λk=>Nz (KI s k))
 |0,pos,h1,h2=>ah
 |n+1,i,h1,h2=>by
  unfold B5.Aa B5.L1;by_cases b:i<s.size
  . rw[A9 ah,tV b,AAB,X3,AAB,Aj ah,Ma s c n (i+1) ah ah];have a:List.range' i (s.size-i)=i::List.range' (i+1) (s.size-(i+1)):=(by rw[show s.size-i=(s.size-(i+1))+1 from by omega,List.range'_succ]);rw[a,AAy];show(if(!(Nz (KI s i)))=true then _ else _)=_
    grind
  . rw[Ae ah];have:s.size-i=0:=ah;simp[B5.J2,this]
theorem PR(s:ABe):∀(n i:Nat),i<=22->22<n+i->Dn.Aa s n i=some ((Ld.drop i).any λx=>s.toList==x.toList)
 |0,pos,h1,h2=>ah
 |n+1,i,h1,h2=>by
  have b:Ld.length=22:=rfl;unfold Dn.Aa Dn.L1;by_cases c:i<22
  . have a:i<Ld.length:=ah;rw[A9 ah,AAL ah,CF a,AAB,Aj ah,PR s n (i+1) ah ah,EC a,List.any_cons];grind
  . rw[Ae ah];have:Ld.drop i=[]:=List.drop_eq_nil_of_le ah;simp[Dn.J1,this]
def isKw(s:ABe):Bool:=Ld.any λx=>s.toList==x.toList
theorem Rw(s:ABe):Dn s=some (isKw s):=PR s BW 0 ah aS
theorem TN:Ju=some Ld:=rfl
theorem Kv(s:ABe)(v:dv)(b:v.length<=100):∀(n i:Nat),i<=v.length->v.length<n+i->DQ.Aa s v n i=some ((v.drop i).any λx=>x.toList==s.toList)
 |0,pos,h1,h2=>ah
 |n+1,i,h1,h2=>by
  unfold DQ.Aa DQ.L1;by_cases a:i<v.length
  . rw[A9 ah,CF a,AAB,Aj ah,Kv s v b n (i+1) ah ah,EC a,List.any_cons];grind
  . rw[Ae ah];have:v.drop i=[]:=List.drop_eq_nil_of_le ah;simp[DQ.J1,this]
theorem Rk(s:ABe):DQ s=some (isKw s):=by unfold DQ;rw[TN,AAB];refine(Kv s Ld aS BW 0 ah aS).trans ?_;rw[AAj];congr 1;unfold isKw;grind
def S4(s:ABe):Bool:=decide (1<=s.size)&&decide (s.size<=12)&& !isKw s&&(List.range' 0 s.size).all (PF s)
theorem V3(s:ABe):Cx s=some (S4 s):=by
 unfold Cx;by_cases c:s.size<1
 . rw[A9 ah];simp[Cx.J1,S4];omega
 . rw[Ae ah];by_cases d:s.size>12
   . rw[A9 ah];simp[Cx.J1,S4];omega
   . rw[Ae ah,Rw,AAB];unfold Cx.J1;rw[Mi s BW 0 ah (by have:BW=18446744073709551616:=rfl;omega)];have a:1<=s.size:=ah;have b:s.size<=12:=ah;simp only[S4,a,b,decide_true,AAY,Nat.sub_zero];grind
theorem pU(s:ABe)(h:0<s.size):(JE (KI s 0)&&(List.range' 0 s.size).all λk=>Nz (KI s k))=(List.range' 0 s.size).all (PF s):=by
 have b:List.range' 0 s.size=0::List.range' 1 (s.size-1):=by rw[show s.size=(s.size-1)+1 from by omega,List.range'_succ];simp
 rw[b,AAy,AAy];have c:PF s 0=JE (KI s 0):=by simp[PF]
 have d:Nz (KI s 0)=(JE (KI s 0)||((decide (48<=KI s 0)&&decide (KI s 0<=57))||KI s 0==95)):=rfl;have f:(List.range' 1 (s.size-1)).all (PF s)=(List.range' 1 (s.size-1)).all λk=>Nz (KI s k):=by
  rw[ABa,AAH,AAH];have e:∀k∈List.range' 1 (s.size-1),PF s k=Nz (KI s k):=λk a=>by have:0<k:=(by have:=List.mem_range'_1.1 a;omega);simp[PF,Nz,this]
  exact⟨λh k a=>e k a▸h k a,λh k a=>(e k a).symm▸h k a⟩
 grind
theorem OT(s:ABe):B5 s=some (S4 s):=by
 unfold B5;by_cases c:s.size<1
 . rw[A9 ah];simp[B5.J1,S4];omega
 . rw[Ae ah];by_cases d:s.size>12
   . rw[A9 ah];simp[B5.J1,S4];omega
   . rw[Ae ah,show(0:Int)=((0:Nat):Int)from rfl,tV ah,AAB,OU,AAB,Rk,AAB];unfold B5.J1;rw[show(0:Int)=((0:Nat):Int)from rfl,Ma s ah BW 0 ah (by have:BW=18446744073709551616:=rfl;omega)];have a:1<=s.size:=ah;have b:s.size<=12:=ah;simp only[S4,a,b,decide_true,AAY,Nat.sub_zero];rw[<- pU s ah];show(if(!JE (KI s 0))=true then _ else _)=_
     grind
instance:Inhabited I7:=⟨⟨⟨#[]⟩,false⟩⟩
theorem ba_beq(a b:ABe):(a==b)=(a.data==b.data):=by cases a;cases b;rfl
theorem vH(a b:ABe):(a.toList==b.toList)=(a==b):=by rw[ba_beq,ABa,AAR,AAR,ByteArray.toList_eq,ByteArray.toList_eq];simp_all
theorem Ui(wv:AD)(L1:fe)(L1':fe)(F:List ABe×Bool->ABd (List ABe×Bool))(e:F ([],false)=some ([],false))(f:∀a b,L1 a b=(L1' a b).bind F)(i:Int)(l:dv)(x:DR):
 ∀(m:Nat)(k:Int)(c:DR),c.Name=x.Name->c.Bq=x.Bq->c.Gz=false->c.Init=x.Init->
  BR.DF L1 i l wv x m k=(AY.DF L1' i wv.Cells l x m c k).bind F
 |0,k,c,_,_,_,_=>rfl
 |m+1,k,c,e1,e2,e3,e4=>by
  have o:=λp=>Ui wv L1 L1' F e f i l x m p ⟨c.Name,k,c.Bq,c.Gz,c.Init⟩ e1 e2 e3 e4;unfold BR.DF AY.DF BR.L2 AY.L2;by_cases d:k<x.Bq
  . rw[A9 d,A9 d];cases gt wv.Cells (BA (i+k))with
    |none=>rfl
    |some y=>simp only[AAB,BR.J2,o,e1,e2,e3,e4];by_cases g:y.Index=k<;>by_cases h:y.Name.toList=x.Name.toList<;>by_cases j:y.Bq=x.Bq<;>by_cases n:y.Init=x.Init<;>cases a5:y.Gz<;>simp[g,h,j,n,e]
  . rw[Ae d,Ae d];simp only[BR.J3,AY.J2,f,e2]
def Mm(wv:AD):List ABe×Bool->ABd (List ABe×Bool):=λv=>if v.2=true then BR.J4 wv v.1 else some ([],false)
theorem Zz(wv:AD)(l:wv.Cells.length<=12):∀(n:Nat)(names:dv)(i:Int),
 BR.Aa wv n names i=(AY.Aa wv.Cells n names i).bind (Mm wv)
 |0,_,_=>rfl
 |n+1,names,i=>by
  have j:=Zz wv l n;unfold BR.Aa AY.Aa BR.L1 AY.L1;by_cases hi:i<(wv.Cells.length:Int)
  . rw[A9 hi,A9 hi];cases hx:gt wv.Cells i with
    |none=>rfl
    |some x=>
     simp only[AAB];by_cases g:Ap (names.length+1) 16=true
     . rw[AAL g,AAL g];by_cases d:x.Bq=0
       . simp only[d,AA4,AAi,j];by_cases c:x.Index=0<;>simp[c,Mm]
       . simp only[d,AAR,AAT,BR.J1,AY.J1];by_cases c:x.Bq<1
         . simp[c,Mm]
         . by_cases e:x.Bq>4
           . simp[c,e,Mm]
           . simp only[c,e,decide_false,AAM,AAT];have m:=Ui wv _ _ (Mm wv) rfl (λa b=>j a b) i names x BW 0 x rfl rfl;by_cases f:x.Bq>BA ((wv.Cells.length:Int)-i)
             . cases x.Gz<;>simp[f,Mm]
             . simp only[f,decide_false,AAM,AAT];cases hv:x.Gz with
               |false=>simp_all
               |true=>
                simp only[AAi];have o:0<=i:=by
                 unfold gt at hx;by_cases h:0<=i
                 . exact h
                 . simp_all
                show BR.DF _ _ _ _ _ BW 0=_;rw[show BW=18446744073709551615+1 from rfl];unfold BR.DF BR.L2;rw[A9 ah,B9 ah ah,Int.add_zero,hx];simp only[AAB,BR.J2,hv];by_cases k:x.Index=0<;>simp[k,Mm]
     simp_all
  . rw[Ae hi,Ae hi];simp[AY.J3,Mm]
theorem ME(l:gw)(j:l.length<=12)(L1:fe)(names:dv)(x:DR)(i:Nat)(d:1<=x.Bq)(f:x.Bq<=4)(n:x.Bq<=(l.length:Int)-i)(Q:List ABe×Bool->Prop)(g:Q ([],false))(b:∃v,L1 (names++[x.Name]) ((i+x.Bq.toNat:Nat):Int)=some v/\Q v):
 ∀(m k:Nat)(a:DR),a.Bq=x.Bq->k<=x.Bq->x.Bq<(m+k:Nat)->∃v,AY.DF L1 (i:Int) l names x m a (k:Int)=some v/\Q v
 |0,k,a,e,h,h'=>ah
 |m+1,k,a,e,h,h'=>by
  unfold AY.DF AY.L2;by_cases c:(k:Int)<x.Bq
  . rw[A9 c,B9 ah ah,show(i:Int)+(k:Int)=((i+k:Nat):Int)from by omega,CF ah,AAB,Aj ah];split
    . simp_all
    . exact ME l j L1 names x i d f n Q g b m (k+1) _ e ah ah
  . rw[Ae c];unfold AY.J2;rw[e,B9 ah ah,show(i:Int)+x.Bq=((i+x.Bq.toNat:Nat):Int)from by omega];exact b
theorem MF(l:gw)(d:l.length<=12):∀(n i:Nat)(names:dv),i<=l.length->l.length<n+i->names.length<=i->∃v,AY.Aa l n names (i:Int)=some v/\v.1.length<=l.length
 |0,i,names,a,b,c=>ah
 |n+1,i,names,a,b,c=>by
  unfold AY.Aa AY.L1;by_cases hi:i<l.length
  . rw[A9 ah,CF hi,AAB,BV ah];have f:∃v,some (([],false):List ABe×Bool)=some v/\v.1.length<=l.length:=⟨_,rfl,ak⟩;generalize l[i]=x;by_cases e:x.Bq=0
    . simp only[e,AA4,AAi];rw[Aj ah];split
      . exact f
      . exact MF l d n (i+1) _ ah ah an
    . simp only[e,AAR,AAT,AY.J1];rw[B9 (n:=(l.length:Int)-i) ah ah];by_cases a:x.Bq<1
      . simp[a]
      . by_cases b:x.Bq>4
        . simp[a,b]
        . by_cases c:x.Gz=true
          . simp_all
          . by_cases g:x.Bq>(l.length:Int)-i
            . simp_all
            . simp only[a,b,c,g,decide_false,AAM,AAT];refine ME l d _ names x i ah ah ah _ ak ?_ BW 0 x rfl ah aG;exact MF l d n (i+x.Bq.toNat) _ ah ah an
  . rw[Ae ah];exact⟨_,rfl,an⟩
def MT(wv:AD):List ABe:=wv.AF.map (·.Name)++(wv.Ai.map (·.Name)++(wv.AK++wv.AA))
def VV:List ABe->List ABe->Bool
 |_,[]=>true
 |seen,x::r=>S4 x&& !(seen.any λy=>y==x)&&VV (seen++[x]) r
structure Small (wv:AD):Prop where
 c:wv.Cells.length<=12
 l:wv.AF.length<=4
 d:wv.Ai.length<=2
 f:wv.AK.length<=2
 t:wv.AA.length<=4
 s:wv.BU.length<=60
theorem names.L3(wv:AD)(a:dv)(c:(a++wv.AK++wv.AA).length<=1000):∀(n i:Nat)(b:dv),i<=(a++wv.AK++wv.AA).length->(a++wv.AK++wv.AA).length<n+i->
 BK.Gg a wv n (i:Int) b=some (VV b ((a++wv.AK++wv.AA).drop i))
 |0,i,b,h1,h2=>ah
 |n+1,i,b,h1,h2=>by
  unfold BK.Gg BK.L3;by_cases hi:i<(a++wv.AK++wv.AA).length
  . rw[A9 ah,CF hi,AAB,V3,AAB,EC hi];unfold BK.J3;rw[Aj ah,names.L3 wv a c n (i+1) _ ah ah];generalize (a++wv.AK++wv.AA)[i]=x;rw[VV];grind
  . rw[Ae ah,Ez hi];rfl
theorem names.J2(wv:AD)(b:Small wv)(a:dv)(c:a.length<=100):BK.J2 wv a=some (VV [] (a++(wv.AK++wv.AA))):=by
 have:=b.f;have:=b.t;have d:=BO;unfold BK.J2;rw[BV ah,BV an]
 have:=names.L3 wv a an BW 0 [] ah an;simp_all
theorem names.L2(wv:AD)(b:Small wv):∀(n i:Nat)(a:dv),i<=wv.Ai.length->wv.Ai.length<n+i->a.length<=50+i->BK.DF wv n a (i:Int)=some (VV [] (a++((wv.Ai.drop i).map (·.Name)++(wv.AK++wv.AA))))
 |0,i,a,h1,h2,h3=>ah
 |n+1,i,a,h1,h2,h3=>by
  have:=b.d;unfold BK.DF BK.L2;by_cases hi:i<wv.Ai.length
  . rw[A9 ah,CF hi,AAB,BV ah,Aj ah,names.L2 wv b n (i+1) _ ah ah an,EC hi];grind
  . rw[Ae ah,Ez hi,names.J2 wv b a ah];simp
theorem names.L1(wv:AD)(b:Small wv):∀(n i:Nat)(a:dv),i<=wv.AF.length->wv.AF.length<n+i->a.length<=20+i->BK.Aa wv n a (i:Int)=some (VV [] (a++((wv.AF.drop i).map (·.Name)++(wv.Ai.map (·.Name)++(wv.AK++wv.AA)))))
 |0,i,a,h1,h2,h3=>ah
 |n+1,i,a,h1,h2,h3=>by
  have:=b.l;have:=b.d;have c:=BO;unfold BK.Aa BK.L1;by_cases hi:i<wv.AF.length
  . rw[A9 ah,CF hi,AAB,BV ah,Aj ah,names.L1 wv b n (i+1) _ ah ah an,EC hi];grind
  . rw[Ae ah,Ez hi];unfold BK.J1
    have:=names.L2 wv b BW 0 a ah ah ah;simp_all
theorem names_eq(wv:AD)(b:Small wv)(a:dv)(d:a.length<=12):BK wv a=some (VV [] (a++MT wv)):=by
 have:=b.l;have c:=BO;unfold BK;rw[BV ah]
 have:=names.L1 wv b BW 0 a ah ah ah;rw[AAj]at this;exact this
theorem OB.J6(wv:AD)(b:Small wv)(a:dv)(c:a.length<=100):BR.J6 wv a=some (a++(wv.AK++wv.AA),true):=by have:=b.f;have:=b.t;unfold BR.J6;rw[BV ah,BV an,ABG]
theorem OB.L4(wv:AD)(b:Small wv):∀(n i:Nat)(a:dv),i<=wv.Ai.length->wv.Ai.length<n+i->a.length<=50+i->BR.L4r wv n a (i:Int)=some (a++((wv.Ai.drop i).map (·.Name)++(wv.AK++wv.AA)),true)
 |0,i,a,h1,h2,h3=>ah
 |n+1,i,a,h1,h2,h3=>by
  have:=b.d;unfold BR.L4r BR.L4;by_cases hi:i<wv.Ai.length
  . rw[A9 ah,CF hi,AAB,BV ah,Aj ah,OB.L4 wv b n (i+1) _ ah ah an,EC hi];grind
  . rw[Ae ah,Ez hi,OB.J6 wv b a ah];simp
theorem OB.L3(wv:AD)(b:Small wv):∀(n i:Nat)(a:dv),i<=wv.AF.length->wv.AF.length<n+i->a.length<=20+i->BR.Gg wv n a (i:Int)=some (a++((wv.AF.drop i).map (·.Name)++(wv.Ai.map (·.Name)++(wv.AK++wv.AA))),true)
 |0,i,a,h1,h2,h3=>ah
 |n+1,i,a,h1,h2,h3=>by
  have:=b.l;have:=b.d;have c:=BO;unfold BR.Gg BR.L3;by_cases hi:i<wv.AF.length
  . rw[A9 ah,CF hi,AAB,BV ah,Aj ah,OB.L3 wv b n (i+1) _ ah ah an,EC hi];grind
  . rw[Ae ah,Ez hi];unfold BR.J5
    have:=OB.L4 wv b BW 0 a ah ah ah;simp_all
theorem OB.J4(wv:AD)(b:Small wv)(a:dv)(c:a.length<=12):BR.J4 wv a=some (a++MT wv,true):=by
 have:=b.l;have d:=BO;unfold BR.J4
 have:=OB.L3 wv b BW 0 a ah ah ah;rw[AAj]at this;exact this
theorem rO(l:dv)(x:ABe)(a:l.length<=1000):∀(n i:Nat),i<=l.length->l.length<n+i->∃r,CU.Aa l x n (i:Int)=some r/\(0<=r↔((l.drop i).any λy=>y==x)=true)
 |0,i,h1,h2=>ah
 |n+1,i,h1,h2=>by
  unfold CU.Aa CU.L1;by_cases hi:i<l.length
  . rw[A9 ah,CF hi,AAB,Aj ah,EC hi,vH,List.any_cons];obtain⟨r,c,b⟩:=rO l x a n (i+1) ah ah;grind
  . rw[Ae ah,Ez hi];exact⟨-1,rfl,ak⟩
theorem at_eq(l:dv)(x:ABe)(c:l.length<=1000):∃r,CU l x=some r/\decide (r>=0)=(l.any λy=>y==x):=by obtain⟨r,a,b⟩:=rO l x c BW 0 ah aG;rw[AAj]at b;refine⟨r,a,?_⟩;grind
theorem VA(wv:AD)(v:List ABe×Bool)(d:v.1.length<=1000):∀(n i:Nat),i<=v.1.length->v.1.length<n+i->
 As.Aa v wv n (i:Int)=if VV (v.1.take i) (v.1.drop i)=true then As.J3 wv else some false
 |0,i,h1,h2=>ah
 |n+1,i,h1,h2=>by
  unfold As.Aa As.L1;by_cases hi:i<v.1.length
  . rw[A9 ah,CF hi,AAB,OT,AAB,EC hi,AAL (c:=0<=(i:Int)/\(i:Int).toNat<=v.1.length) an,AAz];obtain⟨r,a,b⟩:=at_eq (v.1.take i) v.1[i] an;rw[a,AAB,b];unfold As.J2;rw[Aj ah,VA wv v d n (i+1) ah ah,VV,AAX hi];grind
  . rw[Ae ah,Ez hi];rfl
def Gr(nt:Nat):Int->Int->List Dk->Bool
 |_,_,[]=>true
 |t,n,x::r=>if x.Thread<t\/x.Thread>=nt then false else if x.Thread>t then x.Stmt==0&&Gr nt x.Thread 1 r else x.Stmt==n&&Gr nt t (n+1) r
theorem Rv(wv:AD)(b:Small wv):∀(n i:Nat)(t:Int)(a:Nat),i<=wv.BU.length->wv.BU.length<n+i->a<=i->Cb.Aa wv n t (a:Int) (i:Int)=some (Gr wv.AA.length t a (wv.BU.drop i))
 |0,i,t,a,h1,h2,h3=>ah
 |n+1,i,t,a,h1,h2,h3=>by
  have:=b.s;unfold Cb.Aa Cb.L1;by_cases hi:i<wv.BU.length
  . rw[A9 ah,CF hi,AAB,EC hi];simp only[Cb.J1,Cb.J2];rw[Aj (i:=i) ah,Aj (i:=a) ah,show BA (0+1)=((1:Nat):Int)from rfl];rw[Rv wv b n (i+1) _ (a+1) ah ah ah,Rv wv b n (i+1) _ 1 ah ah ah];generalize wv.BU[i]=x;rw[Gr];grind
  . rw[Ae ah,Ez hi];rfl
theorem VD(wv:AD)(j:Small wv):∀(n i:Nat)(t:Int)(e:Nat),i<=wv.BU.length->wv.BU.length<n+i->e<=i->(∀(h:0<i)(y:i-1<wv.BU.length),t=wv.BU[i-1].Thread/\(e:Int)=wv.BU[i-1].Stmt+1)->(i=0->t=0/\e=0)->0<=t->
 As.Gg wv n (i:Int)=some (Gr wv.AA.length t e (wv.BU.drop i))
 |0,i,t,e,h1,h2,h3,_,_,_=>ah
 |n+1,i,t,e,h1,h2,h3,h4,h5,h6=>by
  have:=j.s;unfold As.Gg As.L3;by_cases hi:i<wv.BU.length
  . rw[A9 ah,CF hi,AAB,EC hi];have v:∀(f:Int)(d:Nat),d<=i+1->(f=wv.BU[i].Thread/\(d:Int)=wv.BU[i].Stmt+1)->0<=f->As.Gg wv n ((i+1:Nat):Int)=some (Gr wv.AA.length f d (wv.BU.drop (i+1))):=
     λf d a b c=>VD wv j n (i+1) f d ah ah a (λ_ _=>b) ah c
    simp only[As.J6,As.J7,As.J8,As.J9];rw[Aj (i:=i) ah];rw[Gr];by_cases a0:wv.BU[i].Thread<0
    . grind
    . by_cases k:wv.BU[i].Thread>=(wv.AA.length:Int)
      . grind
      . simp only[a0,k,decide_false,AA2,AAM,AAT];by_cases z:i=0
        . grind
        . have q:((i:Int)==0)=false:=an;have g:gt wv.BU (BA ((i:Int)-1))=some wv.BU[i-1]:=(by rw[B9 ah ah,show(i:Int)-1=((i-1:Nat):Int)from by omega,CF ah]);obtain⟨o,p⟩:=h4 ah ah;have u:BA (wv.BU[i-1].Stmt+1)=(e:Int):=(by rw[<- p];exact B9 (by omega) (by omega));have r:decide ((i:Int)>0)=true:=an;simp only[q,g,AAB,AAM,AAT,u,<- o,r,AAi];by_cases l:t=wv.BU[i].Thread
          . have w:¬wv.BU[i].Thread<t:=ah;have x:¬wv.BU[i].Thread>t:=ah;simp only[l,bne_self_eq_false,AAM,AAT,Int.lt_irrefl,gt_iff_lt];by_cases m:wv.BU[i].Stmt=(e:Int)
            . simp only[m,bne_self_eq_false,AAM,AAT,AA4,AAY];rw[v wv.BU[i].Thread (e+1) ah ⟨rfl,ah⟩ ah];rfl
            grind
          grind
  . rw[Ae ah,Ez hi];rfl
theorem sites_eq(wv:AD)(a:Small wv):Cb wv=some (Gr wv.AA.length 0 0 wv.BU):=by have:=Rv wv a BW 0 0 0 ah (by have:=a.s;have:=BO;omega) ah;rw[AAj]at this;exact this
theorem yU(wv:AD)(a:Small wv):As.J5 wv=some (Gr wv.AA.length 0 0 wv.BU):=by have:=VD wv a BW 0 0 0 ah (by have:=a.s;have:=BO;omega) ah ah ak ah;rw[AAj]at this;exact this
def Qr(wv:AD)(c:O3):Bool:=Cu c.Mutex wv.AF.length&& !(ix wv.AF c.Mutex).RW
theorem Nb(i:Int)(n:Nat):Ey i (n:Int)=some (Cu i n):=by unfold Ey Ey.J1 Cu;grind
theorem W8(wv:AD)(a:Small wv):∀(n i:Nat),i<=wv.Ai.length->wv.Ai.length<n+i->Be.Aa wv n (i:Int)=if(wv.Ai.drop i).all (Qr wv)=true then some (Gr wv.AA.length 0 0 wv.BU)else some false
 |0,i,h1,h2=>ah
 |n+1,i,h1,h2=>by
  have:=a.d;unfold Be.Aa Be.L1;by_cases hi:i<wv.Ai.length
  . rw[A9 ah,CF hi,AAB,EC hi,Aj ah,W8 wv a n (i+1) ah ah,AAy];generalize wv.Ai[i]=c;unfold Fu;rw[Nb,AAB];unfold Qr Fu.J1;cases h:Cu c.Mutex wv.AF.length with
    |false=>simp
    |true=>rw[AAL rfl,CL h,AAB,AAB];grind
  . rw[Ae ah,Ez hi];unfold Be.J4;rw[sites_eq wv a];rfl
theorem U4(wv:AD)(a:Small wv):∀(n i:Nat),i<=wv.Ai.length->wv.Ai.length<n+i->As.DF wv n (i:Int)=if(wv.Ai.drop i).all (Qr wv)=true then some (Gr wv.AA.length 0 0 wv.BU)else some false
 |0,i,h1,h2=>ah
 |n+1,i,h1,h2=>by
  have:=a.d;unfold As.DF As.L2;by_cases hi:i<wv.Ai.length
  . unfold As.J4;rw[A9 ah,CF hi,AAB,EC hi,Aj ah,U4 wv a n (i+1) ah ah,AAy];generalize wv.Ai[i]=c;unfold Qr;by_cases b:c.Mutex<0
    . have:Cu c.Mutex wv.AF.length=false:=bn;simp_all
    . by_cases e:c.Mutex>=(wv.AF.length:Int)
      . have:Cu c.Mutex wv.AF.length=false:=bn;simp_all
      . have h:Cu c.Mutex wv.AF.length=true:=bn;rw[Ae b,Ae e,CL h,AAB,h];grind
  . rw[Ae ah,Ez hi];exact yU wv a
def Ce(wv:AD):Bool:=decide (wv.Cells.length<=12)&&decide (wv.AF.length<=4)&&decide (wv.Ai.length<=2)&&decide (wv.AK.length<=2)&&decide (1<=wv.AA.length)&&decide (wv.AA.length<=4)&&decide (wv.BU.length<=60)&&
 (match AY wv.Cells with
 |some v=>v.2&&VV [] (v.1++MT wv)&&wv.Ai.all (Qr wv)&&Gr wv.AA.length 0 0 wv.BU
 |none=>false)
theorem Qo(wv:AD):Be wv=some (Ce wv):=by
 unfold Be Be.J1;by_cases a:wv.Cells.length<=12
 . by_cases b:wv.AF.length<=4
   . by_cases c:wv.Ai.length<=2
     . by_cases d:wv.AK.length<=2
       . by_cases e:wv.BU.length<=60
         . rw[Ae ah,Ae ah,Ae ah,Ae ah,AAK an];unfold Be.J2;by_cases g:1<=wv.AA.length
           . by_cases f:wv.AA.length<=4
             . have h:Small wv:=⟨a,b,c,d,f,e⟩;obtain⟨v,k,l⟩:=MF wv.Cells a BW 0 [] ah aG ak;have i:AY wv.Cells=some v:=k;rw[Ae ah,AAK an,i,AAB];have j:Ce wv=(v.2&&VV [] (v.1++MT wv)&&wv.Ai.all (Qr wv)&&Gr wv.AA.length 0 0 wv.BU):=(by unfold Ce;rw[i];simp[a,b,c,d,e,g,f]);rw[j,names_eq wv h v.1 ah,AAB];unfold Be.J3;have m:=W8 wv h BW 0 ah aG;grind
             . rw[Ae ah,AAL an];simp[Ce,f]
           . rw[A9 ah,AAL rfl];simp[Ce,g]
         . rw[Ae ah,Ae ah,Ae ah,Ae ah,AAL an];simp[Ce,e]
       . rw[Ae ah,Ae ah,Ae ah,A9 ah,AAL rfl];simp[Ce,d]
     . rw[Ae ah,Ae ah,A9 ah,AAL rfl];simp[Ce,c]
   . rw[Ae ah,A9 ah,AAL rfl];simp[Ce,b]
 . rw[A9 ah,AAL rfl];simp[Ce,a]
theorem Js(wv:AD):As wv=some (Ce wv):=by
 unfold As As.J1;by_cases a:wv.Cells.length<=12
 . by_cases c:wv.AF.length<=4
   . by_cases d:wv.Ai.length<=2
     . by_cases e:wv.AK.length<=2
       . by_cases h:1<=wv.AA.length
         . by_cases g:wv.AA.length<=4
           . by_cases f:wv.BU.length<=60
             . have k:Small wv:=⟨a,c,d,e,g,f⟩;obtain⟨v,j,n⟩:=MF wv.Cells a BW 0 [] ah aG ak;have o:AY wv.Cells=some v:=j;rw[Ae ah,Ae ah,Ae ah,Ae ah,Ae ah,Ae ah,AAK an];have m:Ce wv=(v.2&&VV [] (v.1++MT wv)&&wv.Ai.all (Qr wv)&&Gr wv.AA.length 0 0 wv.BU):=(by unfold Ce;rw[o];simp[a,c,d,e,f,h,g]);have hn:BR wv=Mm wv v:=(by have:=Zz wv a BW [] 0;rw[show(0:Int)=((0:Nat):Int)from rfl,j]at this;exact this);rw[hn,m];unfold Mm;have l:=U4 wv k BW 0 ah aG;rw[AAj]at l;cases fJ:v.2 with
               |false=>simp
               |true=>rw[AAL rfl,OB.J4 wv k v.1 ah,AAB,AAK ak];have b:(v.1++MT wv).length<=1000:=(by simp[MT];omega);have i:=VA wv (v.1++MT wv,true) b BW 0 ah (by have:=BO;grind);rw[List.take_zero,AAj]at i;rw[show(0:Int)=((0:Nat):Int)from rfl,i];unfold As.J3;grind
             . rw[Ae ah,Ae ah,Ae ah,Ae ah,Ae ah,Ae ah,AAL an];simp[Ce,f]
           . rw[Ae ah,Ae ah,Ae ah,Ae ah,Ae ah,A9 ah,AAL rfl];simp[Ce,g]
         . rw[Ae ah,Ae ah,Ae ah,Ae ah,A9 ah,AAL rfl];simp[Ce,h]
       . rw[Ae ah,Ae ah,Ae ah,A9 ah,AAL rfl];simp[Ce,e]
     . rw[Ae ah,Ae ah,A9 ah,AAL rfl];simp[Ce,d]
   . rw[Ae ah,A9 ah,AAL rfl];simp[Ce,c]
 . rw[A9 ah,AAL rfl];simp[Ce,a]
variable{wv:AD}
theorem DX(h:Ce wv=true):Small wv:=by unfold Ce at h;simp only[AAD,AAV]at h;obtain⟨⟨⟨⟨⟨⟨⟨a,b⟩,c⟩,d⟩,g⟩,e⟩,f⟩,i⟩:=h;exact⟨a,b,c,d,e,f⟩
instance:Inhabited O3:=⟨⟨⟨#[]⟩,0⟩⟩
instance:Inhabited DR:=⟨⟨⟨#[]⟩,0,0,false,0⟩⟩
instance:Inhabited Dk:=⟨⟨0,0,0⟩⟩
instance:Inhabited AW:=⟨⟨0,[]⟩⟩
instance:Inhabited AH:=⟨⟨0,0,false⟩⟩
def JP(wv:AD):AP:=⟨List.replicate wv.AF.length ⟨-1,[]⟩, -1,List.replicate wv.AK.length false,(List.replicate wv.AA.length ⟨0,0,false⟩).set 0 ⟨1,0,false⟩⟩
theorem start.L1(wv:AD)(a:Small wv)(D:eb)(T:ep)(tx:Int):∀(n i:Nat),i<=wv.AF.length->wv.AF.length<n+i->
 EH.Aa wv n ⟨List.replicate i ⟨-1,[]⟩++List.replicate (wv.AF.length-i) ⟨0,[]⟩,tx,D,T⟩ (i:Int)=EH.J1 ⟨List.replicate wv.AF.length ⟨-1,[]⟩,tx,D,T⟩
 |0,i,h1,h2=>ah
 |n+1,i,h1,h2=>by
  have:=a.l;unfold EH.Aa EH.L1;by_cases hi:i<wv.AF.length
  . rw[A9 an];have e:List.replicate (wv.AF.length-i) (AW.mk 0 [])=AW.mk 0 []::List.replicate (wv.AF.length-(i+1)) (AW.mk 0 []):=(by rw[show wv.AF.length-i=(wv.AF.length-(i+1))+1 from by omega,List.replicate_succ]);have b:gt (List.replicate i (AW.mk (-1) [])++List.replicate (wv.AF.length-i) (AW.mk 0 [])) (i:Int)=some ⟨0,[]⟩:=(by rw[JI,e,AAa (by simp)];simp);have c:(List.replicate i (AW.mk (-1) [])++List.replicate (wv.AF.length-i) (AW.mk 0 [])).set i (AW.mk (-1) [])=List.replicate (i+1) (AW.mk (-1) [])++List.replicate (wv.AF.length-(i+1)) (AW.mk 0 []):=(by rw[e,List.set_append_right _ _ (by simp)];simp only[ABL,Nat.sub_self,List.set_cons_zero];rw[ABY];simp);simp only[b,AAB,AAz,c];rw[Aj ah];exact start.L1 wv a D T tx n (i+1) ah ah
  . rw[Ae an];have:i=wv.AF.length:=ah;simp_all
theorem Ve(wv:AD)(a:Small wv):EH wv=some (JP wv):=by
 have c:=a.l;have d:=a.f;have e:=a.t;have g:=BO;unfold EH;rw[AAL ⟨ah,ah,Bm ah⟩,AAL ⟨ah,ah,Bm ah⟩,AAL ⟨ah,ah,Bm ah⟩]
 have:=start.L1 wv a (List.replicate wv.AK.length false) (List.replicate wv.AA.length (AH.mk 0 0 false)) (-1) BW 0 ah ah;simp only[List.replicate_zero,List.nil_append,Nat.sub_zero,Int.natCast_zero]at this;rw[this];unfold EH.J1 EH.J2 JP;simp only[ABL];by_cases h:wv.AA.length=0
 . simp[h]
 . have b:0<wv.AA.length:=ah;rw[A9 ah];have:gt (List.replicate wv.AA.length (AH.mk 0 0 false)) 0=some ⟨0,0,false⟩:=(by show gt _ ((0:Nat):Int)=_;rw[JI];simp[b]);simp_all
theorem Ps.L3(wv:AD)(a:Small wv)(L:gy)(D:eb)(tx:Int):∀(n i:Nat),i<=wv.AA.length->wv.AA.length<n+i->
 CW.Gg wv n ⟨L,tx,D,(List.replicate i ⟨0,0,false⟩).set 0 ⟨1,0,false⟩⟩ (i:Int)=some ⟨L,tx,D,(List.replicate wv.AA.length ⟨0,0,false⟩).set 0 ⟨1,0,false⟩⟩
 |0,i,h1,h2=>ah
 |n+1,i,h1,h2=>by
  have:=a.t;unfold CW.Gg CW.L3;by_cases hi:i<wv.AA.length
  . unfold CW.J3;rw[A9 ah];simp only[List.length_set,ABL];rw[BV ah,BV ah,Aj ah];have e:∀x,(if((i:Int)==0)=true then CW.Gg wv n ⟨L,tx,D,(List.replicate i ⟨0,0,false⟩).set 0 ⟨1,0,false⟩++[⟨1,0,false⟩]⟩ x else CW.Gg wv n ⟨L,tx,D,(List.replicate i ⟨0,0,false⟩).set 0 ⟨1,0,false⟩++[⟨0,0,false⟩]⟩ x)=CW.Gg wv n ⟨L,tx,D,(List.replicate (i+1) ⟨0,0,false⟩).set 0 ⟨1,0,false⟩⟩ x:=by
     intro x;cases i with
     |zero=>rfl
     |succ i=>rw[AAK an,ABY (n:=i+1),List.set_append_left _ _ ak]
    rw[e];exact Ps.L3 wv a L D tx n (i+1) ah ah
  . rw[Ae ah];have:i=wv.AA.length:=ah;subst this;rfl
theorem Ps.L2(wv:AD)(a:Small wv)(L:gy)(tx:Int):∀(n i:Nat),i<=wv.AK.length->wv.AK.length<n+i->
 CW.DF wv n ⟨L,tx,List.replicate i false,[]⟩ (i:Int)=some ⟨L,tx,List.replicate wv.AK.length false,(List.replicate wv.AA.length ⟨0,0,false⟩).set 0 ⟨1,0,false⟩⟩
 |0,i,h1,h2=>ah
 |n+1,i,h1,h2=>by
  have:=a.f;unfold CW.DF CW.L2;by_cases hi:i<wv.AK.length
  . rw[A9 ah];simp only[ABL];rw[BV ah,Aj ah,<- ABY];exact Ps.L2 wv a L tx n (i+1) ah ah
  . rw[Ae ah];have:i=wv.AK.length:=ah;subst this;unfold CW.J2;exact Ps.L3 wv a L _ tx BW 0 ah (by have:=a.t;have:=BO;omega)
theorem Ps.L1(wv:AD)(a:Small wv):∀(n i:Nat),i<=wv.AF.length->wv.AF.length<n+i->
 CW.Aa wv n ⟨List.replicate i ⟨-1,[]⟩, -1,[],[]⟩ (i:Int)=some (JP wv)
 |0,i,h1,h2=>ah
 |n+1,i,h1,h2=>by
  have:=a.l;unfold CW.Aa CW.L1;by_cases hi:i<wv.AF.length
  . rw[A9 ah];simp only[ABL];rw[BV ah,Aj ah,<- ABY];exact Ps.L1 wv a n (i+1) ah ah
  . rw[Ae ah];have:i=wv.AF.length:=ah;subst this;unfold CW.J1;exact Ps.L2 wv a _ (-1) BW 0 ah (by have:=a.f;have:=BO;omega)
theorem Pp(wv:AD)(a:Small wv):CW wv=some (JP wv):=Ps.L1 wv a BW 0 ah (by have:=a.l;have:=BO;omega)
def Gx(wv:AD):AB:=⟨JP wv,wv.Cells.map (·.Init),List.replicate wv.AK.length 0,List.replicate wv.AA.length 0⟩
theorem wstart.L1(wv:AD)(a:Small wv)(S:AP)(F C:dc):∀(n i:Nat),i<=wv.Cells.length->wv.Cells.length<n+i->
 Db.Aa wv n ⟨S,(wv.Cells.take i).map (·.Init),F,C⟩ (i:Int)=some ⟨S,wv.Cells.map (·.Init),F,C⟩
 |0,i,h1,h2=>ah
 |n+1,i,h1,h2=>by
  have:=a.c;unfold Db.Aa Db.L1;by_cases hi:i<wv.Cells.length
  . rw[A9 ah,CF hi,AAB];simp only;rw[BV an,Aj ah];have e:(wv.Cells.take i).map (·.Init)++[wv.Cells[i].Init]=(wv.Cells.take (i+1)).map (·.Init):=(by rw[<- AAX hi,AAp];rfl);rw[e];exact wstart.L1 wv a S F C n (i+1) ah ah
  . rw[Ae ah,AAq ah];rfl
theorem tO.L1(wv:AD)(a:Small wv)(S:AP)(F C:dc):∀(n i:Nat),i<=wv.Cells.length->wv.Cells.length<n+i->
 EU.Aa wv n ⟨S,(wv.Cells.take i).map (·.Init),F,C⟩ (i:Int)=some ⟨S,wv.Cells.map (·.Init),F,C⟩
 |0,i,h1,h2=>ah
 |n+1,i,h1,h2=>by
  have:=a.c;unfold EU.Aa EU.L1;by_cases hi:i<wv.Cells.length
  . rw[A9 ah,CF hi,AAB];simp only;rw[BV an,Aj ah];have e:(wv.Cells.take i).map (·.Init)++[wv.Cells[i].Init]=(wv.Cells.take (i+1)).map (·.Init):=(by rw[<- AAX hi,AAp];rfl);rw[e];exact tO.L1 wv a S F C n (i+1) ah ah
  . rw[Ae ah,AAq ah];rfl
theorem Qn(wv:AD)(a:Small wv):Db wv=some (Gx wv):=by have b:=a.c;have d:=a.f;have e:=a.t;have g:=BO;unfold Db;rw[Ve wv a,AAB,AAL ⟨ah,ah,Bm ah⟩,AAL ⟨ah,ah,Bm ah⟩,AAL ⟨ah,ah,Bm ah⟩];exact wstart.L1 wv a (JP wv) _ _ BW 0 ah ah
theorem Jy(wv:AD)(a:Small wv):EU wv=some (Gx wv):=by have b:=a.c;have d:=a.f;have e:=a.t;have g:=BO;unfold EU;rw[Pp wv a,AAB,AAL ⟨ah,ah,Bm ah⟩,AAL ⟨ah,ah,Bm ah⟩];exact tO.L1 wv a (JP wv) _ _ BW 0 ah ah
variable{s:AP}{g:ep}{t:Int}
section
set_option maxHeartbeats 4000000
def JX(i:Int)(n:Nat):DP i (n:Int)=some (Cu i n):=Nb i n
def Yz(i:Int)(n:Nat):HH i (n:Int)=some (Cu i n):=Nb i n
def U7(i:Int)(n:Nat):Ky i (n:Int)=some (Cu i n):=Nb i n
def GQ(wv:AD)(s:AP):Bool:=wv.Ai.all (λc=>Cu c.Mutex wv.AF.length)&&(s.AF.length==wv.AF.length&&(s.Bn.length==wv.AK.length&&s.AA.length==wv.AA.length))
theorem N0(a b:Nat):((a:Int)==(b:Int))=(a==b):=bg
theorem p5(a b:Nat):((a:Int) != (b:Int))= !(a==b):=bg
theorem NP(wv:AD)(a:Small wv):∀(n i:Nat),i<=wv.Ai.length->wv.Ai.length<n+i->EM.Aa wv n (i:Int)=some ((wv.Ai.drop i).all λc=>Cu c.Mutex wv.AF.length)
 |0,i,h1,h2=>ah
 |n+1,i,h1,h2=>by
  have:=a.d;unfold EM.Aa EM.L1;by_cases hi:i<wv.Ai.length
  . rw[A9 ah,CF hi,AAB,EC hi,Aj ah,NP wv a n (i+1) ah ah,AAy,JX,AAB];grind
  . rw[Ae ah,Ez hi];rfl
theorem NO(wv:AD)(b:Small wv)(s:AP):EM wv s=some (GQ wv s):=by have a:=NP wv b BW 0 ah (by have:=b.d;have:=BO;omega);rw[AAj]at a;unfold EM EM.J1 GQ;rw[p5,p5,p5,show(0:Int)=((0:Nat):Int)from rfl,a];grind
theorem Ob(wv:AD)(a:Small wv)(s:AP):∀(n i:Nat),i<=wv.Ai.length->wv.Ai.length<n+i->Ea.Aa s wv n (i:Int)=some (((wv.Ai.drop i).all λc=>Cu c.Mutex wv.AF.length)&&(s.AF.length==wv.AF.length&&(s.Bn.length==wv.AK.length&&s.AA.length==wv.AA.length)))
 |0,i,h1,h2=>ah
 |n+1,i,h1,h2=>by
  have:=a.d;unfold Ea.Aa Ea.L1;by_cases hi:i<wv.Ai.length
  . unfold Ea.J1;rw[A9 ah,CF hi,AAB,EC hi,Aj ah,Ob wv a s n (i+1) ah ah,AAy];generalize wv.Ai[i]=c;by_cases b:c.Mutex<0
    . have:Cu c.Mutex wv.AF.length=false:=bn;simp_all
    . by_cases e:c.Mutex>=(wv.AF.length:Int)
      . have:Cu c.Mutex wv.AF.length=false:=bn;simp_all
      . have h:Cu c.Mutex wv.AF.length=true:=bn;grind
  . rw[Ae ah,Ez hi];unfold Ea.J2 Ea.J3;rw[N0,N0,N0];grind
theorem LN(wv:AD)(b:Small wv)(s:AP):Ea wv s=some (GQ wv s):=by have a:=Ob wv b s BW 0 ah (by have:=b.d;have:=BO;omega);rw[AAj]at a;exact a
def IG(wv:AD)(s:AB):Bool:=GQ wv s.Sync&&(s.Cells.length==wv.Cells.length&&(s.AK.length==wv.AK.length&&s.Count.length==wv.AA.length))
theorem Lp(wv:AD)(a:Small wv)(s:AB):Ee wv s=some (IG wv s):=by unfold Ee Ee.J1 IG;rw[NO wv a,AAB,N0,N0,N0];grind
theorem Q5(wv:AD)(a:Small wv)(s:AB):HB wv s=some (IG wv s):=by unfold HB HB.J1 IG;rw[LN wv a,AAB,N0,N0,N0];grind
def Bi(wv:AD)(k o:Int):Bool:=
 if k=1\/k=2\/k=5\/k=12\/k=13\/k=14\/k=15 then o== -1
 else if k=3\/k=4 then Cu o wv.Cells.length
 else if k=6\/k=7 then Cu o wv.AF.length&& !(ix wv.AF o).RW
 else if k=8\/k=9\/k=10\/k=11 then Cu o wv.AF.length&&(ix wv.AF o).RW
 else if k=16\/k=17\/k=18\/k=19 then Cu o wv.Ai.length
 else if k=20\/k=21 then Cu o wv.AA.length
 else if k=22\/k=23 then Cu o wv.AK.length
 else false
theorem lockRW(l:List I7)(o:Int)(f g:Bool->ABd a)(y:ABd a)(d:∀b,f b=g b)(hn:y=g false)(c:I7->Bool):(if Cu o l.length=true then(gt l o).bind λx=>f (c x)else y)=g (Cu o l.length&&c (ix l o)):=by
 cases h:Cu o l.length with
 |false=>simp[hn]
 |true=>rw[AAL rfl,CL h,AAB,d];simp
theorem MX(wv:AD)(o:Int):∀k,CT wv k o=some (Bi wv k o):=by
 refine kinds ?_ ?_ ?_ ?_ ?_ ?_ ?_ ?_ ?_ ?_ ?_ ?_ ?_ ?_ ?_ ?_ ?_ ?_ ?_ ?_ ?_ ?_ ?_ (λk l m n p q r s t u a b y c d e w f g h v i z j=> ?_)
 all_goals
  unfold CT CT.J1;simp(decide:=true)only[Bi,CT.J2,CT.J3,CT.J4,CT.J5,CT.J6,CT.J7,CT.J8,CT.J9,JX,AAB,AA4,AAi,AAT,AAR,AA2,or_true,true_or,false_or,AAM]
 all_goals first
  |done
  | (simp only[l,m,n,p,q,r,s,t,u,a,b,y,c,d,e,w,f,g,h,v,i,z,j,AAT,or_self];done)
  |exact lockRW wv.AF o some some (some false) (λ_=>rfl) rfl (λx=> !x.RW)
  |exact lockRW wv.AF o some some (some false) (λ_=>rfl) rfl (λx=>x.RW)
def YH(wv:AD)(k o:Int):IP wv k o=some (Bi wv k o):=MX wv o k
theorem Wc(l:dc)(v:Int)(a:l.length<=1000000000):∀(n i:Nat),i<=l.length->l.length<n+i->∃r,Fq.Aa l v n (i:Int)=some r/\(0<=r↔v∈l.drop i)
 |0,i,h1,h2=>ah
 |n+1,i,h1,h2=>by
  unfold Fq.Aa Fq.L1;by_cases hi:i<l.length
  . rw[A9 ah,CF hi,AAB,Aj ah,EC hi];obtain⟨r,c,b⟩:=Wc l v a n (i+1) ah ah;grind
  . rw[Ae ah,Ez hi];exact⟨-1,rfl,ak⟩
theorem Yy(l:dc)(v:Int)(b:l.length<=1000000000):Gn l v=some (l.contains v):=by obtain⟨r,c,a⟩:=Wc l v b BW 0 ah aG;rw[AAj]at a;unfold Gn Fq;simp_all
theorem fU(l:dc)(v:Int)(a:l.length<=1000000000):∀(n i:Nat),i<=l.length->l.length<n+i->GP.Aa l v n (i:Int)=some ((l.drop i).contains v)
 |0,i,h1,h2=>ah
 |n+1,i,h1,h2=>by
  unfold GP.Aa GP.L1;by_cases hi:i<l.length
  . rw[A9 ah,CF hi,AAB,Aj ah,EC hi,fU l v a n (i+1) ah ah];grind
  . rw[Ae ah,Ez hi];rfl
theorem fT(l:dc)(v:Int)(a:l.length<=1000000000):GP l v=some (l.contains v):=fU l v a BW 0 ah aG
def RB(N:Nat)(s:AP):Prop:=∀x∈s.AF,x.Ak.length<=N
theorem RB.ix(h:RB i s)(N:Int):(ix s.AF N).Ak.length<=i:=by
 unfold Abs.ix;cases hx:s.AF[N.toNat]? with
 |none=>exact Nat.zero_le _
 |some x=>exact h x (AAP hx)
def I0(wv:AD)(s:AP)(t k o:Int):Bool:=
 let me:=ix s.AA t
 if k=1 then me.Status==1
 else if k=17 then me.Status==4&&(me.Dg==o&&(ix s.AF (ix wv.Ai o).Mutex).CG== -1)
 else me.Status==2&&(
  if k=6 then(ix s.AF o).CG== -1
  else if k=10 then(ix s.AF o).CG== -1&&((ix s.AF o).Ak.length:Int)==0
  else if k=8 then(ix s.AF o).CG== -1&& !(ix s.AF o).Ak.contains t
  else if k=7\/k=11 then(ix s.AF o).CG==t
  else if k=9 then(ix s.AF o).Ak.contains t
  else if k=12 then s.Tx== -1
  else if k=13 then s.Tx==t
  else if k=14 then !me.Atomic
  else if k=15 then me.Atomic
  else if k=16\/k=18\/k=19 then(ix s.AF (ix wv.Ai o).Mutex).CG==t
  else if k=20 then o != t&&(ix s.AA o).Status==0
  else if k=21 then o != t&&(ix s.AA o).Status==5
  else if k=22 then !ix s.Bn o
  else if k=23 then ix s.Bn o
  else true)
def Bx(wv:AD)(s:AP)(t k o:Int):Bool:=GQ wv s&&(Cu t wv.AA.length&&(Bi wv k o&&I0 wv s t k o))
theorem D9(h:GQ wv s=true):s.AF.length=wv.AF.length/\s.Bn.length=wv.AK.length/\s.AA.length=wv.AA.length:=by unfold GQ at h;simp_all
theorem G1(h:GQ wv s=true)(a:Cu o wv.Ai.length=true):Cu (ix wv.Ai o).Mutex wv.AF.length=true:=by
 unfold GQ at h;simp only[AAD,AAH]at h;obtain⟨b,c⟩:=BF.1 a;have d:o.toNat<wv.Ai.length:=ah
 refine h.1 _ ?_;unfold ix;simp_all
theorem MU(wv:AD)(u:Small wv)(s:AP)(b:RB 1000000000 s)(t o:Int):∀k,Dm wv s t k o=some (Bx wv s t k o):=by
 intro k;unfold Dm Bx;rw[NO wv u,AAB];cases hf:GQ wv s with
 |false=>rfl
 |true=>
  rw[JX,AAB];cases ht:Cu t wv.AA.length with
  |false=>rfl
  |true=>
   rw[MX,AAB];cases a:Bi wv k o with
   |false=>rfl
   |true=>
    obtain⟨c,G,H⟩:=D9 hf;have q:gt s.AA t=some (ix s.AA t):=CL am;unfold Dm.J1;simp only[Bool.not_true,AAM,AAT,AAY];rw[q,AAB];revert a;have F:=b.ix o;have r:=Yy (ix s.AF o).Ak t (b.ix o);revert k;refine kinds ?_ ?_ ?_ ?_ ?_ ?_ ?_ ?_ ?_ ?_ ?_ ?_ ?_ ?_ ?_ ?_ ?_ ?_ ?_ ?_ ?_ ?_ ?_ (λk v w x y z B C D E d e K f g h J i j m I n L p=> ?_)
    all_goals
     intro a;unfold I0;simp(decide:=true)only[Bi,AA2,or_true,true_or,false_or,AAi,AAT,AAD]at a;simp(decide:=true)only[Dm.J2,Dm.J3,EK,EK.J1,EK.J2,EK.J3,EK.J4,EK.J5,EK.J6,AA4,AAR,AAi,AAT,AA2,or_true,true_or,false_or,AAM]
    all_goals first
     |done
     | (rw[CL (l:=wv.Ai) a,AAB,CL (l:=s.AF) (by rw[c];exact G1 hf a)];grind)
     | (rw[CL (l:=wv.Ai) a,AAB,CL (l:=s.AF) (by rw[c];exact G1 hf a)];grind)
     | (rw[CL (l:=s.AF) am];grind)
     | (rw[CL (l:=s.AA) am];grind)
     | (rw[CL (l:=s.Bn) am];grind)
     |grind
     |grind
     |simp_all
     |skip
theorem NV(wv:AD)(v:Small wv)(s:AP)(c:RB 1000000000 s)(t o:Int):∀k,Ch wv s t k o=some (Bx wv s t k o):=by
 intro k;unfold Ch Bx;rw[LN wv v,AAB];cases hf:GQ wv s with
 |false=>rfl
 |true=>
  rw[Yz,AAB];cases ht:Cu t wv.AA.length with
  |false=>rfl
  |true=>
   rw[YH,AAB];cases a:Bi wv k o with
   |false=>rfl
   |true=>
    obtain⟨d,I,J⟩:=D9 hf;have b:gt s.AA t=some (ix s.AA t):=CL am;unfold Ch.J1;simp only[Bool.not_true,AAM,AAT,AAY];rw[b,AAB];revert a;have H:=c.ix o;have u:=fT (ix s.AF o).Ak t (c.ix o);revert k;refine kinds ?_ ?_ ?_ ?_ ?_ ?_ ?_ ?_ ?_ ?_ ?_ ?_ ?_ ?_ ?_ ?_ ?_ ?_ ?_ ?_ ?_ ?_ ?_ (λk w y z B C D E F G e f M g h i L j m n K p N q=> ?_)
    all_goals
     intro a;unfold I0;simp(decide:=true)only[Bi,AA2,or_true,true_or,false_or,AAi,AAT,AAD]at a;simp(decide:=true)only[Ch.J2,Ch.J3,Ch.J4,Ch.J5,Ch.J6,Ch.J7,Ch.J8,AA4,AAR,AAi,AAT,AA2,or_true,true_or,false_or,AAM]
    all_goals first
     |done
     | (rw[CL (l:=wv.Ai) a,AAB,CL (l:=s.AF) (by rw[d];exact G1 hf a)];grind)
     | (rw[CL (l:=wv.Ai) a,AAB,CL (l:=s.AF) (by rw[d];exact G1 hf a)];grind)
     | (rw[CL (l:=s.AF) am];grind)
     | (rw[CL (l:=s.AA) am];grind)
     | (rw[CL (l:=s.Bn) am];grind)
     |grind
     | (simp only[b,AAB];generalize (ix s.AA t).Status=x;by_cases r:x=2<;>simp[r];done)
     |simp_all
     |skip
theorem fX(l:dc)(x:Int)(m:l.length<=1000000000):∀(n i:Nat),i<=l.length->l.length<n+i->(∀(k:Nat)(g:k<l.length),k<i->l[k]<x)->EW.Aa l x n (i:Int)=some (ins l x)
 |0,i,h1,h2,_=>ah
 |n+1,i,h1,h2,h3=>by
  unfold EW.Aa EW.L1;have step:∀(b:Bool),(∀(hi:i<l.length),b=decide (l[i]<x))->(¬i<l.length->b=false)->EW.J1 (EW.Aa l x n) (i:Int) l x b=some (ins l x):=by
   intro b f o;unfold EW.J1;by_cases hi:i<l.length
   . rw[f hi];by_cases d:l[i]<x
     . rw[A9 d,Aj ah];refine fX l x m n (i+1) ah ah λk g j=> ?_;grind
     . rw[Ae d];have c:=aI l x i h1 h3 (λ_=>d);unfold EW.J2 EW.J3 ins;rw[A9 ah,CF hi,AAB,c,AAJ hi];by_cases e:l[i]=x
       . simp[e]
       . have:(l[i]==x)=false:=(by simpa using e);rw[this,AAK ak,AAz,AAL ⟨ah,ah⟩,BV an,BV an,AAL ⟨ah,ah⟩,BV an,AAK bg];have p:(l.drop i).take (l.length-i)=l.drop i:=AAq am;grind
   . rw[o hi,AAK ak];have c:=aI l x i h1 h3 (λh=>absurd h hi);have a:i=l.length:=ah;unfold EW.J2 EW.J3 ins;rw[Ae ah,AAK ak,c,AAz,AAL ⟨ah,ah⟩,BV an,BV an,AAL ⟨ah,ah⟩,BV an,AAK (by simp[a])];simp_all
  by_cases hi:i<l.length
  . rw[A9 ah,CF hi,AAB];grind
  grind
theorem Put_eq(l:dc)(x:Int)(a:l.length<=1000000000):EW l x=some (ins l x):=fX l x a BW 0 ah aG (λk b h=>ah)
theorem Union.L2(b:dc):∀(n i:Nat)(out:dc),i<=b.length->b.length<n+i->out.length+b.length<=1000000000+i->b.length<=1000000000->D8.DF b n out (i:Int)=some ((b.drop i).foldl ins out)
 |0,i,out,h1,h2,h3,h4=>ah
 |n+1,i,out,h1,h2,h3,h4=>by
  unfold D8.DF D8.L2;by_cases hi:i<b.length
  . have a:=XY out b[i];rw[A9 ah,CF hi,AAB,Put_eq _ _ ah,AAB,Aj ah,Union.L2 b n (i+1) _ ah ah ah h4,EC hi,List.foldl_cons]
  . rw[Ae ah,Ez hi];rfl
theorem Union.L1(a b:dc)(c:a.length+b.length<=1000000000):∀(n i:Nat)(out:dc),i<=a.length->a.length<n+i->out.length<=i->D8.Aa a b n out (i:Int)=some (b.foldl ins ((a.drop i).foldl ins out))
 |0,i,out,h1,h2,h3=>ah
 |n+1,i,out,h1,h2,h3=>by
  unfold D8.Aa D8.L1;by_cases hi:i<a.length
  . have d:=XY out a[i];rw[A9 ah,CF hi,AAB,Put_eq _ _ ah,AAB,Aj ah,Union.L1 a b c n (i+1) _ ah ah ah,EC hi,List.foldl_cons]
  . rw[Ae ah,Ez hi];unfold D8.J1
    have:=Union.L2 b BW 0 out ah aG ah ah;simp_all
theorem fZ(a b:dc)(c:a.length+b.length<=1000000000):D8 a b=some (Od (a++b)):=by have:=Union.L1 a b c BW 0 [] ah aG ak;rw[AAj,<- List.foldl_append]at this;refine Eq.trans this ?_;rw[<- xH];rfl
theorem OK(l:dc)(x:Int)(c:l.length<=1000000000):∀(n i:Nat)(out:dc),i<=l.length->l.length<n+i->out.length<=i->EA.Aa l x n out (i:Int)=some (out++(l.drop i).filter λy=> !(y==x))
 |0,i,out,h1,h2,h3=>ah
 |n+1,i,out,h1,h2,h3=>by
  unfold EA.Aa EA.L1;by_cases hi:i<l.length
  . unfold EA.J1;rw[A9 ah,CF hi,AAB,EC hi,List.filter_cons,Aj ah];by_cases e:l[i]=x
    . have a:(l[i] != x)=false:=(by simp[e]);have b:(!(l[i]==x))=false:=(by simp[e]);rw[a,b,AAK ak,AAK ak];exact OK l x c n (i+1) out ah ah ah
    . have a:(l[i] != x)=true:=(by simpa using e);have b:(!(l[i]==x))=true:=(by simpa using e);rw[a,b,AAL rfl,AAL rfl,BV ah,OK l x c n (i+1) _ ah ah an];simp
  . rw[Ae ah,Ez hi];simp[EA.J2]
theorem rB(l:dc)(x:Int)(a:l.length<=1000000000):EA l x=some (l.filter λy=> !(y==x)):=by have:=OK l x a BW 0 [] ah aG ak;rw[AAj]at this;exact this
def I3(x:AH)(o:Int):Bool:=x.Status==3&&x.Dg==o
def CQ(o:Int):Nat->List AH->List Int
 |_,[]=>[]
 |i,x::r=>if I3 x o=true then(i:Int)::CQ o (i+1) r else CQ o (i+1) r
theorem Tz(o:Int)(T:ep):∀i,(CQ o i T).length<=T.length:=by
 induction T with
 |nil=>intro i;simp[CQ]
 |cons x r ih=>
  intro i
  have:=ih (i+1);unfold CQ;grind
theorem Ij(o:Int)(T:ep):∀(i:Nat)(u:Int),u∈CQ o i T->(i:Int)<=u/\u<((i+T.length:Nat):Int):=by
 induction T with
 |nil=>intro i u h;simp[CQ]at h
 |cons x r ih=>intro i u h;unfold CQ at h;grind
theorem l8(x:AH)(o:Int):Fk x o=some (I3 x o):=by unfold Fk Fk.J1 I3;grind
theorem Nf(s:AP)(o:Int)(a:s.AA.length<=1000):∀(n i:Nat)(l:dc),i<=s.AA.length->s.AA.length<n+i->l.length<=i->C4.Aa o s n l (i:Int)=some (l++CQ o i (s.AA.drop i))
 |0,i,l,h1,h2,h3=>ah
 |n+1,i,l,h1,h2,h3=>by
  unfold C4.Aa C4.L1;by_cases hi:i<s.AA.length
  . unfold C4.J1 C4.J2;rw[A9 ah,CF hi,AAB,EC hi,CQ,Aj ah,BV ah];have b:=Nf s o a n (i+1) (l++[(i:Int)]) ah ah an;have c:=Nf s o a n (i+1) l ah ah ah;unfold I3;grind
  . rw[Ae ah,Ez hi];simp[C4.J3,CQ]
theorem Wk(s:AP)(o:Int)(a:s.AA.length<=1000):C4 s o=some (CQ o 0 s.AA):=by have:=Nf s o a BW 0 [] ah aG ak;rw[AAj]at this;exact this
def MG(wake:Int):Int->List Int->Int
 |c,[]=>c
 |c,w::r=>MG wake (if c<0\/w=wake then w else c) r
theorem iH(wake:Int)(W:dc)(a:∀w∈W,0<=w):∀c,0<=c->MG wake c W=if W.contains wake=true then wake else c:=by
 induction W with
 |nil=>intro c _;simp[MG]
 |cons w r ih=>intro c b;have d:=ih (λw h=>a w (ABN _ h));unfold MG;grind
def Es(wake:Int)(W:dc):Int:=if W=[]then -1 else if W.contains wake=true then wake else W.headD 0
theorem oK(wake:Int)(W:dc)(a:∀w∈W,0<=w):MG wake (-1) W=Es wake W:=by
 cases W with
 |nil=>rfl
 |cons w r=>unfold MG Es;rw[AAL (.inl ah),iH wake r (λw h=>a w (ABN _ h)) w (a w (ABD ..)),AAK (c:=w::r=[]) ak];grind
theorem Ux(T:ep)(o wake:Int)(a:T.length<=1000):∀(n i:Nat)(c:Int),i<=T.length->T.length<n+i->DJ.Aa o T wake n c (i:Int)=DJ.J3 T (MG wake c (CQ o i (T.drop i)))
 |0,i,c,h1,h2=>ah
 |n+1,i,c,h1,h2=>by
  unfold DJ.Aa DJ.L1;by_cases hi:i<T.length
  . unfold DJ.J1 DJ.J2;rw[A9 ah,CF hi,AAB,l8,AAB,EC hi,CQ,Aj ah];have b:=λc=>Ux T o wake a n (i+1) c ah ah;simp only[b];cases I3 T[i] o with
    |false=>simp
    |true=>simp only[AAi,MG];grind
  . rw[Ae ah,Ez hi];rfl
def IY(x:AH):AH:=⟨4,x.Dg,x.Atomic⟩
def Iv(o:Int)(x:AH):AH:=if I3 x o=true then IY x else x
theorem x7(tx:Int)(T:ep)(o wake:Int)(a:T.length<=1000):DJ tx T o wake=some (Es wake (CQ o 0 T),if CQ o 0 T=[]then T else T.set (Es wake (CQ o 0 T)).toNat (IY (ix T (Es wake (CQ o 0 T))))):=by
 have h:=Ux T o wake a BW 0 (-1) ah aG;rw[AAj,oK _ _ (λw c=>(Ij o T 0 w c).1)]at h;refine Eq.trans h ?_;unfold DJ.J3 DJ.J4;by_cases e:CQ o 0 T=[]
 . rw[e];simp[Es]
 . have b:Es wake (CQ o 0 T)∈CQ o 0 T:=by
    unfold Es;rw[AAK e];split
    . simp_all
    . cases hW:CQ o 0 T with
      |nil=>simp_all
      |cons w r=>simp
   have d:=Ij o T 0 _ b;rw[AAK e,A9 ah,CL (BF.2 ah)];rfl
theorem Lk(T:ep)(o:Int)(d:T.length<=1000):∀(n i:Nat)(c:Nat),i<=T.length->T.length<n+i->c<=i->
 DB.Aa o T n ((T.take i).map (Iv o)++T.drop i) (c:Int) (i:Int)=some (((c+(CQ o i (T.drop i)).length:Nat):Int),T.map (Iv o))
 |0,i,c,h1,h2,_=>ah
 |n+1,i,c,h1,h2,h3=>by
  unfold DB.Aa DB.L1;by_cases hi:i<T.length
  . have a:((T.take i).map (Iv o)).length=i:=an;have f:gt ((T.take i).map (Iv o)++T.drop i) (i:Int)=some T[i]:=(by rw[JI,AAa (by omega),a,Nat.sub_self,EC hi];rfl);unfold DB.J1;rw[A9 ah,f,AAB,l8,AAB,Aj (i:=i) ah,Aj (i:=c) ah,AAz];have b:∀y,y=Iv o T[i]->(T.take i).map (Iv o)++y::T.drop (i+1)=(T.take (i+1)).map (Iv o)++T.drop (i+1):=(by rintro y rfl;rw[<- AAX hi,AAp];simp);have g:((T.take i).map (Iv o)++T.drop i).set i (AH.mk 4 T[i].Dg T[i].Atomic)=(T.take i).map (Iv o)++AH.mk 4 T[i].Dg T[i].Atomic::T.drop (i+1):=(by rw[List.set_append_right _ _ (by omega),a,Nat.sub_self,EC hi];rfl);have e:(T.take i).map (Iv o)++T.drop i=(T.take i).map (Iv o)++T[i]::T.drop (i+1):=(by rw[<- EC hi]);rw[g,e,EC hi,CQ];cases hw:I3 T[i] o with
    |true=>rw[AAL rfl,AAL rfl,b _ (by simp[Iv,hw,IY]),Lk T o d n (i+1) (c+1) ah ah ah];grind
    |false=>rw[AAK ak,AAK ak,b _ (by simp[Iv,hw]),Lk T o d n (i+1) c ah ah ah]
  . rw[Ae ah,Ez hi,AAq ah];simp[DB.J2,CQ]
theorem dS(tx:Int)(T:ep)(o:Int)(a:T.length<=1000):DB tx T o=some (((CQ o 0 T).length:Int),T.map (Iv o)):=by have:=Lk T o a BW 0 0 ah aG ah;simp only[List.take_zero,AAm,AAj,List.nil_append,ABM]at this;exact this
structure VL (s:AP):Prop where
 l:s.AF.length<=1000
 d:s.Bn.length<=1000
 t:s.AA.length<=1000
 r:RB 1000000 s
theorem W6(s:AP)(b:VL s):∀(n i:Nat),i<=s.AF.length->s.AF.length<n+i->
 EJ.Aa s n (s.AF.take i++List.replicate (s.AF.length-i) ⟨0,[]⟩) (i:Int)=some s
 |0,i,h1,h2=>ah
 |n+1,i,h1,h2=>by
  have:=b.l;have:=b.d;have:=b.t;unfold EJ.Aa EJ.L1;by_cases hi:i<s.AF.length
  . have a:(s.AF.take i).length=i:=an;have e:List.replicate (s.AF.length-i) (AW.mk 0 [])=AW.mk 0 []::List.replicate (s.AF.length-(i+1)) (AW.mk 0 []):=(by rw[show s.AF.length-i=(s.AF.length-(i+1))+1 from by omega,List.replicate_succ]);have c:gt (s.AF.take i++List.replicate (s.AF.length-i) (AW.mk 0 [])) (i:Int)=some ⟨0,[]⟩:=(by rw[JI,e,AAa (by omega),a];simp);have f:(s.AF.take i++List.replicate (s.AF.length-i) (AW.mk 0 [])).set i s.AF[i]=s.AF.take (i+1)++List.replicate (s.AF.length-(i+1)) (AW.mk 0 []):=(by rw[e,List.set_append_right _ _ (by omega),a,Nat.sub_self,List.set_cons_zero,<- AAX hi,ABG];rfl);have g:=b.r _ (AAS hi);unfold slices_Clone_int;rw[A9 ah,CF hi,AAB,BV ah,AAB,c,AAB,Aj ah,AAz];show EJ.Aa s n ((s.AF.take i++List.replicate (s.AF.length-i) (AW.mk 0 [])).set i s.AF[i]) _=_;rw[f];exact W6 s b n (i+1) ah ah
  . rw[Ae ah,AAq ah,show s.AF.length-i=0 from by omega];unfold EJ.J1 I4 FV;rw[BV ah,AAB,BV ah,AAB];simp
theorem clone_eq(s:AP)(a:VL s):EJ s=some s:=by have:=a.l;unfold EJ;rw[AAL ⟨ah,ah,Bm ah⟩];have h:=W6 s a BW 0 ah aG;simp_all
theorem Zl(s:AP)(a:VL s)(tx:Int)(D:eb)(T:ep):∀(n i:Nat),i<=s.AF.length->s.AF.length<n+i->
 GM.Aa s n ⟨s.AF.take i,tx,D,T⟩ (i:Int)=some ⟨s.AF,tx,D,T⟩
 |0,i,h1,h2=>ah
 |n+1,i,h1,h2=>by
  have:=a.l;unfold GM.Aa GM.L1;by_cases hi:i<s.AF.length
  . have b:=a.r _ (AAS hi);rw[A9 ah,CF hi,AAB,BV ah,BV an,Aj ah];simp only[AAX hi];exact Zl s a tx D T n (i+1) ah ah
  . rw[Ae ah,AAq ah];rfl
theorem rF(s:AP)(a:VL s):GM s=some s:=by have:=a.l;have:=a.d;have:=a.t;unfold GM;rw[BV ah,BV ah];exact Zl s a s.Tx s.Bn s.AA BW 0 ah aG
def KH(s:AP)(i:Int)(f:AH->AH):AP:=⟨s.AF,s.Tx,s.Bn,s.AA.set i.toNat (f (ix s.AA i))⟩
def KG(s:AP)(i:Int)(f:AW->AW):AP:=⟨s.AF.set i.toNat (f (ix s.AF i)),s.Tx,s.Bn,s.AA⟩
def DH(wv:AD)(s:AP)(t k o wake:Int):AP×Int:=
 if k=1 then(KH s t λx=>⟨2,x.Dg,x.Atomic⟩,0)
 else if k=2 then(KH s t λx=>⟨5,x.Dg,x.Atomic⟩,0)
 else if k=6\/k=10 then(KG s o λx=>⟨t,x.Ak⟩,0)
 else if k=7\/k=11 then(KG s o λx=>⟨-1,x.Ak⟩,0)
 else if k=8 then(KG s o λx=>⟨x.CG,Od (x.Ak++[t])⟩,0)
 else if k=9 then(KG s o λx=>⟨x.CG,x.Ak.filter λy=> !(y==t)⟩,0)
 else if k=12 then(⟨s.AF,t,s.Bn,s.AA⟩,0)
 else if k=13 then(⟨s.AF, -1,s.Bn,s.AA⟩,0)
 else if k=14 then(KH s t λx=>⟨x.Status,x.Dg,true⟩,0)
 else if k=15 then(KH s t λx=>⟨x.Status,x.Dg,false⟩,0)
 else if k=16 then(KH (KG s (ix wv.Ai o).Mutex λx=>⟨-1,x.Ak⟩) t λx=>⟨3,o,x.Atomic⟩,0)
 else if k=17 then(KH (KG s (ix wv.Ai o).Mutex λx=>⟨t,x.Ak⟩) t λx=>⟨2,0,x.Atomic⟩,0)
 else if k=18 then(if CQ o 0 s.AA=[]then s else KH s (Es wake (CQ o 0 s.AA)) IY,Es wake (CQ o 0 s.AA))
 else if k=19 then(⟨s.AF,s.Tx,s.Bn,s.AA.map (Iv o)⟩,((CQ o 0 s.AA).length:Int))
 else if k=20 then(KH s o λx=>⟨1,x.Dg,x.Atomic⟩,0)
 else if k=22 then(⟨s.AF,s.Tx,s.Bn.set o.toNat true,s.AA⟩,0)
 else(s,0)
def oR:AP:=⟨[],0,[],[]⟩
def NA(wv:AD)(s:AP)(t k o wake:Int):AP×Int×Bool:=if Bx wv s t k o=true then((DH wv s t k o wake).1,(DH wv s t k o wake).2,true)else(oR,0,false)
theorem Yg(b:Cu t g.length=true)(a:AH):gt (g.set t.toNat a) t=some a:=by
 obtain⟨c,d⟩:=BF.1 b;have:t.toNat<g.length:=ah
 unfold gt;simp_all
theorem VL.of(a:Small wv)(b:GQ wv s=true)(c:RB 1000000 s):VL s:=by
 obtain⟨d,e,g⟩:=D9 b
 have:=a.l;have:=a.f;have:=a.t;exact⟨ah,ah,ah,c⟩
def RB.mono(h:RB i s)(a:i<=n):RB n s:=λx b=>AA5 (h x b) a
theorem Sort_eq(l:dc)(a:l.length<=1000000000):LP l=some (Qz l):=by unfold LP;rw[AAL ah];rfl
theorem mN(l:dc)(a:l.length<=1000000000):slices_Compact l=some (Lib.compact l):=by unfold slices_Compact;grind
theorem Vc(wv:AD)(n:Small wv)(s:AP)(g:RB 1000000 s)(t o wake:Int):∀k,E3 wv s t k o wake=some (NA wv s t k o wake):=by
  intro k;unfold E3 NA;rw[MU wv n s (g.mono ah),AAB];cases he:Bx wv s t k o with
  |false=>rfl
  |true=>
    have a:=he;unfold Bx at a;simp only[AAD]at a;obtain⟨f,H,c,d⟩:=a;obtain⟨I,T,J⟩:=D9 f;have b:=VL.of n f g;have j:Cu t s.AA.length=true:=(by rw[J];exact H);have m:gt s.AA t=some (ix s.AA t):=CL j;have e:=Yg j;have G:=g.ix o;have i:(Qz ((ix s.AF o).Ak++[t])).length<=1000000000:=(by rw[Sy];simp;omega);have E:=x7 s.Tx s.AA o wake b.t;have D:=dS s.Tx s.AA o b.t;rw[clone_eq s b,AAB,AAK ak];clear he;revert c d;revert k;refine kinds ?_ ?_ ?_ ?_ ?_ ?_ ?_ ?_ ?_ ?_ ?_ ?_ ?_ ?_ ?_ ?_ ?_ ?_ ?_ ?_ ?_ ?_ ?_ (λk K L M N O P Q R S q r W u v w V x y z U B X C=> ?_)
    all_goals
      intro c d;unfold DH;simp(decide:=true)only[Bi,AA2,or_true,true_or,false_or,AAi,AAT,AAD]at c;simp(decide:=true)only[E3.J1,E3.J2,E3.J3,AA4,AAR,AAi,AAT,AA2,or_true,true_or,false_or,AAM]
    all_goals first
      |done
      | (rw[m,AAB];rfl)
      | (rw[CL (l:=s.AF) am,AAB];rfl)
      | (rw[CL (l:=s.AF) am,AAB,BV ah,Sort_eq _ an,AAB,mN _ i,AAB];rfl)
      | (rw[CL (l:=s.AF) am,AAB]
         unfold IU;have p:(ix s.AF o).Ak≠[]:=(by intro h;simp(decide:=true)only[I0,AAi,AAT,AA2,or_true,true_or,false_or,h,List.contains_nil,Bool.and_false,AAM]at d);rw[AAL ⟨p,ah⟩,AAB];rfl)
      | (rw[CL (l:=wv.Ai) c,AAB,CL (l:=s.AF) (by rw[I];exact G1 f c),AAB,m,AAB,e,AAB];simp only[List.set_set];rfl)
      | (rw[E,AAB];simp only;by_cases F:CQ o 0 s.AA=[]<;>simp only[F,AAi,AAT]<;>rfl)
      | (rw[D,AAB];done)
      | (rw[CL (l:=s.AA) am,AAB];rfl)
      | (rw[CL (l:=s.Bn) am,AAB];done)
      |rfl
      |simp_all
      |skip
theorem setAll(o:Int)(a:ep):∀(pre:ep),(CQ o pre.length a).foldl (λT (u:Int)=>T.set u.toNat (IY (ix T u))) (pre++a)=pre++a.map (Iv o):=by
 induction a with
 |nil=>intro pre;simp[CQ]
 |cons x r ih=>
  intro pre;unfold CQ;have c:ix (pre++x::r) ((pre.length:Nat):Int)=x:=by unfold ix;rw[AAz,AAa (AAe _)];simp
  have b:=λy=>ih (pre++[y]);simp only[AAr,AA8,ABK,ABM,ABG,List.singleton_append]at b;cases hw:I3 x o with
  |true=>rw[AAL rfl,List.foldl_cons,c,AAz,List.set_append_right _ _ (AAe _),Nat.sub_self,List.set_cons_zero,b];simp[Iv,hw]
  |false=>rw[AAK ak,b];simp[Iv,hw]
theorem Uz(W:dc)(a:W.length<=1000000):∀(n i:Nat)(s:AP),i<=W.length->W.length<n+i->(∀u∈W,Cu u s.AA.length=true)->
 DN.Aa W n s (i:Int)=some (⟨s.AF,s.Tx,s.Bn,(W.drop i).foldl (λT (u:Int)=>T.set u.toNat (IY (ix T u))) s.AA⟩,(W.length:Int),true)
 |0,i,s,h1,h2,_=>ah
 |n+1,i,s,h1,h2,h3=>by
  unfold DN.Aa DN.L1;by_cases hi:i<W.length
  . rw[A9 ah,CF hi,AAB,CL (h3 _ (AAS hi)),AAB,Aj ah,Uz W a n (i+1) _ ah ah am,EC hi,List.foldl_cons];rfl
  . rw[Ae ah,Ez hi];rfl
theorem NT(wv:AD)(G:Small wv)(s:AP)(z:RB 1000000 s)(t o wake:Int):∀k,DN wv s t k o wake=some (NA wv s t k o wake):=by
 intro k;unfold DN NA;rw[NV wv G s (z.mono ah),AAB];cases he:Bx wv s t k o with
 |false=>rfl
 |true=>
  have a:=he;unfold Bx at a;simp only[AAD]at a;obtain⟨y,V,d,B⟩:=a;obtain⟨W,l2,X⟩:=D9 y;have b:=VL.of G y z;have C:Cu t s.AA.length=true:=by rw[X];exact V
  have D:gt s.AA t=some (ix s.AA t):=CL C;have x:=Yg C;have U:=z.ix o;have R:=Wk s o b.t;have S:=Tz o s.AA 0;have T:=b.t;rw[rF s b,AAB,AAK ak];clear he;revert d B;revert k;refine kinds ?_ ?_ ?_ ?_ ?_ ?_ ?_ ?_ ?_ ?_ ?_ ?_ ?_ ?_ ?_ ?_ ?_ ?_ ?_ ?_ ?_ ?_ ?_ (λk H I J K L M N O P f g rY h i j oQ m n p Z q v7 v=> ?_)
  all_goals
   intro d B;unfold DH;simp(decide:=true)only[Bi,AA2,or_true,true_or,false_or,AAi,AAT,AAD]at d;simp(decide:=true)only[DN.J1,DN.J2,DN.J5,AA4,AAR,AAi,AAT,AA2,or_true,true_or,false_or,AAM]
  all_goals first
   |done
   | (rw[D,AAB];rfl)
   | (rw[CL (l:=s.AF) am,AAB];rfl)
   | (rw[CL (l:=s.AF) am,AAB,fZ _ _ an,AAB];rfl)
   | (rw[CL (l:=s.AF) am,AAB,rB _ _ ah,AAB];rfl)
   | (rw[CL (l:=wv.Ai) d,AAB,CL (l:=s.AF) (by rw[W];exact G1 y d),AAB,D,AAB,x,AAB];simp only[List.set_set];rfl)
   | (rw[CL (l:=s.AA) am,AAB];rfl)
   | (rw[CL (l:=s.Bn) am,AAB];done)
   |rfl
   | (exfalso;revert d;simp only[H,I,J,K,L,M,N,O,P,f,g,rY,h,i,j,oQ,m,n,p,Z,q,v7,v,AAT,or_self,AAM,imp_self];done)
   |skip
  . -- a notification
    rw[R,AAB];cases hWW:CQ o 0 s.AA with
    |nil=>rfl
    |cons w r=>
     have E:(w::r).length<=1000:=(by rw[<- hWW];omega);have e:∀u,u∈w::r->Cu u s.AA.length=true:=λu F=>(by have:=Ij o s.AA 0 u (by simp_all);exact BF.2 (by omega));have Q:gt (w::r) 0=some w:=rfl;rw[A9 am,Q,AAB,fT _ _ ah,AAB];unfold DN.J3 DN.J5 Es;rw[AAK (c:=w::r=[]) ak,AAK (c:=w::r=[]) ak];cases hc:(w::r).contains wake with
     |true=>rw[AAL rfl,CL (e wake am),AAB];rfl
     |false=>rw[AAK ak,CL (e w (ABD ..)),AAB];rfl
  . -- of all
    have e:∀u,u∈CQ o 0 s.AA->Cu u s.AA.length=true:=λu F=>(by have:=Ij o s.AA 0 u F;exact BF.2 (by omega));have h1:=Uz (CQ o 0 s.AA) ah BW 0 s ah aG e;have h2:=setAll o s.AA [];simp_all
instance:Inhabited AP:=⟨oR⟩
def Nr:AB:=⟨oR,[],[],[]⟩
def I6(ev:AG):Prop:=ev.Dw.length<4611686018427387904/\ev.DM.length<4611686018427387904
def MY(wv:AD)(ev:AG):Bool:=if ev.Kind=1\/ev.Kind=2 then ev.Site== -1 else Cu ev.Site wv.BU.length&&(ix wv.BU ev.Site).Thread==ev.Thread
def Fi(c:Int):Int->List Int->Bool
 |_,[]=>true
 |last,x::r=>decide (last<x)&&(decide (x<c)&&Fi c x r)
def OO(wv:AD)(ev:AG):Bool:=if ev.Kind=3\/ev.Kind=4 then(ix wv.Cells ev.Obj).Bq != 0 else false
def ES(wv:AD)(s:AB)(ev:AG):Bool:=
 ((ev.Dw.isEmpty||(ev.Kind==5||OO wv ev))&&Fi (ix s.Count ev.Thread) 0 ev.Dw)&&((ev.DM.isEmpty||(ev.Kind==4||ev.Kind==22))&&Fi (ix s.Count ev.Thread) 0 ev.DM)
def G9(s:AB)(ev:AG):Bool:=
 if ev.Kind=3 then ev.Value==ix s.Cells ev.Obj
 else if ev.Kind=23 then ev.Value==ix s.AK ev.Obj
 else if ev.Kind=5 then ev.Value==0||ev.Value==1
 else if ev.Kind=4\/ev.Kind=22 then true
 else if ev.Kind=18 then(CQ ev.Obj 0 s.Sync.AA).contains ev.Value||((CQ ev.Obj 0 s.Sync.AA).isEmpty&&ev.Value== -1)
 else if ev.Kind=19 then ev.Value==((CQ ev.Obj 0 s.Sync.AA).length:Int)
 else ev.Value==0
theorem yE(wv:AD)(ev:AG):DW wv ev=some (MY wv ev):=by
 unfold DW DW.J1 MY;by_cases d:ev.Kind=1
 . simp[d]
 . by_cases e:ev.Kind=2
   . simp[e]
   . have f:(ev.Kind==1)=false:=(by simpa using d);have g:(ev.Kind==2)=false:=(by simpa using e);rw[f,g,AAK (c:=ev.Kind=1\/ev.Kind=2) ah];simp only[AAM,AAT];unfold DW.J2;by_cases a:ev.Site>=0
     . by_cases b:ev.Site<(wv.BU.length:Int)
       . have hi:Cu ev.Site wv.BU.length=true:=BF.2 ⟨a,b⟩;rw[A9 a,A9 b,CL hi,AAB,hi];rfl
       . have:Cu ev.Site wv.BU.length=false:=bn;grind
     . have:Cu ev.Site wv.BU.length=false:=bn;grind
theorem dec.L2(L1:df)(ev:AG)(l:dc)(s:AB)(t:Int)(b:gt s.Count ev.Thread=some (ix s.Count ev.Thread))(c:l.length<4611686018427387904):∀(n i:Nat)(a:Int),i<=l.length->l.length<n+i->
 Ab.DF L1 ev l s t n a (i:Int)=if Fi (ix s.Count ev.Thread) a (l.drop i)=true then Ab.J6 L1 t else some false
 |0,i,a,h1,h2=>ah
 |n+1,i,a,h1,h2=>by
  unfold Ab.DF Ab.L2;by_cases hi:i<l.length
  . unfold Ab.J5;rw[A9 ah,CF hi,AAB,b,EC hi,Aj ah,dec.L2 L1 ev l s t b c n (i+1) _ ah ah];generalize l[i]=x;rw[Fi];grind
  . rw[Ae ah,Ez hi];simp[Fi]
theorem Wy:BW=(BW-3)+3:=rfl
theorem det.J4(L1:df)(ev:AG)(l:dc)(s:AB)(t:Int)(a:gt s.Count ev.Thread=some (ix s.Count ev.Thread))(c:l.length<4611686018427387904)(b:Bool):
 Ab.J4 L1 ev l s t b=if(!b&&Fi (ix s.Count ev.Thread) 0 l)=true then Ab.J6 L1 t else some false:=by
 unfold Ab.J4;cases b with
 |true=>simp
 |false=>have:=dec.L2 L1 ev l s t a c BW 0 0 ah aG;simp_all
theorem det.J2(wv:AD)(s:AB)(ev:AG)(g:I6 ev)(e:gt s.Count ev.Thread=some (ix s.Count ev.Thread))(a b:Bool):
 Ab.J2 ev s a b=some (((ev.Dw.isEmpty||a)&&Fi (ix s.Count ev.Thread) 0 ev.Dw)&&((ev.DM.isEmpty||b)&&Fi (ix s.Count ev.Thread) 0 ev.DM)):=by
 unfold Ab.J2;rw[Wy];generalize BW-3=m;have i:Ab.Aa a b ev s (m+1) 2=some true:=by unfold Ab.Aa Ab.L1;rfl
 have d:∀(L1:df)(t:Int)(l:dc)(c:Bool),l.length<4611686018427387904->(t=0/\c=a\/t=1/\c=b)->Ab.J3 L1 a b ev s t l=if((l.isEmpty||c)&&Fi (ix s.Count ev.Thread) 0 l)=true then Ab.J6 L1 t else some false:=by
  intro L1 t l c f j;unfold Ab.J3;rw[det.J4 _ _ _ _ _ e f,det.J4 _ _ _ _ _ e f,det.J4 _ _ _ _ _ e f];cases l with
  |nil=>simp
  |cons x r=>grind
 have h:Ab.Aa a b ev s (m+2) 1=some ((ev.DM.isEmpty||b)&&Fi (ix s.Count ev.Thread) 0 ev.DM):=by unfold Ab.Aa Ab.L1;rw[A9 aS,AAK aS,AAL aS,d _ 1 ev.DM b g.2 (.inr ⟨rfl,rfl⟩)];unfold Ab.J6;rw[show BA (1+1)=2 from rfl,i];cases((ev.DM.isEmpty||b)&&Fi (ix s.Count ev.Thread) 0 ev.DM)<;>rfl
 unfold Ab.Aa Ab.L1;rw[A9 aS,AAL aS,d _ 0 ev.Dw a g.1 (.inl ⟨rfl,rfl⟩)];unfold Ab.J6;rw[show BA (0+1)=1 from rfl,h];grind
theorem ZA(wv:AD)(s:AB)(ev:AG)(f:I6 ev)(d:gt s.Count ev.Thread=some (ix s.Count ev.Thread))(g:ev.Kind=3\/ev.Kind=4->Cu ev.Obj wv.Cells.length=true):Ab wv s ev=some (ES wv s ev):=by
 have a:∀e,e=OO wv ev->Ab.J1 ev s e=some (ES wv s ev):=by
  intro e h;unfold Ab.J1 ES;rw[det.J2 wv s ev f d,det.J2 wv s ev f d,det.J2 wv s ev f d,det.J2 wv s ev f d,h];by_cases i:ev.Kind=5
  . simp[i]
  . grind
 unfold Ab;by_cases b:ev.Kind=3
 . rw[AAL (by simp[b]),CL (g (.inl b)),AAB];exact a _ (by simp[OO,b])
 . rw[AAK am];by_cases c:ev.Kind=4
   . rw[AAL (by simp[c]),CL (g (.inr c)),AAB];exact a _ (by simp[OO,c])
   . rw[AAK am];exact a _ (by simp[OO,b,c])
theorem Yq.L1(ev:AG)(s:AB)(f:s.Sync.AA.length<=1000):∀(n i w:Nat)(b:Bool),i<=s.Sync.AA.length->s.Sync.AA.length<n+i->w<=i->
 A4.Aa ev s n (w:Int) b (i:Int)=some ((b||(CQ ev.Obj i (s.Sync.AA.drop i)).contains ev.Value)||((w+(CQ ev.Obj i (s.Sync.AA.drop i)).length==0)&&ev.Value== -1))
 |0,i,w,b,h1,h2,h3=>ah
 |n+1,i,w,b,h1,h2,h3=>by
  unfold A4.Aa A4.L1;by_cases hi:i<s.Sync.AA.length
  . unfold A4.J3 A4.J4;rw[A9 ah,CF hi,AAB,EC hi,CQ,Aj (i:=i) ah,Aj (i:=w) ah];have a:=λ(w':Nat) b' h=>Yq.L1 ev s f n (i+1) w' b' ah ah h;rw[a (w+1) true ah,a (w+1) (ev.Value==(i:Int)) ah,a w b ah];unfold I3;have c:∀m:Nat,(w+1+m==0)=false:=λm=>ak;have d:∀m:Nat,(w+(m+1)==0)=false:=λm=>ak;have e:(ev.Value==(i:Int))=decide (ev.Value=(i:Int)):=rfl;cases(s.Sync.AA[i].Status==3)<;>cases(s.Sync.AA[i].Dg==ev.Obj)<;>cases b<;>simp[c,d,e]
  . rw[Ae ah,Ez hi];unfold A4.J5 A4.J6;have:((w:Int)==0)=(w==0):=(by rw[ABa,AAR,AAR];omega);rw[this];simp only[CQ,List.contains_nil,ABK,Nat.add_zero,Bool.or_false];grind
theorem Yq.L2(ev:AG)(s:AB)(b:s.Sync.AA.length<=1000):∀(n i w:Nat),i<=s.Sync.AA.length->s.Sync.AA.length<n+i->w<=i->
 A4.DF ev s n (w:Int) (i:Int)=some (ev.Value==((w+(CQ ev.Obj i (s.Sync.AA.drop i)).length:Nat):Int))
 |0,i,w,h1,h2,h3=>ah
 |n+1,i,w,h1,h2,h3=>by
  unfold A4.DF A4.L2;by_cases hi:i<s.Sync.AA.length
  . unfold A4.J7 A4.J8;rw[A9 ah,CF hi,AAB,EC hi,CQ,Aj (i:=i) ah,Aj (i:=w) ah];have a:=λ(w':Nat) h=>Yq.L2 ev s b n (i+1) w' ah ah h;rw[a (w+1) ah,a w ah];unfold I3;grind
  . rw[Ae ah,Ez hi];simp[A4.J9,CQ]
theorem jU(l:List a):(0+l.length==0)=l.isEmpty:=bg
theorem zK(s:AB)(ev:AG)(f:s.Sync.AA.length<=1000)(g:ev.Kind=3->Cu ev.Obj s.Cells.length=true)(a:ev.Kind=23->Cu ev.Obj s.AK.length=true):A4 s ev=some (G9 s ev):=by
 have d:=Yq.L1 ev s f BW 0 0 false ah aG ah;have e:=Yq.L2 ev s f BW 0 0 ah aG ah;rw[AAj,jU]at d;rw[AAj,ABM]at e;simp only[Int.natCast_zero,Bool.false_or]at d e;unfold A4 A4.J1 A4.J2 A4.Oz G9;by_cases b:ev.Kind=3
 . rw[AAL (by simp[b]),CL (g b),AAB,AAL b]
 . rw[AAK am,AAK b];by_cases c:ev.Kind=23
   . rw[AAL (by simp[c]),CL (a c),AAB,AAL c]
   grind
def Ef(wv:AD)(s:AB)(ev:AG):AB:=
  ⟨(DH wv s.Sync ev.Thread ev.Kind ev.Obj (if ev.Kind=18 then ev.Value else -1)).1,
   if ev.Kind=4 then s.Cells.set ev.Obj.toNat ev.Value else s.Cells,
   if ev.Kind=22 then s.AK.set ev.Obj.toNat ev.Value else s.AK,
   s.Count.set ev.Thread.toNat (BA (ix s.Count ev.Thread+1))⟩
def HG(wv:AD)(s:AB)(ev:AG):Bool:=
 IG wv s&&(Cu ev.Thread wv.AA.length&&(Bx wv s.Sync ev.Thread ev.Kind ev.Obj&&(MY wv ev&&(ES wv s ev&&G9 s ev))))
def Oe(wv:AD)(s:AB)(ev:AG):AB×Bool:=if HG wv s ev=true then(Ef wv s ev,true)else(Nr,false)
theorem KS{s:AB}(h:IG wv s=true):GQ wv s.Sync=true/\s.Cells.length=wv.Cells.length/\s.AK.length=wv.AK.length/\s.Count.length=wv.AA.length:=by unfold IG at h;simp_all
theorem SM(h:Bi wv t o=true):1<=t/\t<=23:=by unfold Bi at h;grind
theorem V8(wv:AD)(a:Small wv)(s:AB)(k:RB 1000000 s.Sync)(ev:AG)(w:I6 ev):Bc wv s ev=some (Oe wv s ev):=by
 have B:∀b,b=true->Bc.J1 ev s wv b=some (Nr,false):=by rintro b rfl;rfl
 have q:∀b,b=true->Bc.J2 ev s wv b=some (Nr,false):=by rintro b rfl;rfl
 unfold Bc Oe HG;rw[Lp wv a,AAB];cases hf:IG wv s with
 |false=>rfl
 |true=>
  rw[AAK (c:=(!true)=true) ak,AAY];cases ht:Cu ev.Thread wv.AA.length with
  |false=>
   rw[Bool.false_and,AAK (c:=false=true) ak];by_cases d:ev.Thread<0
   . simp_all
   . rw[Ae d];by_cases m:ev.Thread>=(wv.AA.length:Int)
     . simp_all
     . exfalso
       have:=BF.2 ⟨Int.not_lt.1 d,Int.not_le.1 m⟩;simp_all
  |true=>
   obtain⟨C,D⟩:=BF.1 ht;rw[Ae ah,Ae ah,AAY];obtain⟨j,E,F,G⟩:=KS hf;have x:=a.c;have y:=a.f;have z:=a.t;have i:=VL.of a j k;have e:=MU wv a s.Sync (k.mono ah) ev.Thread ev.Obj ev.Kind;cases WH:Bx wv s.Sync ev.Thread ev.Kind ev.Obj with
   |false=>
    rw[Bool.false_and,AAK (c:=false=true) ak];by_cases d:ev.Kind<1
    . simp_all
    . rw[Ae d];unfold Bc.J1;by_cases m:ev.Kind>23
      . rw[AAL am];rfl
      grind
   |true=>
    have l:=WH;unfold Bx at l;simp only[AAD]at l;obtain⟨_,_,g,_⟩:=l;obtain⟨H,I⟩:=SM g;have o:gt s.Count ev.Thread=some (ix s.Count ev.Thread):=CL am;have u:ev.Kind=3\/ev.Kind=4->Cu ev.Obj wv.Cells.length=true:=(by rintro(h|h)<;>simpa(decide:=true) [Bi,h]using g);have p:ev.Kind=22\/ev.Kind=23->Cu ev.Obj wv.AK.length=true:=(by rintro(h|h)<;>simpa(decide:=true) [Bi,h]using g);rw[Ae ah];unfold Bc.J1;rw[AAK an,e,WH,AAB,AAK (c:=(!true)=true) ak,yE,AAB,AAY];cases hp:MY wv ev with
    |false=>rfl
    |true=>
     rw[AAK (c:=(!true)=true) ak,ZA wv s ev w o u,AAB,AAY];cases hd:ES wv s ev with
     |false=>rfl
     |true=>
      rw[AAK (c:=(!true)=true) ak,zK s ev i.t (λh=>am) (λh=>am),AAB,AAY];cases hv:G9 s ev with
      |false=>rfl
      |true=>
       rw[AAL rfl];unfold Bc.J2;have v:∀wake,wake=(if ev.Kind=18 then ev.Value else -1)->Bc.J3 ev s wv wake=some (Ef wv s ev,true):=by
        rintro wake rfl;unfold Bc.J3;rw[Vc wv a s.Sync k,AAB];unfold NA;rw[WH,AAL rfl,AAK ak];unfold Gs slices_Clone_int;rw[BV ah,AAB,BV ah,AAB,BV ah,AAB];unfold Bc.J4 Ef;simp only[o,AAB];by_cases r:ev.Kind=4
        . rw[AAL (by simp[r]),CL am,AAB];simp[r]
        . rw[AAK am];by_cases n:ev.Kind=22
          . rw[AAL (by simp[n]),CL am,AAB];simp[n]
          simp_all
       grind
theorem S5(c:Int)(l:dc)(f:l.length<4611686018427387904):∀(n i:Nat)(a:Int),i<=l.length->l.length<n+i->(∀(h:0<i)(o:i-1<l.length),a=l[i-1])->(i=0->a=0)->(0<i->1<=a)->
 Dr.Aa c l n (i:Int)=some (Fi c a (l.drop i))
 |0,i,a,h1,h2,_,_,_=>ah
 |n+1,i,a,h1,h2,h3,h4,h5=>by
  unfold Dr.Aa Dr.L1;by_cases hi:i<l.length
  . have k:1<=l[i]->Dr.Aa c l n ((i+1:Nat):Int)=some (Fi c l[i] (l.drop (i+1))):=
     λj=>S5 c l f n (i+1) l[i] ah ah (λ_ _=>rfl) ah (λ_=>j)
    unfold Dr.J1;rw[A9 ah,CF hi,AAB,EC hi,Aj ah,Fi];by_cases b:l[i]<1
    . have:¬a<l[i]:=by
       by_cases e:i=0
       . omega
       . omega
      grind
    . rw[Ae b,k ah];by_cases d:l[i]>=c
      . grind
      . have m:l[i]<c:=ah;rw[Ae d];by_cases e:i=0
        . grind
        . have g:=h3 ah ah;rw[A9 ah,B9 ah ah,show(i:Int)-1=((i-1:Nat):Int)from by omega,CF ah,AAB,<- g];grind
  . rw[Ae ah,Ez hi];rfl
theorem Xt(c:Int)(l:dc)(a:l.length<4611686018427387904):Dr l c=some (Fi c 0 l):=by have:=S5 c l a BW 0 0 ah aG ah (λ_=>rfl) ah;rw[AAj]at this;exact this
theorem value_eq(s:AB)(ev:AG)(m:s.Sync.AA.length<=1000)(i:ev.Kind=3->Cu ev.Obj s.Cells.length=true)(a:ev.Kind=23->Cu ev.Obj s.AK.length=true):F6 s ev=some (G9 s ev):=by
 have k:=Wk s.Sync ev.Obj m;have e:=Tz ev.Obj s.Sync.AA 0;unfold F6 F6.J1 F6.J2 G9;rw[k,AAB,AAB];by_cases d:ev.Kind=3
 . rw[AAL (by simp[d]),CL (i d),AAB,AAL d]
 . rw[AAK am,AAK d];by_cases b:ev.Kind=23
   . rw[AAL (by simp[b]),CL (a b),AAB,AAL b]
   . rw[AAK am,AAK b];by_cases n:ev.Kind=5
     . grind
     . rw[AAK am,AAK n];by_cases g:ev.Kind=4
       . simp[g]
       . have j:(ev.Kind==4)=false:=(by simpa using g);rw[j];by_cases f:ev.Kind=22
         . simp[f]
         . have o:(ev.Kind==22)=false:=(by simpa using f);rw[o,AAK (c:=ev.Kind=4\/ev.Kind=22) ah];simp only[AAM,AAT];by_cases h:ev.Kind=18
           . rw[AAL (by simp[h]),AAL h];have l:=Ij ev.Obj s.Sync.AA 0;cases hWW:CQ ev.Obj 0 s.Sync.AA with
             |nil=>simp
             |cons w r=>rw[hWW]at e l;unfold F6.J3;rw[AAK an,fT _ _ ah,AAB];grind
           grind
theorem Pg(wv:AD)(a:Small wv)(s:AB)(B:RB 1000000 s.Sync)(ev:AG)(I:I6 ev):Bj wv s ev=some (Oe wv s ev):=by
 unfold Bj Oe HG;rw[Q5 wv a,AAB];cases hf:IG wv s with
 |false=>rfl
 |true=>
  rw[AAK (c:=(!true)=true) ak,U7,AAB,AAY];cases ht:Cu ev.Thread wv.AA.length with
  |false=>rfl
  |true=>
   rw[AAK (c:=(!true)=true) ak,AAY];obtain⟨y,R,S,T⟩:=KS hf;have O:=a.c;have P:=a.f;have Q:=a.t;have w:=VL.of a y B;have g:=NV wv a s.Sync (B.mono ah) ev.Thread ev.Obj ev.Kind;cases WH:Bx wv s.Sync ev.Thread ev.Kind ev.Obj with
   |false=>
    rw[Bool.false_and,AAK (c:=false=true) ak];by_cases D:ev.Kind<1
    . rw[A9 D];rfl
    . rw[Ae D];by_cases E:ev.Kind>23
      . rw[A9 E];rfl
      . rw[Ae E,g,WH];rfl
   |true=>
    have C:=WH;unfold Bx at C;simp only[AAD]at C;obtain⟨_,_,v,_⟩:=C;obtain⟨U,V⟩:=SM v;have H:gt s.Count ev.Thread=some (ix s.Count ev.Thread):=CL am;have F:ev.Kind=3\/ev.Kind=4->Cu ev.Obj wv.Cells.length=true:=(by rintro(h|h)<;>simpa(decide:=true) [Bi,h]using v);have J:ev.Kind=22\/ev.Kind=23->Cu ev.Obj wv.AK.length=true:=(by rintro(h|h)<;>simpa(decide:=true) [Bi,h]using v);rw[Ae ah,Ae ah,g,WH,AAB,AAY];unfold Bj.J1;rw[AAK (c:=(!true)=true) ak]
    -- the last part
    have N:∀wake,wake=(if ev.Kind=18 then ev.Value else -1)->Bj.J9 ev s wv wake=some (Ef wv s ev,true):=by
     rintro wake rfl;unfold Bj.J9;rw[NT wv a s.Sync B,AAB];unfold NA;rw[WH,AAL rfl];unfold Bj.Oz Bj.Y4 Ef;simp only[H,AAB];by_cases d:ev.Kind=4
     . rw[AAL (by simp[d]),CL am,AAB];simp[d]
     . rw[AAK (c:=(ev.Kind==4)=true) am];by_cases G:ev.Kind=22
       . rw[AAL (by simp[G]),CL am,AAB];simp[G]
       simp_all
    have u:∀b,Bj.J8 ev s wv b=if b=true then some (Nr,false)else some (Ef wv s ev,true):=by
     intro b;unfold Bj.J8;cases b with
     |true=>rfl
     |false=>rw[AAK (c:=false=true) ak,BV ah,BV ah,BV ah,AAK (c:=false=true) ak];grind
    have o:∀b,Bj.J7 ev s wv b=if(!b&&(Fi (ix s.Count ev.Thread) 0 ev.Dw&&(Fi (ix s.Count ev.Thread) 0 ev.DM&&G9 s ev)))=true then some (Ef wv s ev,true)else some (Nr,false):=by intro b;unfold Bj.J7;rw[H,AAB,Xt _ _ I.1,AAB,Xt _ _ I.2,AAB,value_eq s ev w.t (λh=>am) (λh=>am),AAB];simp only[u];cases b<;>cases Fi (ix s.Count ev.Thread) 0 ev.Dw<;>cases Fi (ix s.Count ev.Thread) 0 ev.DM<;>cases G9 s ev<;>rfl
    have n:∀b,Bj.J6 ev s wv b=if(!b&&((ev.DM.isEmpty||(ev.Kind==4||ev.Kind==22))&&(Fi (ix s.Count ev.Thread) 0 ev.Dw&&(Fi (ix s.Count ev.Thread) 0 ev.DM&&G9 s ev))))=true then some (Ef wv s ev,true)else some (Nr,false):=by
     intro b;unfold Bj.J6;simp only[o];cases b with
     |true=>rfl
     |false=>
      cases hF:ev.DM with
      |nil=>simp
      |cons x r=>grind
    have M:∀b,b=(ev.Kind==3||ev.Kind==4)->Bj.J5 ev s wv b=if((ev.Dw.isEmpty||(ev.Kind==5||OO wv ev))&&((ev.DM.isEmpty||(ev.Kind==4||ev.Kind==22))&&(Fi (ix s.Count ev.Thread) 0 ev.Dw&&(Fi (ix s.Count ev.Thread) 0 ev.DM&&G9 s ev))))=true then some (Ef wv s ev,true)else some (Nr,false):=by
     rintro b rfl;unfold Bj.J5;simp only[n];cases hD:ev.Dw with
     |nil=>simp
     |cons x r=>
      rw[A9 am];by_cases K:ev.Kind=5
      . simp[K]
      . by_cases j:ev.Kind=3
        . have z:=CL (l:=wv.Cells) (F (.inl j));simp[j,z,OO]
        . by_cases d:ev.Kind=4
          . have z:=CL (l:=wv.Cells) (F (.inr d));simp[d,z,OO]
          . simp[K,j,d,OO]
    have m:Bj.J4 ev s wv=if(ES wv s ev&&G9 s ev)=true then some (Ef wv s ev,true)else some (Nr,false):=by
     have e:(ES wv s ev&&G9 s ev)=((ev.Dw.isEmpty||(ev.Kind==5||OO wv ev))&&((ev.DM.isEmpty||(ev.Kind==4||ev.Kind==22))&&(Fi (ix s.Count ev.Thread) 0 ev.Dw&&(Fi (ix s.Count ev.Thread) 0 ev.DM&&G9 s ev)))):=(by unfold ES;generalize (ev.Dw.isEmpty||(ev.Kind==5||OO wv ev))=p;generalize (ev.DM.isEmpty||(ev.Kind==4||ev.Kind==22))=q;cases p<;>cases q<;>cases Fi (ix s.Count ev.Thread) 0 ev.Dw<;>cases Fi (ix s.Count ev.Thread) 0 ev.DM<;>rfl);rw[e];unfold Bj.J4;by_cases j:ev.Kind=3
     . simp_all
     . grind
    have L:∀b,b=(ev.Kind==1||ev.Kind==2)->Bj.J2 ev s wv b=if(MY wv ev&&(ES wv s ev&&G9 s ev))=true then some (Ef wv s ev,true)else some (Nr,false):=by
     rintro b rfl;unfold Bj.J2 Bj.J3 MY;rw[m,U7,AAB];generalize (ES wv s ev&&G9 s ev)=q;by_cases k:ev.Kind=1\/ev.Kind=2
     . have:(ev.Kind==1||ev.Kind==2)=true:=(by simpa using k);rw[this,AAL rfl,AAL k];by_cases i:ev.Site= -1
       . simp[i]
       . simp[i];rfl
     . have:(ev.Kind==1||ev.Kind==2)=false:=(by simpa using k);rw[this,AAK (c:=false=true) ak,AAK k];cases hi:Cu ev.Site wv.BU.length with
       |false=>rfl
       |true=>
        rw[AAK (c:=(!true)=true) ak,CL hi,AAB];by_cases i:(ix wv.BU ev.Site).Thread=ev.Thread
        . simp[i]
        . simp[i];rfl
    grind
theorem RB.KG(h:RB i s)(b:i<=n)(N:Int)(f:AW->AW)(c:(f (Abs.ix s.AF N)).Ak.length<=n):RB n (Abs.KG s N f):=by
 intro x a;rcases AAh a with a|rfl
 . exact AA5 (h x a) b
 . exact c
theorem RB.apply(h:RB i s)(wv:AD)(t k o wake:Int):RB (i+1) (DH wv s t k o wake).1:=by
 have c:RB (i+1) s:=h.mono ah;have hi:=λN=>Nat.le_succ_of_le (h.ix N);have key:∀(p:Prop) [Decidable p] (a b:AP×Int),RB (i+1) a.1->RB (i+1) b.1->RB (i+1) (if p then a else b).1:=by intro p _ a b e f;split<;>assumption
 unfold DH
 repeat' refine key _ _ _ ?_ ?_
 all_goals first
  |exact c
  |exact h.KG ah _ _ (hi _)
  | (refine h.KG ah _ _ ?_;have:=Tn ((Abs.ix s.AF o).Ak++[t]);have:=h.ix o;grind)
  | (refine h.KG ah _ _ (AA5 (List.length_filter_le _ _) (hi _)))
  |exact h.KG ah (Abs.ix wv.Ai o).Mutex (λx=>⟨-1,x.Ak⟩) (hi _)
  |exact h.KG ah (Abs.ix wv.Ai o).Mutex (λx=>⟨t,x.Ak⟩) (hi _)
  | (by_cases d:CQ o 0 s.AA=[]<;>simp only[d,AAi,AAT]<;>exact c)
theorem RB.start(wv:AD):RB 0 (JP wv):=by
 intro x a
 have:=List.eq_of_mem_replicate a;simp_all
def ZL(e:AG):Bool:=e.Kind==3||e.Kind==23
def Hr(l:dx)(t:Int):List Bool:=(l.filter λe=>e.Thread==t).map ZL
def JL(reads:eb)(k:Int):Bool:=Cu k reads.length&&ix reads k
def N8(pre:dx)(ev:AG):Bool:=ev.Dw.all (JL (Hr pre ev.Thread))&&ev.DM.all (JL (Hr pre ev.Thread))
theorem gD.L2(L1:df)(l:dc)(reads:eb)(t:Int)(c:l.length<4611686018427387904):∀(n i:Nat),i<=l.length->l.length<n+i->Aw.DF L1 l reads t n (i:Int)=if(l.drop i).all (JL reads)=true then Aw.J3 L1 t else some false
 |0,i,h1,h2=>ah
 |n+1,i,h1,h2=>by
  unfold Aw.DF Aw.L2;by_cases hi:i<l.length
  . unfold Aw.J2;rw[A9 ah,CF hi,AAB,EC hi,Aj ah,gD.L2 L1 l reads t c n (i+1) ah ah,AAy];generalize l[i]=x;generalize (l.drop (i+1)).all (JL reads)=q;unfold JL;by_cases a:x<0
    . have:Cu x reads.length=false:=bn;simp_all
    . by_cases b:x>=(reads.length:Int)
      . have:Cu x reads.length=false:=bn;simp_all
      . have h:Cu x reads.length=true:=bn;rw[Ae a,Ae b,CL h,AAB,h];grind
  grind
theorem gE(reads:eb)(ev:AG)(b:I6 ev):Aw reads ev=some (ev.Dw.all (JL reads)&&ev.DM.all (JL reads)):=by
 unfold Aw;have f:=BO;have a:∀L1 t l,l.length<4611686018427387904->Aw.J1 L1 reads t l=if l.all (JL reads)=true then Aw.J3 L1 t else some false:=by
  intro L1 t l c
  have:=gD.L2 L1 l reads t c BW 0 ah ah;rw[AAj]at this;exact this
 rw[Wy];generalize BW-3=m;have e:Aw.Aa ev reads (m+1) 2=some true:=by unfold Aw.Aa Aw.L1;rfl
 have d:Aw.Aa ev reads (m+2) 1=some (ev.DM.all (JL reads)):=by unfold Aw.Aa Aw.L1;rw[A9 aS,AAK aS,AAL aS,a _ _ _ b.2];unfold Aw.J3;rw[show BA (1+1)=2 from rfl,e];cases ev.DM.all (JL reads)<;>rfl
 unfold Aw.Aa Aw.L1;rw[A9 aS,AAL aS,a _ _ _ b.1];unfold Aw.J3;rw[show BA (0+1)=1 from rfl,d];grind
def VG(x t:Int):Int->List AG->Bool
 |_,[]=>false
 |nv,e::r=>if e.Thread=t then(nv==x&&ZL e)||VG x t (nv+1) r else VG x t nv r
theorem kQ(e:AG)(r:dx)(t:Int):Hr (e::r) t=if e.Thread=t then ZL e::Hr r t else Hr r t:=by unfold Hr;grind
theorem scan_eq(x t:Int)(l:dx):∀a:Int,VG x t a l=JL (Hr l t) (x-a):=by
 induction l with
 |nil=>intro a;simp[VG,JL,Hr,Cu];omega
 |cons e r ih=>
  intro a;unfold VG;rw[kQ];by_cases h:e.Thread=t
  . rw[AAL h,AAL h,ih];unfold JL;by_cases c:x=a
    . subst c;have b:Cu (x-x) (ZL e::Hr r t).length=true:=(by rw[BF];simp only[AA8];omega);have i:ix (ZL e::Hr r t) (x-x)=ZL e:=(by simp[ix]);have j:Cu (x-(x+1)) (Hr r t).length=false:=by
       cases hq:Cu (x-(x+1)) (Hr r t).length with
       |false=>rfl
       |true=>have:=BF.1 hq;omega
      simp_all
    . have d:(a==x)=false:=(by simpa usingλh=>c h.symm);have b:Cu (x-a) (ZL e::Hr r t).length=Cu (x-(a+1)) (Hr r t).length:=(by rw[ABa,BF,BF];simp;omega);rw[d,b];cases hb:Cu (x-(a+1)) (Hr r t).length with
      |false=>simp
      |true=>obtain⟨f,g⟩:=BF.1 hb;have:ix (ZL e::Hr r t) (x-a)=ix (Hr r t) (x-(a+1)):=(by unfold ix;rw[show(x-a).toNat=(x-(a+1)).toNat+1 from by omega,AAu]);simp_all
  simp_all
theorem reads.L2(L1:df)(i:Nat)(k:Int)(l:dx)(a:dc)(t x:Int)(hi:i<=l.length)(hi':i<=1000000)(d:gt a k=some x):∀(n j b:Nat)(ok:Bool),j<=i->i<n+j->b<=j->
 C1.DF L1 (i:Int) k l a t n (b:Int) ok (j:Int)=C1.J3 L1 k (ok||VG x t b ((l.take i).drop j))
 |0,j,b,ok,h1,h2,h3=>ah
 |n+1,j,b,ok,h1,h2,h3=>by
  unfold C1.DF C1.L2;by_cases g:j<i
  . have f:j<(l.take i).length:=an;have e:=λ(c:Nat) ok' h=>reads.L2 L1 i k l a t x hi hi' d n (j+1) c ok' ah ah h;unfold C1.J1 C1.J2;rw[A9 ah,CF ah,AAB,EC f,Aj (i:=j) ah,Aj (i:=b) ah,d,AAB,VG];simp only[List.getElem_take,e (b+1) _ ah,e b _ ah,show((b:Int)+1)=((b+1:Nat):Int)from rfl];unfold ZL;grind
  . rw[Ae ah,List.drop_eq_nil_of_le an];simp[VG]
theorem X0(i:Nat)(l:dx)(a:dc)(t:Int)(hi:i<=l.length)(hi':i<=1000000)(c:a.length<4611686018427387904):∀(n k:Nat),k<=a.length->a.length<n+k->
 C1.Aa (i:Int) l a t n (k:Int)=some ((a.drop k).all (JL (Hr (l.take i) t)))
 |0,k,h1,h2=>ah
 |n+1,k,h1,h2=>by
  unfold C1.Aa C1.L1;by_cases b:k<a.length
  . have:=reads.L2 (C1.Aa (i:Int) l a t n) i (k:Int) l a t a[k] hi hi' (CF b) BW 0 0 false ah aG ah;rw[AAj,scan_eq]at this;simp only[Int.natCast_zero,Int.sub_zero,Bool.false_or]at this;rw[A9 ah,this,EC b,AAy];unfold C1.J3 C1.J4;rw[Aj ah,X0 i l a t hi hi' c n (k+1) ah ah];grind
  . rw[Ae ah,Ez b];rfl
theorem kS(i:Nat)(l:dx)(a:dc)(t:Int)(hi:i<=l.length)(hi':i<=1000000)(b:a.length<4611686018427387904):C1 l (i:Int) t a=some (a.all (JL (Hr (l.take i) t))):=by have:=X0 i l a t hi hi' b BW 0 ah aG;rw[AAj]at this;exact this
def Ex(wv:AD):List AG->AB->List AG->Int×Int
 |_,_,[]=>(0,0)
 |pre,s,x::r=>if(HG wv s x&&N8 pre x)=true then Ex wv (pre++[x]) (Ef wv s x) r else((pre.length:Int),12)
def Ix(t:CC):Int×Int:=if t.AE.length>400 then(0,2)else if Ce t.World=true then Ex t.World [] (Gx t.World) t.AE else(0,1)
theorem Jr{s:AB}{x:AG}(h:HG wv s x=true):Cu x.Thread wv.AA.length=true:=by unfold HG at h;simp_all
theorem Lm(l:dx)(x:AG)(t:Int):Hr (l++[x]) t=if x.Thread=t then Hr l t++[ZL x]else Hr l t:=by unfold Hr;grind
theorem JN(l:dx)(t:Int):(Hr l t).length<=l.length:=by unfold Hr;grind
theorem Wa(t:CC)(h:Small t.World)(a:∀e∈t.AE,I6 e)(m:t.AE.length<=400):∀(n i:Nat)(s:AB)(R:d3),i<=t.AE.length->t.AE.length<n+i->RB i s.Sync->R.length=t.World.AA.length->(∀u:Nat,u<R.length->R[u]? =some (Hr (t.AE.take i) (u:Int)))->
 C3.Aa t n s R (i:Int)=some (Ex t.World (t.AE.take i) s (t.AE.drop i))
 |0,i,s,R,h1,h2,_,_,_=>ah
 |n+1,i,s,R,h1,h2,h3,h4,h5=>by
  unfold C3.Aa C3.L1;by_cases hi:i<t.AE.length
  . have f:=a _ (AAS hi);rw[A9 ah,CF hi,AAB,V8 t.World h s (h3.mono ah) _ f,AAB,EC hi,Ex,ABS ah];unfold Oe;cases hp:HG t.World s t.AE[i]with
    |false=>rfl
    |true=>
     rw[AAL rfl,AAK (c:=(!true)=true) ak,AAY];have o:=Jr hp;obtain⟨k,r⟩:=BF.1 o;have p:t.AE[i].Thread.toNat<R.length:=ah;have d:gt R t.AE[i].Thread=some (Hr (t.AE.take i) t.AE[i].Thread):=(by unfold gt;rw[AAL k,h5 _ p];congr 2;omega);have l:=JN (t.AE.take i) t.AE[i].Thread;rw[ABS ah]at l;rw[d,AAB,gE _ _ f,AAB];unfold C3.J1;show(if(!(N8 (t.AE.take i) t.AE[i]))=true then _ else _)=_
     cases N8 (t.AE.take i) t.AE[i]with
     |false=>rfl
     |true=>
      rw[AAK (c:=(!true)=true) ak,AAL rfl,d,AAB,BV ah,BV ah];unfold C3.J2;have g:∀b,b=ZL t.AE[i]->C3.Aa t n (Ef t.World s t.AE[i]) (R.set t.AE[i].Thread.toNat (Hr (t.AE.take i) t.AE[i].Thread++[b])) (BA ((i:Int)+1))=some (Ex t.World (t.AE.take i++[t.AE[i]]) (Ef t.World s t.AE[i]) (t.AE.drop (i+1))):=by
       rintro b rfl;rw[Aj ah,AAX hi];refine Wa t h a m n (i+1) _ _ ah ah ?_ am ?_
       . exact h3.apply _ _ _ _ _
       . intro u q;rw[<- AAX hi,Lm];grind
      by_cases j:t.AE[i].Kind=3
      . rw[AAL (by simp[j])];exact g _ (by simp[ZL,j])
      . rw[AAK am];exact g _ (by simp[ZL,show(t.AE[i].Kind==3)=false by simp_all])
  . rw[Ae ah,Ez hi];rfl
theorem Check_eq(t:CC)(d:∀e∈t.AE,I6 e):C3 t=some (Ix t):=by
 unfold C3 Ix;by_cases f:t.AE.length>400
 . grind
 . rw[Ae ah,AAK f,Qo,AAB];cases hv:Ce t.World with
   |false=>rfl
   |true=>
    have a:=DX hv;have g:=a.t;rw[AAK (c:=(!true)=true) ak,Qn _ a,AAB,AAL ⟨ah,ah,Bm ah⟩,AAL rfl]
    have:=Wa t a d ah BW 0 (Gx t.World) (List.replicate t.World.AA.length []) ah aG (RB.start _) ak (by intro u b;simp at b;simp[b,Hr]);simp_all
theorem U3(t:CC)(d:Small t.World)(b:∀e∈t.AE,I6 e)(f:t.AE.length<=400):∀(n i:Nat)(s:AB),i<=t.AE.length->t.AE.length<n+i->RB i s.Sync->
 FG.Aa t n s (i:Int)=some (Ex t.World (t.AE.take i) s (t.AE.drop i))
 |0,i,s,h1,h2,_=>ah
 |n+1,i,s,h1,h2,h3=>by
  unfold FG.Aa FG.L1;by_cases hi:i<t.AE.length
  . have a:=b _ (AAS hi);rw[A9 ah,CF hi,AAB,Pg t.World d s (h3.mono ah) _ a,AAB,EC hi,Ex,ABS ah];unfold Oe;cases hp:HG t.World s t.AE[i]with
    |false=>rfl
    |true=>
     rw[AAL rfl,AAK (c:=(!true)=true) ak,AAY,kS i _ _ _ ah ah a.1,AAB,kS i _ _ _ ah ah a.2,AAB];unfold N8;cases t.AE[i].Dw.all (JL (Hr (t.AE.take i) t.AE[i].Thread))with
     |false=>rfl
     |true=>
      cases t.AE[i].DM.all (JL (Hr (t.AE.take i) t.AE[i].Thread))with
      |false=>rfl
      |true=>rw[AAK (c:=(!true)=true) ak,AAY,AAL rfl];unfold FG.J1;rw[AAK (c:=(!true)=true) ak,Aj ah,AAX hi];exact U3 t d b f n (i+1) _ ah ah (h3.apply _ _ _ _ _)
  . rw[Ae ah,Ez hi];rfl
theorem yK(t:CC)(b:∀e∈t.AE,I6 e):FG t=some (Ix t):=by
 unfold FG Ix;by_cases d:t.AE.length>400
 . grind
 . rw[Ae ah,AAK d,Js,AAB];cases hv:Ce t.World with
   |false=>rfl
   |true=>
    have a:=DX hv;rw[AAK (c:=(!true)=true) ak,Jy _ a,AAB,AAL rfl]
    have:=U3 t a b ah BW 0 (Gx t.World) ah aG (RB.start _);simp_all
end
end Go.Abs
