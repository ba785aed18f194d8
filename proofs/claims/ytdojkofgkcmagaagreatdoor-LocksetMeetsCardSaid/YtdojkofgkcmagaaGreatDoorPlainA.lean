/- What the typed programs give, in plain Lean. -/
import Derived.Test.YtdojkofgkcmagaaGreatDoorWalkM
import Derived.Lib.SlicesCompact
set_option linter.defProp false
set_option linter.unusedSimpArgs false
set_option linter.unusedVariables false
namespace Go.Abs
def CG{n:Int}(h: -9223372036854775808<=n)(a:n<9223372036854775808):A6 n=n:=by simp only[A6,IntKind.wrap,IntKind.bits,IntKind.signed];simp;omega
variable{i:Nat}
theorem Af(h:i<9223372036854775807):A6 ((i:Int)+1)=((i+1:Nat):Int):=by rw[CG ah ah];rfl
variable{a:Type}
theorem Jz(l:List a)(i:Nat):gt l (i:Int)=l[i]? :=by simp[gt]
theorem B4{l:List a}(h:i<l.length):gt l (i:Int)=some l[i]:=by rw[Jz];simp[h]
def Cp(i:Int)(n:Nat):Bool:=decide (0<=i)&&decide (i<(n:Int))
def br{p:Prop}(h:p:=by simp[Cp];omega):p:=h
def ix[Inhabited a](l:List a)(i:Int):a:=(l[i.toNat]?).getD default
variable{o:Int}{n:Nat}
theorem BI:Cp o n=true↔0<=o/\o<n:=by simp[Cp]
theorem inB_nat:Cp (i:Int) n=decide (i<n):=by simp[Cp]
theorem B6[Inhabited a]{l:List a}(h:Cp o l.length=true):gt l o=some (ix l o):=by
 obtain⟨b,c⟩:=BI.1 h;have:o.toNat<l.length:=ah
 simp[gt,ix,b,this]
theorem IK[Inhabited a]{l:List a}(h:i<l.length):ix l (i:Int)=l[i]:=by simp[ix,h]
theorem Bs(h:n*i<=70368744177664):Am n i=true:=by simp[Am,h]
def Ba{x y:a}(h:n*i<=70368744177664):(if Am n i=true then x else y)=x:=AAb (Bs h)
variable{p:Prop}
theorem BC[Decidable p]{x y:a}(h:p):(if decide p=true then x else y)=x:=by rw[AAb (by simpa using h)]
theorem Ad[Decidable p]{x y:a}(h:¬p):(if decide p=true then x else y)=y:=by rw[AAa (by simpa using h)]
def EH{l:List a}(h:i<l.length):l.drop i=l[i]::l.drop (i+1):=ABQ h
theorem E6{l:List a}(h:¬i<l.length):l.drop i=[]:=List.drop_eq_nil_of_le ah
theorem BP:BT=18446744073709551616:=rfl
def bh{p:Prop}(h:p:=by have:=BP;omega):p:=h
variable{l:nq}
theorem kinds(N:l 1)(O:l 2)(Q:l 3)(R:l 4)(S:l 5)(T:l 6)(U:l 7)(V:l 8)(W:l 9)(P:l 10)(m:l 11)(n:l 12)(o:l 13)(p:l 14)(q:l 15)(r:l 16)(s:l 17)(t:l 18)(u:l 19)(v:l 20)(w:l 21)(x:l 22)(y:l 23)(X:∀k,k≠1->k≠2->k≠3->k≠4->k≠5->k≠6->k≠7->k≠8->k≠9->k≠10->k≠11->k≠12->k≠13->k≠14->k≠15->k≠16->k≠17->k≠18->k≠19->k≠20->k≠21->k≠22->k≠23->l k)(k:Int):l k:=by
 by_cases z:k=1;· exact z▸N
 by_cases B:k=2;· exact B▸O
 by_cases C:k=3;· exact C▸Q
 by_cases D:k=4;· exact D▸R
 by_cases E:k=5;· exact E▸S
 by_cases F:k=6;· exact F▸T
 by_cases G:k=7;· exact G▸U
 by_cases H:k=8;· exact H▸V
 by_cases I:k=9;· exact I▸W
 by_cases a:k=10;· exact a▸P
 by_cases b:k=11;· exact b▸m
 by_cases L:k=12;· exact L▸n
 by_cases c:k=13;· exact c▸o
 by_cases d:k=14;· exact d▸p
 by_cases e:k=15;· exact e▸q
 by_cases K:k=16;· exact K▸r
 by_cases f:k=17;· exact f▸s
 by_cases g:k=18;· exact g▸t
 by_cases h:k=19;· exact h▸u
 by_cases J:k=20;· exact J▸v
 by_cases i:k=21;· exact i▸w
 by_cases M:k=22;· exact M▸x
 by_cases j:k=23;· exact j▸y
 exact X k z B C D E F G H I a b L c d e K f g h J i M j
variable{b:Type}{c:Bool}{d:jf}{x:ABv}{k:mc}{m:AP}{f:jr}{j:BO}
section
set_option maxHeartbeats 4000000
def B5(o:ABu a)(Q:a->Prop):Prop:=∃r,o=some r/\Q r
def tR{r:a}{Q:a->Prop}(h:Q r):B5 (some r) Q:=⟨r,rfl,h⟩
theorem tB{o:ABu a}{Q:a->Prop}{f:a->ABu b}{R:b->Prop}(h:B5 o Q)(k:∀x,Q x->B5 (f x) R):B5 (o.bind f) R:=by obtain⟨x,rfl,c⟩:=h;exact k x c
theorem tG{l:List a}{f:a->ABu b}{R:b->Prop}(h:0<=o/\o<(l.length:Int))(k:∀x,x∈l->B5 (f x) R):B5 ((gt l o).bind f) R:=by
 obtain⟨n,rfl⟩:∃n:Nat,o=n:=⟨o.toNat,ah⟩;have hn:n<l.length:=ah
 rw[B4 hn,AAS];exact k _ (AAi hn)
theorem tC[Decidable p]{a:ABu b}{R:b->Prop}(h:p)(k:B5 a R):B5 (if p then a else none) R:=by rw[AAb h];exact k
theorem tI{d b:ABu a}{R:a->Prop}(e:c=true->B5 d R)(f:c=false->B5 b R):B5 (if c=true then d else b) R:=by
 cases c with
 |true=>simpa using e rfl
 |false=>simpa using f rfl
theorem tM{o:ABu a}{Q R:a->Prop}(h:B5 o Q)(k:∀x,Q x->R x):B5 o R:=by obtain⟨x,e,b⟩:=h;exact⟨x,e,k x b⟩
structure DX (t:AX):Prop where
 l:t.L.length<=4000000000000000000
 a:0<=t.At/\t.At<=t.L.length
 u:∀x∈t.L,0<=x/\x<256
theorem HU{t:AX}(b:DX t){n:Int}(hn:0<n/\n<1000):B5 (Al t n) λr=>(0<=r.1/\r.1<n)/\DX r.2:=by
 have e:=b.l;have f:=b.a;unfold Al Al.J1;rw[CG (n:=t.At+1) ah ah,CG (n:=t.At+1-1) ah ah];refine tI (λ_=> ?_) λh=> ?_
 . exact tI (λ_=>tR ⟨⟨ah,hn.1⟩,b⟩) λh=>by cases h
 . have d:¬t.At>=(t.L.length:Int):=(by simpa using h);refine tI (λh=>absurd (AAc h) ah) λ_=> ?_;refine tG ah λx c=>tC ah (tR ⟨?_,b.l,aA,b.u⟩);have c:=b.u x c;rw[CG ah ah];exact⟨Int.tmod_nonneg _ c.1,Int.tmod_lt_of_pos _ hn.1⟩
def qS:ABv:=⟨#[113]⟩
def vN:List ABv:=[⟨#[97]⟩,⟨#[98]⟩,⟨#[120]⟩,⟨#[121]⟩,⟨#[118]⟩]
theorem YG{l:jf}(h:(l.all λx=>d.any λy=>decide (x=y))=true)(c:x∈l):x∈d:=by obtain⟨y,a,b⟩:=List.any_eq_true.1 (AAY.1 h x c);rw[AAc b];exact a
theorem ZZ(h:(vN.any λy=>decide (x=y))=true):x∈vN:=YG (l:=[x]) (by simpa using h) (AAw.2 rfl)
def Up:Nat->BO->Prop
 |0,_=>False
 |n+1,e=>e.Op=1/\e.L=[]\/(e.Op=2/\e.L=[]/\e.di∈vN)\/(e.Op=3/\e.di=qS/\∃a,e.L=[a]/\Up n a)\/(e.Op∈[(6:Int),7,8,11,13,17]/\∃a b,e.L=[a,b]/\Up n a/\Up n b)
theorem okE_mono:∀{e:BO},Up n e->Up (n+1) e:=by
 induction n with
 |zero=>exactλh=>h.elim
 |succ n ih=>
  intro e h;rcases h with h|h|⟨c,d,a,f,g⟩|⟨c,a,b,d,f,g⟩
  . exact .inl h
  . exact .inr (.inl h)
  . exact .inr (.inr (.inl ⟨c,d,a,f,ih g⟩))
  . exact .inr (.inr (.inr ⟨c,a,b,d,ih f,ih g⟩))
def W4(m m':AP):Prop:=DX m'.t/\m'={m with t:=m'.t}
theorem Vn(d:DX f.2)(C:0<=f.1/\f.1<10)(h:c=false->7<=f.1->∀R v,(v=0\/v=A6 (o-1))->DX R.t->B5 (k R v) λr=>Up i r.1/\W4 R r.2):
 B5 (DN.J1 k o m f c) λr=>Up (i+1) r.1/\W4 m r.2:=by
 unfold DN.J1 Ku JX JF;simp only[AAS];refine tI (λ_=> ?_) λu=>tI (λ_=> ?_) λl=> ?_
 . refine tB (HU d ah) ?_;rintro n ⟨_,b⟩;exact tR ⟨.inl ⟨rfl,rfl⟩,b,rfl⟩
 . refine tB (HU d ah) ?_;rintro n ⟨g,b⟩;exact tG g λx j=>tR ⟨.inr (.inl ⟨rfl,rfl,YG bg j⟩),b,rfl⟩
 . have l:=of_decide_eq_false l;have h:=h u ah;refine tI (λ_=> ?_) λ_=> ?_
   . refine tB (h _ _ (.inl rfl) d) ?_;rintro e ⟨b,q,s⟩;exact tR ⟨.inr (.inr (.inl ⟨rfl,rfl,_,rfl,b⟩)),q,by rw[s]⟩
   . refine tB (HU d ah) ?_;rintro n ⟨g,b⟩;refine tG g λx j=>tB (h _ _ (.inr rfl) b) ?_;rintro e ⟨a,g2,p⟩;refine tB (h _ _ (.inr rfl) g2) ?_;rintro B ⟨w,y,z⟩;exact tR ⟨.inr (.inr (.inr ⟨j,_,_,rfl,a,w⟩)),y,by rw[z,p]⟩
theorem okE_le(h:i<=n)(c:Up i j):Up n j:=by
 induction h with
 |refl=>exact c
 |step _ ih=>exact okE_mono ih
theorem Vm(hn:0<n)(c:DX m.t):B5 (Cb n m 0) λr=>Up 1 r.1/\W4 m r.2:=by
 obtain⟨n,rfl⟩:∃k,n=k+1:=⟨n-1,ah⟩;show B5 (DN (Cb n) m 0) _;unfold DN;refine tB (HU c ah) ?_;rintro v ⟨b,a⟩;refine tI (λ_=>Vn a b bm) λ_=>tI (λ_=>Vn a b λh d=> ?_) λh=> ?_
 . exact absurd (of_decide_eq_false h) ah
 . simp at h
theorem expr_tot(d:Nat):∀(n:Nat)(m:AP),d<n->d<100->DX m.t->B5 (Cb n m d) λr=>Up (d+1) r.1/\W4 m r.2:=by
 induction d with
 |zero=>exactλn m hn _ a=>Vm hn a
 |succ d ih=>
  intro n m hn hd a;obtain⟨n,rfl⟩:∃k,n=k+1:=⟨n-1,ah⟩;show B5 (DN (Cb n) m _) _;unfold DN;refine tB (HU a ah) ?_;rintro v ⟨g,f⟩;have key:∀c,B5 (DN.J1 (Cb n) ((d+1:Nat):Int) m v c) λr=>Up (d+1+1) r.1/\W4 m r.2:=by
   intro c;refine Vn f g λ_ _ i j e b=> ?_;rcases e with rfl|rfl
   . exact tM (Vm ah b) λr h=>⟨okE_le ah h.1,h.2⟩
   . rw[CG ah ah,show((d+1:Nat):Int)-1=(d:Int)from by omega];exact ih n i ah ah b
  exact tI (λ_=>key _) λ_=>tI (λ_=>key _) λ_=>key _
theorem LQ(hd:o=0\/o=1)(a:DX m.t):B5 (Cb BT m o) λr=>Up 2 r.1/\W4 m r.2:=by
 have b:=BP;rcases hd with rfl|rfl
 . exact tM (Vm ah a) λr h=>⟨okE_le ah h.1,h.2⟩
 . exact expr_tot 1 BT m ah ah a
theorem Ow(l:jf)(s:ABv)(d:l.length<1000000):B5 (Ch l s) λr=> -1<=r/\r<l.length:=by
 have c:=BP;have key:∀n (i:Nat),l.length<n+i->i<=l.length->B5 (Ch.AW l s n i) λr=> -1<=r/\r<l.length:=by
  intro n;induction n with
  |zero=>intro i a b;omega
  |succ n ih=>intro i a b;unfold Ch.AW Ch.L1 Ch.J1;refine tI (λh=> ?_) λ_=>tR ah;have h:=AAc h;refine tG ah λx _=>tI (λ_=>tR ah) λ_=> ?_;rw[Af ah];exact ih (i+1) ah ah
 exact key BT 0 ah ah
theorem Rh(a:m.d6.length<1000)(s:ABv):B5 (EB m s) λr=>r.2=m:=by unfold EB;exact tB (Ow _ _ ah) λ_ _=>tR rfl
end
theorem iW{a b:iq}(d:a.Pairwise (· < ·))(f:b.Pairwise (· < ·))(h:∀x,x∈a↔x∈b):a=b:=by
 induction a generalizing b with
 |nil=>
  cases b with
  |nil=>rfl
  |cons y b=>have:=(h y).2 ak;grind
 |cons x a ih=>
  cases b with
  |nil=>grind
  |cons y b=>
   rw[List.pairwise_cons]at d f;have g:x=y:=by
    have c:=(h x).1 ak;have i:=(h y).2 ak;rcases AAr.1 c with e|c
    . exact e
    . grind
   grind
theorem TN(d:Array Int)(hd:∀i j,i<=j->j<d.size->d[i]! <=d[j]!):∀m,m<=d.size->(∀x,x∈Lib.compactUpTo d m↔∃i,i<m/\d[i]! =x)/\(Lib.compactUpTo d m).Pairwise (· < ·):=by
 intro m;induction m with
 |zero=>intro _;exact⟨λx=>by simp[Lib.compactUpTo],by simp[Lib.compactUpTo]⟩
 |succ m ih=>
  intro n;obtain⟨g,b⟩:=ih ah;rw[Lib.compactUpTo_succ];by_cases a:Lib.keeps d m=true
  . rw[AAb a];refine⟨λx=> ?_,?_⟩
    . grind
    . rw[List.pairwise_append];refine⟨b,ak,λx h y c=> ?_⟩;rw[AAw]at c;subst c;obtain⟨i,hi,e⟩:=(g x).1 h;have f:m=0\/d[m]! ≠d[m-1]! :=(by simpa[Lib.keeps]using a);have k:=hd i (m-1) ah ah;have l:=hd (m-1) m ah ah;omega
  . rw[AAa a,List.append_nil];refine⟨λx=> ?_,b⟩;have f:¬(m=0\/d[m]! ≠d[m-1]!):=(by simpa[Lib.keeps]using a);grind
def Sw(l:iq):List Int:=l.mergeSort λx y=>decide (x<=y)
def OI(l:iq):List Int:=Lib.compact (Sw l)
theorem Si(l:iq):(Sw l).length=l.length:=by simp[Sw]
theorem mem_msort(l:iq)(x:Int):x∈Sw l↔x∈l:=by simp[Sw]
theorem Uk(l:iq):(Sw l).Pairwise (· <= ·):=by have:=List.pairwise_mergeSort (le:=λx y:Int=>decide (x<=y)) an an l;simpa[Sw]using this
theorem Sm(l:iq)(h:l.Pairwise (· <= ·)):(∀x,x∈Lib.compact l↔x∈l)/\(Lib.compact l).Pairwise (· < ·):=by
 have hd:∀i j,i<=j->j<l.toArray.size->l.toArray[i]! <=l.toArray[j]! :=by
  intro i j b f;have c:j<l.length:=by simpa using f
  rcases Nat.lt_or_eq_of_le b with a|rfl
  . have:=List.pairwise_iff_getElem.1 h i j ah c a;grind
  . omega
 obtain⟨a,d⟩:=TN l.toArray hd l.length ak;refine⟨λx=> ?_,d⟩;show x∈Lib.compactUpTo l.toArray l.length↔_;rw[a x,List.mem_iff_getElem];constructor
 . grind
 . rintro⟨i,hi,e⟩;exact⟨i,hi,am⟩
theorem sO(l:iq):(Lib.compact l).length<=l.length:=by unfold Lib.compact Lib.compactUpTo;grind
theorem Kg(l:iq)(x:Int):x∈OI l↔x∈l:=by unfold OI;rw[(Sm _ (Uk l)).1,mem_msort]
def MI(l:iq):(OI l).Pairwise (· < ·):=(Sm _ (Uk l)).2
theorem QS(l:iq):(OI l).length<=l.length:=by have:=sO (Sw l);rw[Si]at this;exact this
def IJ(out:iq)(x:Int):Nat:=(out.takeWhile λy=>decide (y<x)).length
def ins(out:iq)(x:Int):List Int:=if out[IJ out x]? =some x then out else out.take (IJ out x)++x::out.drop (IJ out x)
theorem eY(out:iq)(x:Int)(i:Nat)(hi:i<=out.length)(a:∀(k:Nat)(b:k<out.length),k<i->out[k]<x)(e:∀(d:i<out.length),¬out[i]<x):IJ out x=i:=by
 unfold IJ;induction out generalizing i with
 |nil=>simp_all
 |cons y out ih=>
  by_cases f:y<x
  . cases i with
    |zero=>simp_all
    |succ i=>rw[List.takeWhile_cons_of_pos am,ABU];rw[ih i am (λk b c=>aS) (λd=>am)]
  . cases i with
    |zero=>simp_all
    |succ i=>have:=a 0 ak ah;grind
theorem ZH(out:iq)(x:Int):(ins out x).length<=out.length+1:=by unfold ins;grind
def insAll(l:iq):List Int:=l.foldl ins []
theorem ins_facts(out:iq)(x:Int)(h:out.Pairwise (· < ·)):(ins out x).Pairwise (· < ·)/\∀z,z∈ins out x↔z∈out\/z=x:=by
 have key:∀(out:iq),out.Pairwise (· < ·)->(∀(k:Nat)(a:k<out.length),k<IJ out x->out[k]<x)/\(∀(k:Nat)(a:k<out.length),IJ out x<=k->x<=out[k])/\IJ out x<=out.length:=by
  intro out;induction out with
  |nil=>intro _;simp[IJ]
  |cons y out ih=>
   intro b;rw[List.pairwise_cons]at b;obtain⟨g,g2,i⟩:=ih b.2;by_cases c:y<x
   . have e:IJ (y::out) x=IJ out x+1:=(by unfold IJ;rw[List.takeWhile_cons_of_pos (by simp_all)];rfl);grind
   . have e:IJ (y::out) x=0:=(by unfold IJ;rw[List.takeWhile_cons_of_neg (by simp_all)];rfl);rw[e];refine⟨λk a j=>ah,λk a _=> ?_,ak⟩;cases k with
     |zero=>simp;omega
     |succ k=>
      have f:k<out.length:=by simpa using a
      have:=b.1 out[k] (AAi f);simp;omega
 obtain⟨g,g2,i⟩:=key out h;unfold ins;split
 . grind
 . rename_i p;have l:out=out.take (IJ out x)++out.drop (IJ out x):=(ABS _ _).symm;refine⟨?_,λz=> ?_⟩
   . rw[List.pairwise_append,List.pairwise_cons];refine⟨h.sublist (List.take_sublist _ _),⟨λz d=> ?_,h.sublist (List.drop_sublist _ _)⟩,λy c z d=> ?_⟩
     . obtain⟨k,a,rfl⟩:=List.mem_iff_getElem.1 d;rw[List.getElem_drop];rw[List.length_drop]at a;have m:=g2 (IJ out x+k) ah ah;by_cases q:k=0
       . grind
       . have n:=g2 (IJ out x) ah ah;have o:=List.pairwise_iff_getElem.1 h (IJ out x) (IJ out x+k) ah ah ah;omega
     . obtain⟨k,a,rfl⟩:=List.mem_iff_getElem.1 c;grind
   . rw[AAo,AAr];constructor
     all_goals grind
theorem insAll_eq(l:iq):insAll l=OI l:=by
 have key:∀(l a:iq),a.Pairwise (· < ·)->(l.foldl ins a).Pairwise (· < ·)/\∀z,z∈l.foldl ins a↔z∈a\/z∈l:=by
  intro l;induction l with
  |nil=>simp_all
  |cons x l ih=>intro a h;obtain⟨b,c⟩:=ins_facts a x h;grind
 obtain⟨b,c⟩:=key l [] ak;exact iW b (MI l) λz=>by rw[Kg];have:=c z;simpa[insAll]using this
def KF(c:Int):Bool:=(decide (97<=c)&&decide (c<=122))||(decide (65<=c)&&decide (c<=90))
def PH(c:Int):Bool:=KF c||((decide (48<=c)&&decide (c<=57))||c==95)
def LD(s:ABv)(i:Nat):Int:=((s.get! i).toNat:Int)
def Qb(s:ABv)(i:Nat):Bool:=KF (LD s i)||(decide (0<i)&&((decide (48<=LD s i)&&decide (LD s i<=57))||LD s i==95))
theorem iJ(s:ABv)(i:Nat)(h:(s.get! i).toNat<128):Utf8.decode s i=((s.get! i).toNat,1):=by unfold Utf8.decode;simp[h]
theorem sR(s:ABv)(i:Nat)(h:¬(s.get! i).toNat<128):128<=(Utf8.decode s i).1:=by
 unfold Utf8.decode;simp only[Nat.add_zero,h,AAk];have a:128<=Utf8.runeError:=bg
 grind
def wT(c:Int)(pos:Nat):Bool:=KF c||(decide (0<pos)&&((decide (48<=c)&&decide (c<=57))||c==95))
theorem VZ(s:ABv)(L:Nat->ABu Bool)(pos:Nat)(a:pos<s.size):
 DF.L1 s L pos=if wT ((Utf8.decode s pos).1:Int) pos=true then L (pos+(Utf8.decode s pos).2)else some false:=by
 unfold DF.L1;rw[BC a];unfold DF.J2 DF.J3 wT KF;grind
theorem Nu(s:ABv):∀(n pos:Nat),pos<=s.size->s.size<n+pos->DF.AW s n pos=some ((List.range' pos (s.size-pos)).all (Qb s))
 |0,pos,h1,h2=>ah
 |n+1,pos,h1,h2=>by
  unfold DF.AW;by_cases b:pos<s.size
  . rw[VZ s _ pos b];have c:List.range' pos (s.size-pos)=pos::List.range' (pos+1) (s.size-(pos+1)):=(by rw[show s.size-pos=(s.size-(pos+1))+1 from by omega,List.range'_succ]);rw[c,ABF];by_cases a:(s.get! pos).toNat<128
    . rw[iJ s pos a,Nu s n (pos+1) ah ah];show(if Qb s pos=true then _ else _)=_
      grind
    . have f:=sR s pos a;have e:Qb s pos=false:=(by unfold Qb KF LD;simp;omega);have d:wT ((Utf8.decode s pos).1:Int) pos=false:=(by unfold wT KF;simp;omega);simp_all
  . unfold DF.L1;rw[Ad b];have:s.size-pos=0:=ah;simp[DF.J4,this]
theorem xU(h:i<x.size):sgt x (i:Int)=some (x.get! i):=by
 unfold sgt;rw[AAb ah];simp only[AA9];rw[getElem?_pos x i h];congr 1;have e:x.get! i=x[i]:=by simp[ByteArray.get!,getElem!_pos,h];rfl
 grind
theorem Pw(c:Int):Ge c=some (KF c):=by unfold Ge Ge.J1 KF;grind
theorem Zl(c:Int):Hu c=some (PH c):=by unfold Hu Ia;rw[Pw,AAS];unfold Hu.J1 Ia.J1 PH;grind
theorem Nk(s:ABv)(c:s.size<=12):∀(n i:Nat),i<=s.size->s.size<n+i->CO.AW s n i=some ((List.range' i (s.size-i)).all λk=>PH (LD s k))
 |0,pos,h1,h2=>ah
 |n+1,i,h1,h2=>by
  unfold CO.AW CO.L1;by_cases b:i<s.size
  . rw[BC ah,xU b,AAS,Zl,AAS,Af ah,Nk s c n (i+1) ah ah];have a:List.range' i (s.size-i)=i::List.range' (i+1) (s.size-(i+1)):=(by rw[show s.size-i=(s.size-(i+1))+1 from by omega,List.range'_succ]);rw[a,ABF];show(if(!(PH (LD s i)))=true then _ else _)=_
    grind
  . rw[Ad ah];have:s.size-i=0:=ah;simp[CO.J2,this]
theorem Qg(s:ABv):∀(n i:Nat),i<=22->22<n+i->D9.AW s n i=some ((Mw.drop i).any λx=>s.toList==x.toList)
 |0,pos,h1,h2=>ah
 |n+1,i,h1,h2=>by
  have b:Mw.length=22:=rfl;unfold D9.AW D9.L1;by_cases c:i<22
  . have a:i<Mw.length:=ah;rw[BC ah,AAb ah,B4 a,AAS,Af ah,Qg s n (i+1) ah ah,EH a,List.any_cons];grind
  . rw[Ad ah];have:Mw.drop i=[]:=List.drop_eq_nil_of_le ah;simp[D9.J1,this]
def isKw(s:ABv):Bool:=Mw.any λx=>s.toList==x.toList
theorem Tz(s:ABv):D9 s=some (isKw s):=Qg s BT 0 ah bg
theorem U3:Kz=some Mw:=rfl
theorem Lw(s:ABv)(v:jf)(b:v.length<=100):∀(n i:Nat),i<=v.length->v.length<n+i->Dj.AW s v n i=some ((v.drop i).any λx=>x.toList==s.toList)
 |0,pos,h1,h2=>ah
 |n+1,i,h1,h2=>by
  unfold Dj.AW Dj.L1;by_cases a:i<v.length
  . rw[BC ah,B4 a,AAS,Af ah,Lw s v b n (i+1) ah ah,EH a,List.any_cons];grind
  . rw[Ad ah];have:v.drop i=[]:=List.drop_eq_nil_of_le ah;simp[Dj.J1,this]
theorem Tn(s:ABv):Dj s=some (isKw s):=by unfold Dj;rw[U3,AAS];refine(Lw s Mw bg BT 0 ah bg).trans ?_;rw[AAz];congr 1;unfold isKw;grind
def Ul(s:ABv):Bool:=decide (1<=s.size)&&decide (s.size<=12)&& !isKw s&&(List.range' 0 s.size).all (Qb s)
theorem X0(s:ABv):DF s=some (Ul s):=by
 unfold DF;by_cases c:s.size<1
 . rw[BC ah];simp[DF.J1,Ul];omega
 . rw[Ad ah];by_cases d:s.size>12
   . rw[BC ah];simp[DF.J1,Ul];omega
   . rw[Ad ah,Tz,AAS];unfold DF.J1;rw[Nu s BT 0 ah (by have:BT=18446744073709551616:=rfl;omega)];have a:1<=s.size:=ah;have b:s.size<=12:=ah;simp only[Ul,a,b,decide_true,AAq,Nat.sub_zero];grind
theorem uA(s:ABv)(h:0<s.size):(KF (LD s 0)&&(List.range' 0 s.size).all λk=>PH (LD s k))=(List.range' 0 s.size).all (Qb s):=by
 have b:List.range' 0 s.size=0::List.range' 1 (s.size-1):=by rw[show s.size=(s.size-1)+1 from by omega,List.range'_succ];simp
 rw[b,ABF,ABF];have c:Qb s 0=KF (LD s 0):=by simp[Qb]
 have d:PH (LD s 0)=(KF (LD s 0)||((decide (48<=LD s 0)&&decide (LD s 0<=57))||LD s 0==95)):=rfl;have f:(List.range' 1 (s.size-1)).all (Qb s)=(List.range' 1 (s.size-1)).all λk=>PH (LD s k):=by
  rw[ABs,AAY,AAY];have e:∀k∈List.range' 1 (s.size-1),Qb s k=PH (LD s k):=λk a=>by have:0<k:=(by have:=List.mem_range'_1.1 a;omega);simp[Qb,PH,this]
  exact⟨λh k a=>e k a▸h k a,λh k a=>(e k a).symm▸h k a⟩
 grind
theorem Pv(s:ABv):CO s=some (Ul s):=by
 unfold CO;by_cases c:s.size<1
 . rw[BC ah];simp[CO.J1,Ul];omega
 . rw[Ad ah];by_cases d:s.size>12
   . rw[BC ah];simp[CO.J1,Ul];omega
   . rw[Ad ah,show(0:Int)=((0:Nat):Int)from rfl,xU ah,AAS,Pw,AAS,Tn,AAS];unfold CO.J1;rw[show(0:Int)=((0:Nat):Int)from rfl,Nk s ah BT 0 ah (by have:BT=18446744073709551616:=rfl;omega)];have a:1<=s.size:=ah;have b:s.size<=12:=ah;simp only[Ul,a,b,decide_true,AAq,Nat.sub_zero];rw[<- uA s ah];show(if(!KF (LD s 0))=true then _ else _)=_
     grind
instance:Inhabited Kj:=⟨⟨⟨#[]⟩,false⟩⟩
theorem ba_beq(a b:ABv):(a==b)=(a.data==b.data):=by cases a;cases b;rfl
theorem zF(a b:ABv):(a.toList==b.toList)=(a==b):=by rw[ba_beq,ABs,AAh,AAh,ByteArray.toList_eq,ByteArray.toList_eq];simp_all
theorem WZ(wv:AF)(L1 L1':ku)(F:List ABv×Bool->ABu (List ABv×Bool))(e:F ([],false)=some ([],false))(f:∀a b,L1 a b=(L1' a b).bind F)(i:Int)(l:jf)(x:Du):
 ∀(m:Nat)(k:Int)(c:Du),c.di=x.di->c.B3=x.B3->c.Hk=false->c.db=x.db->
  Bg.CC L1 i l wv x m k=(Aa.CC L1' i wv.df l x m c k).bind F
 |0,k,c,_,_,_,_=>rfl
 |m+1,k,c,e1,e2,e3,e4=>by
  have o:=λp=>WZ wv L1 L1' F e f i l x m p ⟨c.di,k,c.B3,c.Hk,c.db⟩ e1 e2 e3 e4;unfold Bg.CC Aa.CC Bg.L2 Aa.L2;by_cases d:k<x.B3
  . rw[BC d,BC d];cases gt wv.df (A6 (i+k))with
    |none=>rfl
    |some y=>simp only[AAS,Bg.J2,o,e1,e2,e3,e4];by_cases g:y.dz=k<;>by_cases h:y.di.toList=x.di.toList<;>by_cases j:y.B3=x.B3<;>by_cases n:y.db=x.db<;>cases a5:y.Hk<;>simp[g,h,j,n,e]
  . rw[Ad d,Ad d];simp only[Bg.J3,Aa.J2,f,e2]
def N0(wv:AF):List ABv×Bool->ABu (List ABv×Bool):=λv=>if v.2=true then Bg.J4 wv v.1 else some ([],false)
theorem eF(wv:AF)(l:wv.df.length<=12):∀(n:Nat)(names:jf)(i:Int),
 Bg.AW wv n names i=(Aa.AW wv.df n names i).bind (N0 wv)
 |0,_,_=>rfl
 |n+1,names,i=>by
  have j:=eF wv l n;unfold Bg.AW Aa.AW Bg.L1 Aa.L1;by_cases hi:i<(wv.df.length:Int)
  . rw[BC hi,BC hi];cases hx:gt wv.df i with
    |none=>rfl
    |some x=>
     simp only[AAS];by_cases g:Am (names.length+1) 16=true
     . rw[AAb g,AAb g];by_cases d:x.B3=0
       . simp only[d,ABM,AAy,j];by_cases c:x.dz=0<;>simp[c,N0]
       . simp only[d,AAh,AAk,Bg.J1,Aa.J1];by_cases c:x.B3<1
         . simp[c,N0]
         . by_cases e:x.B3>4
           . simp[c,e,N0]
           . simp only[c,e,decide_false,AAd,AAk];have m:=WZ wv _ _ (N0 wv) rfl (λa b=>j a b) i names x BT 0 x rfl rfl;by_cases f:x.B3>A6 ((wv.df.length:Int)-i)
             . cases x.Hk<;>simp[f,N0]
             . simp only[f,decide_false,AAd,AAk];cases hv:x.Hk with
               |false=>simp_all
               |true=>
                simp only[AAy];have o:0<=i:=by
                 unfold gt at hx;by_cases h:0<=i
                 . exact h
                 . simp_all
                show Bg.CC _ _ _ _ _ BT 0=_;rw[show BT=18446744073709551615+1 from rfl];unfold Bg.CC Bg.L2;rw[BC ah,CG ah ah,Int.add_zero,hx];simp only[AAS,Bg.J2,hv];by_cases k:x.dz=0<;>simp[k,N0]
     simp_all
  . rw[Ad hi,Ad hi];simp[Aa.J3,N0]
theorem NV(l:mt)(j:l.length<=12)(L1:ku)(names:jf)(x:Du)(i:Nat)(d:1<=x.B3)(f:x.B3<=4)(n:x.B3<=(l.length:Int)-i)(Q:List ABv×Bool->Prop)(g:Q ([],false))(b:∃v,L1 (names++[x.di]) ((i+x.B3.toNat:Nat):Int)=some v/\Q v):
 ∀(m k:Nat)(a:Du),a.B3=x.B3->k<=x.B3->x.B3<(m+k:Nat)->∃v,Aa.CC L1 (i:Int) l names x m a (k:Int)=some v/\Q v
 |0,k,a,e,h,h'=>ah
 |m+1,k,a,e,h,h'=>by
  unfold Aa.CC Aa.L2;by_cases c:(k:Int)<x.B3
  . rw[BC c,CG ah ah,show(i:Int)+(k:Int)=((i+k:Nat):Int)from by omega,B4 ah,AAS,Af ah];split
    . simp_all
    . exact NV l j L1 names x i d f n Q g b m (k+1) _ e ah ah
  . rw[Ad c];unfold Aa.J2;rw[e,CG ah ah,show(i:Int)+x.B3=((i+x.B3.toNat:Nat):Int)from by omega];exact b
theorem NW(l:mt)(d:l.length<=12):∀(n i:Nat)(names:jf),i<=l.length->l.length<n+i->names.length<=i->∃v,Aa.AW l n names (i:Int)=some v/\v.1.length<=l.length
 |0,i,names,a,b,c=>ah
 |n+1,i,names,a,b,c=>by
  unfold Aa.AW Aa.L1;by_cases hi:i<l.length
  . rw[BC ah,B4 hi,AAS,Ba ah];have f:∃v,some (([],false):List ABv×Bool)=some v/\v.1.length<=l.length:=⟨_,rfl,ak⟩;generalize l[i]=x;by_cases e:x.B3=0
    . simp only[e,ABM,AAy];rw[Af ah];split
      . exact f
      . exact NW l d n (i+1) _ ah ah an
    . simp only[e,AAh,AAk,Aa.J1];rw[CG (n:=(l.length:Int)-i) ah ah];by_cases a:x.B3<1
      . simp[a]
      . by_cases b:x.B3>4
        . simp[a,b]
        . by_cases c:x.Hk=true
          . simp_all
          . by_cases g:x.B3>(l.length:Int)-i
            . simp_all
            . simp only[a,b,c,g,decide_false,AAd,AAk];refine NV l d _ names x i ah ah ah _ ak ?_ BT 0 x rfl ah bh;exact NW l d n (i+x.B3.toNat) _ ah ah an
  . rw[Ad ah];exact⟨_,rfl,an⟩
def Nd(wv:AF):List ABv:=wv.AK.map (·.di)++(wv.Ak.map (·.di)++(wv.AL++wv.AA))
def XM:List ABv->List ABv->Bool
 |_,[]=>true
 |seen,x::r=>Ul x&& !(seen.any λy=>y==x)&&XM (seen++[x]) r
structure Small (wv:AF):Prop where
 c:wv.df.length<=12
 l:wv.AK.length<=4
 d:wv.Ak.length<=2
 f:wv.AL.length<=2
 t:wv.AA.length<=4
 s:wv.Be.length<=60
theorem names.L3(wv:AF)(a:jf)(c:(a++wv.AL++wv.AA).length<=1000):∀(n i:Nat)(b:jf),i<=(a++wv.AL++wv.AA).length->(a++wv.AL++wv.AA).length<n+i->
 BU.Gc a wv n (i:Int) b=some (XM b ((a++wv.AL++wv.AA).drop i))
 |0,i,b,h1,h2=>ah
 |n+1,i,b,h1,h2=>by
  unfold BU.Gc BU.L3;by_cases hi:i<(a++wv.AL++wv.AA).length
  . rw[BC ah,B4 hi,AAS,X0,AAS,EH hi];unfold BU.J3;rw[Af ah,names.L3 wv a c n (i+1) _ ah ah];generalize (a++wv.AL++wv.AA)[i]=x;rw[XM];grind
  . rw[Ad ah,E6 hi];rfl
theorem names.J2(wv:AF)(b:Small wv)(a:jf)(c:a.length<=100):BU.J2 wv a=some (XM [] (a++(wv.AL++wv.AA))):=by
 have:=b.f;have:=b.t;have d:=BP;unfold BU.J2;rw[Ba ah,Ba an]
 have:=names.L3 wv a an BT 0 [] ah an;simp_all
theorem names.L2(wv:AF)(b:Small wv):∀(n i:Nat)(a:jf),i<=wv.Ak.length->wv.Ak.length<n+i->a.length<=50+i->BU.CC wv n a (i:Int)=some (XM [] (a++((wv.Ak.drop i).map (·.di)++(wv.AL++wv.AA))))
 |0,i,a,h1,h2,h3=>ah
 |n+1,i,a,h1,h2,h3=>by
  have:=b.d;unfold BU.CC BU.L2;by_cases hi:i<wv.Ak.length
  . rw[BC ah,B4 hi,AAS,Ba ah,Af ah,names.L2 wv b n (i+1) _ ah ah an,EH hi];grind
  . rw[Ad ah,E6 hi,names.J2 wv b a ah];simp
theorem names.L1(wv:AF)(b:Small wv):∀(n i:Nat)(a:jf),i<=wv.AK.length->wv.AK.length<n+i->a.length<=20+i->BU.AW wv n a (i:Int)=some (XM [] (a++((wv.AK.drop i).map (·.di)++(wv.Ak.map (·.di)++(wv.AL++wv.AA)))))
 |0,i,a,h1,h2,h3=>ah
 |n+1,i,a,h1,h2,h3=>by
  have:=b.l;have:=b.d;have c:=BP;unfold BU.AW BU.L1;by_cases hi:i<wv.AK.length
  . rw[BC ah,B4 hi,AAS,Ba ah,Af ah,names.L1 wv b n (i+1) _ ah ah an,EH hi];grind
  . rw[Ad ah,E6 hi];unfold BU.J1
    have:=names.L2 wv b BT 0 a ah ah ah;simp_all
theorem names_eq(wv:AF)(b:Small wv)(a:jf)(d:a.length<=12):BU wv a=some (XM [] (a++Nd wv)):=by
 have:=b.l;have c:=BP;unfold BU;rw[Ba ah]
 have:=names.L1 wv b BT 0 a ah ah ah;rw[AAz]at this;exact this
theorem Pb.J6(wv:AF)(b:Small wv)(a:jf)(c:a.length<=100):Bg.J6 wv a=some (a++(wv.AL++wv.AA),true):=by have:=b.f;have:=b.t;unfold Bg.J6;rw[Ba ah,Ba an,ABi]
theorem Pb.L4(wv:AF)(b:Small wv):∀(n i:Nat)(a:jf),i<=wv.Ak.length->wv.Ak.length<n+i->a.length<=50+i->Bg.L4r wv n a (i:Int)=some (a++((wv.Ak.drop i).map (·.di)++(wv.AL++wv.AA)),true)
 |0,i,a,h1,h2,h3=>ah
 |n+1,i,a,h1,h2,h3=>by
  have:=b.d;unfold Bg.L4r Bg.L4;by_cases hi:i<wv.Ak.length
  . rw[BC ah,B4 hi,AAS,Ba ah,Af ah,Pb.L4 wv b n (i+1) _ ah ah an,EH hi];grind
  . rw[Ad ah,E6 hi,Pb.J6 wv b a ah];simp
theorem Pb.L3(wv:AF)(b:Small wv):∀(n i:Nat)(a:jf),i<=wv.AK.length->wv.AK.length<n+i->a.length<=20+i->Bg.Gc wv n a (i:Int)=some (a++((wv.AK.drop i).map (·.di)++(wv.Ak.map (·.di)++(wv.AL++wv.AA))),true)
 |0,i,a,h1,h2,h3=>ah
 |n+1,i,a,h1,h2,h3=>by
  have:=b.l;have:=b.d;have c:=BP;unfold Bg.Gc Bg.L3;by_cases hi:i<wv.AK.length
  . rw[BC ah,B4 hi,AAS,Ba ah,Af ah,Pb.L3 wv b n (i+1) _ ah ah an,EH hi];grind
  . rw[Ad ah,E6 hi];unfold Bg.J5
    have:=Pb.L4 wv b BT 0 a ah ah ah;simp_all
theorem Pb.J4(wv:AF)(b:Small wv)(a:jf)(c:a.length<=12):Bg.J4 wv a=some (a++Nd wv,true):=by
 have:=b.l;have d:=BP;unfold Bg.J4
 have:=Pb.L3 wv b BT 0 a ah ah ah;rw[AAz]at this;exact this
theorem wA(l:jf)(x:ABv)(a:l.length<=1000):∀(n i:Nat),i<=l.length->l.length<n+i->∃r,Ch.AW l x n (i:Int)=some r/\(0<=r↔((l.drop i).any λy=>y==x)=true)
 |0,i,h1,h2=>ah
 |n+1,i,h1,h2=>by
  unfold Ch.AW Ch.L1;by_cases hi:i<l.length
  . rw[BC ah,B4 hi,AAS,Af ah,EH hi,zF,List.any_cons];obtain⟨r,b,c⟩:=wA l x a n (i+1) ah ah;grind
  . rw[Ad ah,E6 hi];exact⟨-1,rfl,ak⟩
theorem at_eq(l:jf)(x:ABv)(c:l.length<=1000):∃r,Ch l x=some r/\decide (r>=0)=(l.any λy=>y==x):=by obtain⟨r,a,b⟩:=wA l x c BT 0 ah bh;rw[AAz]at b;refine⟨r,a,?_⟩;grind
theorem Wy(wv:AF)(v:List ABv×Bool)(d:v.1.length<=1000):∀(n i:Nat),i<=v.1.length->v.1.length<n+i->
 Ay.AW v wv n (i:Int)=if XM (v.1.take i) (v.1.drop i)=true then Ay.J3 wv else some false
 |0,i,h1,h2=>ah
 |n+1,i,h1,h2=>by
  unfold Ay.AW Ay.L1;by_cases hi:i<v.1.length
  . rw[BC ah,B4 hi,AAS,Pv,AAS,EH hi,AAb (c:=0<=(i:Int)/\(i:Int).toNat<=v.1.length) an,AA9];obtain⟨r,a,b⟩:=at_eq (v.1.take i) v.1[i] an;rw[a,AAS,b];unfold Ay.J2;rw[Af ah,Wy wv v d n (i+1) ah ah,XM,AAp hi];grind
  . rw[Ad ah,E6 hi];rfl
def HY(nt:Nat):Int->Int->List EG->Bool
 |_,_,[]=>true
 |t,n,x::r=>if x.cr<t\/x.cr>=nt then false else if x.cr>t then x.ek==0&&HY nt x.cr 1 r else x.ek==n&&HY nt t (n+1) r
theorem Ty(wv:AF)(b:Small wv):∀(n i:Nat)(t:Int)(a:Nat),i<=wv.Be.length->wv.Be.length<n+i->a<=i->Cv.AW wv n t (a:Int) (i:Int)=some (HY wv.AA.length t a (wv.Be.drop i))
 |0,i,t,a,h1,h2,h3=>ah
 |n+1,i,t,a,h1,h2,h3=>by
  have:=b.s;unfold Cv.AW Cv.L1;by_cases hi:i<wv.Be.length
  . rw[BC ah,B4 hi,AAS,EH hi];simp only[Cv.J1,Cv.J2];rw[Af (i:=i) ah,Af (i:=a) ah,show A6 (0+1)=((1:Nat):Int)from rfl];rw[Ty wv b n (i+1) _ (a+1) ah ah ah,Ty wv b n (i+1) _ 1 ah ah ah];generalize wv.Be[i]=x;rw[HY];grind
  . rw[Ad ah,E6 hi];rfl
theorem W0(wv:AF)(j:Small wv):∀(n i:Nat)(t:Int)(e:Nat),i<=wv.Be.length->wv.Be.length<n+i->e<=i->(∀(h:0<i)(y:i-1<wv.Be.length),t=wv.Be[i-1].cr/\(e:Int)=wv.Be[i-1].ek+1)->(i=0->t=0/\e=0)->0<=t->
 Ay.Gc wv n (i:Int)=some (HY wv.AA.length t e (wv.Be.drop i))
 |0,i,t,e,h1,h2,h3,_,_,_=>ah
 |n+1,i,t,e,h1,h2,h3,h4,h5,h6=>by
  have:=j.s;unfold Ay.Gc Ay.L3;by_cases hi:i<wv.Be.length
  . rw[BC ah,B4 hi,AAS,EH hi];have v:∀(f:Int)(d:Nat),d<=i+1->(f=wv.Be[i].cr/\(d:Int)=wv.Be[i].ek+1)->0<=f->Ay.Gc wv n ((i+1:Nat):Int)=some (HY wv.AA.length f d (wv.Be.drop (i+1))):=
     λf d a b c=>W0 wv j n (i+1) f d ah ah a (λ_ _=>b) ah c
    simp only[Ay.J6,Ay.J7,Ay.J8,Ay.J9];rw[Af (i:=i) ah];rw[HY];by_cases a0:wv.Be[i].cr<0
    . grind
    . by_cases k:wv.Be[i].cr>=(wv.AA.length:Int)
      . grind
      . simp only[a0,k,decide_false,ABK,AAd,AAk];by_cases z:i=0
        . grind
        . have q:((i:Int)==0)=false:=an;have g:gt wv.Be (A6 ((i:Int)-1))=some wv.Be[i-1]:=(by rw[CG ah ah,show(i:Int)-1=((i-1:Nat):Int)from by omega,B4 ah]);obtain⟨o,p⟩:=h4 ah ah;have u:A6 (wv.Be[i-1].ek+1)=(e:Int):=(by rw[<- p];exact CG (by omega) (by omega));have r:decide ((i:Int)>0)=true:=an;simp only[q,g,AAS,AAd,AAk,u,<- o,r,AAy];by_cases l:t=wv.Be[i].cr
          . have w:¬wv.Be[i].cr<t:=ah;have x:¬wv.Be[i].cr>t:=ah;simp only[l,bne_self_eq_false,AAd,AAk,Int.lt_irrefl,gt_iff_lt];by_cases m:wv.Be[i].ek=(e:Int)
            . simp only[m,bne_self_eq_false,AAd,AAk,ABM,AAq];rw[v wv.Be[i].cr (e+1) ah ⟨rfl,ah⟩ ah];rfl
            grind
          grind
  . rw[Ad ah,E6 hi];rfl
theorem sites_eq(wv:AF)(a:Small wv):Cv wv=some (HY wv.AA.length 0 0 wv.Be):=by have:=Ty wv a BT 0 0 0 ah (by have:=a.s;have:=BP;omega) ah;rw[AAz]at this;exact this
theorem rsites_eq(wv:AF)(a:Small wv):Ay.J5 wv=some (HY wv.AA.length 0 0 wv.Be):=by have:=W0 wv a BT 0 0 0 ah (by have:=a.s;have:=BP;omega) ah ah ak ah;rw[AAz]at this;exact this
def Sn(wv:AF)(c:T8):Bool:=Cp c.dm wv.AK.length&& !(ix wv.AK c.dm).RW
theorem Oq(i:Int)(n:Nat):Fg i (n:Int)=some (Cp i n):=by unfold Fg Fg.J1 Cp;grind
theorem Yt(wv:AF)(a:Small wv):∀(n i:Nat),i<=wv.Ak.length->wv.Ak.length<n+i->Bw.AW wv n (i:Int)=if(wv.Ak.drop i).all (Sn wv)=true then some (HY wv.AA.length 0 0 wv.Be)else some false
 |0,i,h1,h2=>ah
 |n+1,i,h1,h2=>by
  have:=a.d;unfold Bw.AW Bw.L1;by_cases hi:i<wv.Ak.length
  . rw[BC ah,B4 hi,AAS,EH hi,Af ah,Yt wv a n (i+1) ah ah,ABF];generalize wv.Ak[i]=c;unfold Gl;rw[Oq,AAS];unfold Sn Gl.J1;cases h:Cp c.dm wv.AK.length with
    |false=>simp
    |true=>rw[AAb rfl,B6 h,AAS,AAS];grind
  . rw[Ad ah,E6 hi];unfold Bw.J4;rw[sites_eq wv a];rfl
theorem Wq(wv:AF)(a:Small wv):∀(n i:Nat),i<=wv.Ak.length->wv.Ak.length<n+i->Ay.CC wv n (i:Int)=if(wv.Ak.drop i).all (Sn wv)=true then some (HY wv.AA.length 0 0 wv.Be)else some false
 |0,i,h1,h2=>ah
 |n+1,i,h1,h2=>by
  have:=a.d;unfold Ay.CC Ay.L2;by_cases hi:i<wv.Ak.length
  . unfold Ay.J4;rw[BC ah,B4 hi,AAS,EH hi,Af ah,Wq wv a n (i+1) ah ah,ABF];generalize wv.Ak[i]=c;unfold Sn;by_cases b:c.dm<0
    . have:Cp c.dm wv.AK.length=false:=br;simp_all
    . by_cases e:c.dm>=(wv.AK.length:Int)
      . have:Cp c.dm wv.AK.length=false:=br;simp_all
      . have h:Cp c.dm wv.AK.length=true:=br;rw[Ad b,Ad e,B6 h,AAS,h];grind
  . rw[Ad ah,E6 hi];exact rsites_eq wv a
def Cy(wv:AF):Bool:=decide (wv.df.length<=12)&&decide (wv.AK.length<=4)&&decide (wv.Ak.length<=2)&&decide (wv.AL.length<=2)&&decide (1<=wv.AA.length)&&decide (wv.AA.length<=4)&&decide (wv.Be.length<=60)&&
 (match Aa wv.df with
 |some v=>v.2&&XM [] (v.1++Nd wv)&&wv.Ak.all (Sn wv)&&HY wv.AA.length 0 0 wv.Be
 |none=>false)
theorem Sk(wv:AF):Bw wv=some (Cy wv):=by
 unfold Bw Bw.J1;by_cases a:wv.df.length<=12
 . by_cases b:wv.AK.length<=4
   . by_cases c:wv.Ak.length<=2
     . by_cases d:wv.AL.length<=2
       . by_cases e:wv.Be.length<=60
         . rw[Ad ah,Ad ah,Ad ah,Ad ah,AAa an];unfold Bw.J2;by_cases g:1<=wv.AA.length
           . by_cases f:wv.AA.length<=4
             . have h:Small wv:=⟨a,b,c,d,f,e⟩;obtain⟨v,k,l⟩:=NW wv.df a BT 0 [] ah bh ak;have i:Aa wv.df=some v:=k;rw[Ad ah,AAa an,i,AAS];have j:Cy wv=(v.2&&XM [] (v.1++Nd wv)&&wv.Ak.all (Sn wv)&&HY wv.AA.length 0 0 wv.Be):=(by unfold Cy;rw[i];simp[a,b,c,d,e,g,f]);rw[j,names_eq wv h v.1 ah,AAS];unfold Bw.J3;have m:=Yt wv h BT 0 ah bh;grind
             . rw[Ad ah,AAb an];simp[Cy,f]
           . rw[BC ah,AAb rfl];simp[Cy,g]
         . rw[Ad ah,Ad ah,Ad ah,Ad ah,AAb an];simp[Cy,e]
       . rw[Ad ah,Ad ah,Ad ah,BC ah,AAb rfl];simp[Cy,d]
     . rw[Ad ah,Ad ah,BC ah,AAb rfl];simp[Cy,c]
   . rw[Ad ah,BC ah,AAb rfl];simp[Cy,b]
 . rw[BC ah,AAb rfl];simp[Cy,a]
theorem Ky(wv:AF):Ay wv=some (Cy wv):=by
 unfold Ay Ay.J1;by_cases a:wv.df.length<=12
 . by_cases c:wv.AK.length<=4
   . by_cases d:wv.Ak.length<=2
     . by_cases e:wv.AL.length<=2
       . by_cases h:1<=wv.AA.length
         . by_cases g:wv.AA.length<=4
           . by_cases f:wv.Be.length<=60
             . have k:Small wv:=⟨a,c,d,e,g,f⟩;obtain⟨v,j,n⟩:=NW wv.df a BT 0 [] ah bh ak;have o:Aa wv.df=some v:=j;rw[Ad ah,Ad ah,Ad ah,Ad ah,Ad ah,Ad ah,AAa an];have m:Cy wv=(v.2&&XM [] (v.1++Nd wv)&&wv.Ak.all (Sn wv)&&HY wv.AA.length 0 0 wv.Be):=(by unfold Cy;rw[o];simp[a,c,d,e,f,h,g]);have hn:Bg wv=N0 wv v:=(by have:=eF wv a BT [] 0;rw[show(0:Int)=((0:Nat):Int)from rfl,j]at this;exact this);rw[hn,m];unfold N0;have l:=Wq wv k BT 0 ah bh;rw[AAz]at l;cases lL:v.2 with
               |false=>simp
               |true=>rw[AAb rfl,Pb.J4 wv k v.1 ah,AAS,AAa ak];have b:(v.1++Nd wv).length<=1000:=(by simp[Nd];omega);have i:=Wy wv (v.1++Nd wv,true) b BT 0 ah (by have:=BP;grind);rw[List.take_zero,AAz]at i;rw[show(0:Int)=((0:Nat):Int)from rfl,i];unfold Ay.J3;grind
             . rw[Ad ah,Ad ah,Ad ah,Ad ah,Ad ah,Ad ah,AAb an];simp[Cy,f]
           . rw[Ad ah,Ad ah,Ad ah,Ad ah,Ad ah,BC ah,AAb rfl];simp[Cy,g]
         . rw[Ad ah,Ad ah,Ad ah,Ad ah,BC ah,AAb rfl];simp[Cy,h]
       . rw[Ad ah,Ad ah,Ad ah,BC ah,AAb rfl];simp[Cy,e]
     . rw[Ad ah,Ad ah,BC ah,AAb rfl];simp[Cy,d]
   . rw[Ad ah,BC ah,AAb rfl];simp[Cy,c]
 . rw[BC ah,AAb rfl];simp[Cy,a]
variable{wv:AF}
theorem Di(h:Cy wv=true):Small wv:=by unfold Cy at h;simp only[AAT,AAl]at h;obtain⟨⟨⟨⟨⟨⟨⟨a,b⟩,c⟩,d⟩,g⟩,e⟩,f⟩,i⟩:=h;exact⟨a,b,c,d,e,f⟩
instance:Inhabited T8:=⟨⟨⟨#[]⟩,0⟩⟩
instance:Inhabited Du:=⟨⟨⟨#[]⟩,0,0,false,0⟩⟩
instance:Inhabited EG:=⟨⟨0,0,0⟩⟩
instance:Inhabited AY:=⟨⟨0,[]⟩⟩
instance:Inhabited AM:=⟨⟨0,0,false⟩⟩
def KS(wv:AF):AQ:=⟨List.replicate wv.AK.length ⟨-1,[]⟩, -1,List.replicate wv.AL.length false,(List.replicate wv.AA.length ⟨0,0,false⟩).set 0 ⟨1,0,false⟩⟩
theorem start.L1(wv:AF)(a:Small wv)(D:jD)(T:ke)(tx:Int):∀(n i:Nat),i<=wv.AK.length->wv.AK.length<n+i->
 E1.AW wv n ⟨List.replicate i ⟨-1,[]⟩++List.replicate (wv.AK.length-i) ⟨0,[]⟩,tx,D,T⟩ (i:Int)=E1.J1 ⟨List.replicate wv.AK.length ⟨-1,[]⟩,tx,D,T⟩
 |0,i,h1,h2=>ah
 |n+1,i,h1,h2=>by
  have:=a.l;unfold E1.AW E1.L1;by_cases hi:i<wv.AK.length
  . rw[BC an];have e:List.replicate (wv.AK.length-i) (AY.mk 0 [])=AY.mk 0 []::List.replicate (wv.AK.length-(i+1)) (AY.mk 0 []):=(by rw[show wv.AK.length-i=(wv.AK.length-(i+1))+1 from by omega,List.replicate_succ]);have b:gt (List.replicate i (AY.mk (-1) [])++List.replicate (wv.AK.length-i) (AY.mk 0 [])) (i:Int)=some ⟨0,[]⟩:=(by rw[Jz,e,AAx (by simp)];simp);have c:(List.replicate i (AY.mk (-1) [])++List.replicate (wv.AK.length-i) (AY.mk 0 [])).set i (AY.mk (-1) [])=List.replicate (i+1) (AY.mk (-1) [])++List.replicate (wv.AK.length-(i+1)) (AY.mk 0 []):=(by rw[e,List.set_append_right _ _ (by simp)];simp only[ABd,Nat.sub_self,List.set_cons_zero];rw[ABq];simp);simp only[b,AAS,AA9,c];rw[Af ah];exact start.L1 wv a D T tx n (i+1) ah ah
  . rw[Ad an];have:i=wv.AK.length:=ah;simp_all
theorem Xa(wv:AF)(a:Small wv):E1 wv=some (KS wv):=by
 have c:=a.l;have d:=a.f;have e:=a.t;have g:=BP;unfold E1;rw[AAb ⟨ah,ah,Bs ah⟩,AAb ⟨ah,ah,Bs ah⟩,AAb ⟨ah,ah,Bs ah⟩]
 have:=start.L1 wv a (List.replicate wv.AL.length false) (List.replicate wv.AA.length (AM.mk 0 0 false)) (-1) BT 0 ah ah;simp only[List.replicate_zero,List.nil_append,Nat.sub_zero,Int.natCast_zero]at this;rw[this];unfold E1.J1 E1.J2 KS;simp only[ABd];by_cases h:wv.AA.length=0
 . simp[h]
 . have b:0<wv.AA.length:=ah;rw[BC ah];have:gt (List.replicate wv.AA.length (AM.mk 0 0 false)) 0=some ⟨0,0,false⟩:=(by show gt _ ((0:Nat):Int)=_;rw[Jz];simp[b]);simp_all
theorem RC.L3(wv:AF)(a:Small wv)(L:ng)(D:jD)(tx:Int):∀(n i:Nat),i<=wv.AA.length->wv.AA.length<n+i->
 Ck.Gc wv n ⟨L,tx,D,(List.replicate i ⟨0,0,false⟩).set 0 ⟨1,0,false⟩⟩ (i:Int)=some ⟨L,tx,D,(List.replicate wv.AA.length ⟨0,0,false⟩).set 0 ⟨1,0,false⟩⟩
 |0,i,h1,h2=>ah
 |n+1,i,h1,h2=>by
  have:=a.t;unfold Ck.Gc Ck.L3;by_cases hi:i<wv.AA.length
  . unfold Ck.J3;rw[BC ah];simp only[List.length_set,ABd];rw[Ba ah,Ba ah,Af ah];have e:∀x,(if((i:Int)==0)=true then Ck.Gc wv n ⟨L,tx,D,(List.replicate i ⟨0,0,false⟩).set 0 ⟨1,0,false⟩++[⟨1,0,false⟩]⟩ x else Ck.Gc wv n ⟨L,tx,D,(List.replicate i ⟨0,0,false⟩).set 0 ⟨1,0,false⟩++[⟨0,0,false⟩]⟩ x)=Ck.Gc wv n ⟨L,tx,D,(List.replicate (i+1) ⟨0,0,false⟩).set 0 ⟨1,0,false⟩⟩ x:=by
     intro x;cases i with
     |zero=>rfl
     |succ i=>rw[AAa an,ABq (n:=i+1),List.set_append_left _ _ ak]
    rw[e];exact RC.L3 wv a L D tx n (i+1) ah ah
  . rw[Ad ah];have:i=wv.AA.length:=ah;subst this;rfl
theorem RC.L2(wv:AF)(a:Small wv)(L:ng)(tx:Int):∀(n i:Nat),i<=wv.AL.length->wv.AL.length<n+i->
 Ck.CC wv n ⟨L,tx,List.replicate i false,[]⟩ (i:Int)=some ⟨L,tx,List.replicate wv.AL.length false,(List.replicate wv.AA.length ⟨0,0,false⟩).set 0 ⟨1,0,false⟩⟩
 |0,i,h1,h2=>ah
 |n+1,i,h1,h2=>by
  have:=a.f;unfold Ck.CC Ck.L2;by_cases hi:i<wv.AL.length
  . rw[BC ah];simp only[ABd];rw[Ba ah,Af ah,<- ABq];exact RC.L2 wv a L tx n (i+1) ah ah
  . rw[Ad ah];have:i=wv.AL.length:=ah;subst this;unfold Ck.J2;exact RC.L3 wv a L _ tx BT 0 ah (by have:=a.t;have:=BP;omega)
theorem RC.L1(wv:AF)(a:Small wv):∀(n i:Nat),i<=wv.AK.length->wv.AK.length<n+i->
 Ck.AW wv n ⟨List.replicate i ⟨-1,[]⟩, -1,[],[]⟩ (i:Int)=some (KS wv)
 |0,i,h1,h2=>ah
 |n+1,i,h1,h2=>by
  have:=a.l;unfold Ck.AW Ck.L1;by_cases hi:i<wv.AK.length
  . rw[BC ah];simp only[ABd];rw[Ba ah,Af ah,<- ABq];exact RC.L1 wv a n (i+1) ah ah
  . rw[Ad ah];have:i=wv.AK.length:=ah;subst this;unfold Ck.J1;exact RC.L2 wv a _ (-1) BT 0 ah (by have:=a.f;have:=BP;omega)
theorem Q4(wv:AF)(a:Small wv):Ck wv=some (KS wv):=RC.L1 wv a BT 0 ah (by have:=a.l;have:=BP;omega)
def Hi(wv:AF):AD:=⟨KS wv,wv.df.map (·.db),List.replicate wv.AL.length 0,List.replicate wv.AA.length 0⟩
theorem wstart.L1(wv:AF)(a:Small wv)(S:AQ)(F C:iq):∀(n i:Nat),i<=wv.df.length->wv.df.length<n+i->
 Ei.AW wv n ⟨S,(wv.df.take i).map (·.db),F,C⟩ (i:Int)=some ⟨S,wv.df.map (·.db),F,C⟩
 |0,i,h1,h2=>ah
 |n+1,i,h1,h2=>by
  have:=a.c;unfold Ei.AW Ei.L1;by_cases hi:i<wv.df.length
  . rw[BC ah,B4 hi,AAS];simp only;rw[Ba an,Af ah];have e:(wv.df.take i).map (·.db)++[wv.df[i].db]=(wv.df.take (i+1)).map (·.db):=(by rw[<- AAp hi,AA5];rfl);rw[e];exact wstart.L1 wv a S F C n (i+1) ah ah
  . rw[Ad ah,AA3 ah];rfl
theorem xQ.L1(wv:AF)(a:Small wv)(S:AQ)(F C:iq):∀(n i:Nat),i<=wv.df.length->wv.df.length<n+i->
 EX.AW wv n ⟨S,(wv.df.take i).map (·.db),F,C⟩ (i:Int)=some ⟨S,wv.df.map (·.db),F,C⟩
 |0,i,h1,h2=>ah
 |n+1,i,h1,h2=>by
  have:=a.c;unfold EX.AW EX.L1;by_cases hi:i<wv.df.length
  . rw[BC ah,B4 hi,AAS];simp only;rw[Ba an,Af ah];have e:(wv.df.take i).map (·.db)++[wv.df[i].db]=(wv.df.take (i+1)).map (·.db):=(by rw[<- AAp hi,AA5];rfl);rw[e];exact xQ.L1 wv a S F C n (i+1) ah ah
  . rw[Ad ah,AA3 ah];rfl
theorem Sh(wv:AF)(a:Small wv):Ei wv=some (Hi wv):=by have b:=a.c;have d:=a.f;have e:=a.t;have g:=BP;unfold Ei;rw[Xa wv a,AAS,AAb ⟨ah,ah,Bs ah⟩,AAb ⟨ah,ah,Bs ah⟩,AAb ⟨ah,ah,Bs ah⟩];exact wstart.L1 wv a (KS wv) _ _ BT 0 ah ah
theorem K5(wv:AF)(a:Small wv):EX wv=some (Hi wv):=by have b:=a.c;have d:=a.f;have e:=a.t;have g:=BP;unfold EX;rw[Q4 wv a,AAS,AAb ⟨ah,ah,Bs ah⟩,AAb ⟨ah,ah,Bs ah⟩];exact xQ.L1 wv a (KS wv) _ _ BT 0 ah ah
variable{s:AQ}{g:ke}{t:Int}
section
set_option maxHeartbeats 4000000
def Kh(i:Int)(n:Nat):Da i (n:Int)=some (Cp i n):=Oq i n
def oV(i:Int)(n:Nat):IP i (n:Int)=some (Cp i n):=Oq i n
def Wv(i:Int)(n:Nat):Lz i (n:Int)=some (Cp i n):=Oq i n
def HJ(wv:AF)(s:AQ):Bool:=wv.Ak.all (λc=>Cp c.dm wv.AK.length)&&(s.AK.length==wv.AK.length&&(s.Bp.length==wv.AL.length&&s.AA.length==wv.AA.length))
theorem PQ(a b:Nat):((a:Int)==(b:Int))=(a==b):=aS
theorem uG(a b:Nat):((a:Int) != (b:Int))= !(a==b):=aS
theorem Of(wv:AF)(a:Small wv):∀(n i:Nat),i<=wv.Ak.length->wv.Ak.length<n+i->ES.AW wv n (i:Int)=some ((wv.Ak.drop i).all λc=>Cp c.dm wv.AK.length)
 |0,i,h1,h2=>ah
 |n+1,i,h1,h2=>by
  have:=a.d;unfold ES.AW ES.L1;by_cases hi:i<wv.Ak.length
  . rw[BC ah,B4 hi,AAS,EH hi,Af ah,Of wv a n (i+1) ah ah,ABF,Kh,AAS];grind
  . rw[Ad ah,E6 hi];rfl
theorem PS(wv:AF)(b:Small wv)(s:AQ):ES wv s=some (HJ wv s):=by have a:=Of wv b BT 0 ah (by have:=b.d;have:=BP;omega);rw[AAz]at a;unfold ES ES.J1 HJ;rw[uG,uG,uG,show(0:Int)=((0:Nat):Int)from rfl,a];grind
theorem P3(wv:AF)(a:Small wv)(s:AQ):∀(n i:Nat),i<=wv.Ak.length->wv.Ak.length<n+i->E8.AW s wv n (i:Int)=some (((wv.Ak.drop i).all λc=>Cp c.dm wv.AK.length)&&(s.AK.length==wv.AK.length&&(s.Bp.length==wv.AL.length&&s.AA.length==wv.AA.length)))
 |0,i,h1,h2=>ah
 |n+1,i,h1,h2=>by
  have:=a.d;unfold E8.AW E8.L1;by_cases hi:i<wv.Ak.length
  . unfold E8.J1;rw[BC ah,B4 hi,AAS,EH hi,Af ah,P3 wv a s n (i+1) ah ah,ABF];generalize wv.Ak[i]=c;by_cases b:c.dm<0
    . have:Cp c.dm wv.AK.length=false:=br;simp_all
    . by_cases e:c.dm>=(wv.AK.length:Int)
      . have:Cp c.dm wv.AK.length=false:=br;simp_all
      . have h:Cp c.dm wv.AK.length=true:=br;grind
  . rw[Ad ah,E6 hi];unfold E8.J2 E8.J3;rw[PQ,PQ,PQ];grind
theorem OE(wv:AF)(b:Small wv)(s:AQ):E8 wv s=some (HJ wv s):=by have a:=P3 wv b s BT 0 ah (by have:=b.d;have:=BP;omega);rw[AAz]at a;exact a
def JD(wv:AF)(s:AD):Bool:=HJ wv s.de&&(s.df.length==wv.df.length&&(s.AL.length==wv.AL.length&&s.dc.length==wv.AA.length))
theorem NI(wv:AF)(a:Small wv)(s:AD):E4 wv s=some (JD wv s):=by unfold E4 E4.J1 JD;rw[PS wv a,AAS,PQ,PQ,PQ];grind
theorem Sz(wv:AF)(a:Small wv)(s:AD):IB wv s=some (JD wv s):=by unfold IB IB.J1 JD;rw[OE wv a,AAS,PQ,PQ,PQ];grind
def Bm(wv:AF)(k o:Int):Bool:=
 if k=1\/k=2\/k=5\/k=12\/k=13\/k=14\/k=15 then o== -1
 else if k=3\/k=4 then Cp o wv.df.length
 else if k=6\/k=7 then Cp o wv.AK.length&& !(ix wv.AK o).RW
 else if k=8\/k=9\/k=10\/k=11 then Cp o wv.AK.length&&(ix wv.AK o).RW
 else if k=16\/k=17\/k=18\/k=19 then Cp o wv.Ak.length
 else if k=20\/k=21 then Cp o wv.AA.length
 else if k=22\/k=23 then Cp o wv.AL.length
 else false
theorem lockRW(l:List Kj)(o:Int)(f g:Bool->ABu a)(y:ABu a)(d:∀b,f b=g b)(hn:y=g false)(c:Kj->Bool):(if Cp o l.length=true then(gt l o).bind λx=>f (c x)else y)=g (Cp o l.length&&c (ix l o)):=by
 cases h:Cp o l.length with
 |false=>simp[hn]
 |true=>rw[AAb rfl,B6 h,AAS,d];simp
theorem Nh(wv:AF)(o:Int):∀k,Cg wv k o=some (Bm wv k o):=by
 refine kinds ?_ ?_ ?_ ?_ ?_ ?_ ?_ ?_ ?_ ?_ ?_ ?_ ?_ ?_ ?_ ?_ ?_ ?_ ?_ ?_ ?_ ?_ ?_ (λk l m n p q r s t u a b y c d e w f g h v i z j=> ?_)
 all_goals
  unfold Cg Cg.J1;simp(decide:=true)only[Bm,Cg.J2,Cg.J3,Cg.J4,Cg.J5,Cg.J6,Cg.J7,Cg.J8,Cg.J9,Kh,AAS,ABM,AAy,AAk,AAh,ABK,or_true,true_or,false_or,AAd]
 all_goals first
  |done
  | (simp only[l,m,n,p,q,r,s,t,u,a,b,y,c,d,e,w,f,g,h,v,i,z,j,AAk,or_self];done)
  |exact lockRW wv.AK o some some (some false) (λ_=>rfl) rfl (λx=> !x.RW)
  |exact lockRW wv.AK o some some (some false) (λ_=>rfl) rfl (λx=>x.RW)
def Zz(wv:AF)(k o:Int):JJ wv k o=some (Bm wv k o):=Nh wv o k
theorem YS(l:iq)(v:Int)(a:l.length<=1000000000):∀(n i:Nat),i<=l.length->l.length<n+i->∃r,Gh.AW l v n (i:Int)=some r/\(0<=r↔v∈l.drop i)
 |0,i,h1,h2=>ah
 |n+1,i,h1,h2=>by
  unfold Gh.AW Gh.L1;by_cases hi:i<l.length
  . rw[BC ah,B4 hi,AAS,Af ah,EH hi];obtain⟨r,b,c⟩:=YS l v a n (i+1) ah ah;grind
  . rw[Ad ah,E6 hi];exact⟨-1,rfl,ak⟩
theorem YR(l:iq)(v:Int)(b:l.length<=1000000000):GG l v=some (l.contains v):=by obtain⟨r,c,a⟩:=YS l v b BT 0 ah bh;rw[AAz]at a;unfold GG Gh;simp_all
theorem l5(l:iq)(v:Int)(a:l.length<=1000000000):∀(n i:Nat),i<=l.length->l.length<n+i->Gw.AW l v n (i:Int)=some ((l.drop i).contains v)
 |0,i,h1,h2=>ah
 |n+1,i,h1,h2=>by
  unfold Gw.AW Gw.L1;by_cases hi:i<l.length
  . rw[BC ah,B4 hi,AAS,Af ah,EH hi,l5 l v a n (i+1) ah ah];grind
  . rw[Ad ah,E6 hi];rfl
theorem qF(l:iq)(v:Int)(a:l.length<=1000000000):Gw l v=some (l.contains v):=l5 l v a BT 0 ah bh
def RB(N:Nat)(s:AQ):Prop:=∀x∈s.AK,x.An.length<=N
theorem RB.ix(h:RB i s)(N:Int):(ix s.AK N).An.length<=i:=by
 unfold Abs.ix;cases hx:s.AK[N.toNat]? with
 |none=>exact Nat.zero_le _
 |some x=>exact h x (AAg hx)
def Jh(wv:AF)(s:AQ)(t k o:Int):Bool:=
 let me:=ix s.AA t
 if k=1 then me.dg==1
 else if k=17 then me.dg==4&&(me.Dy==o&&(ix s.AK (ix wv.Ak o).dm).B9== -1)
 else me.dg==2&&(
  if k=6 then(ix s.AK o).B9== -1
  else if k=10 then(ix s.AK o).B9== -1&&((ix s.AK o).An.length:Int)==0
  else if k=8 then(ix s.AK o).B9== -1&& !(ix s.AK o).An.contains t
  else if k=7\/k=11 then(ix s.AK o).B9==t
  else if k=9 then(ix s.AK o).An.contains t
  else if k=12 then s.Tx== -1
  else if k=13 then s.Tx==t
  else if k=14 then !me.dy
  else if k=15 then me.dy
  else if k=16\/k=18\/k=19 then(ix s.AK (ix wv.Ak o).dm).B9==t
  else if k=20 then o != t&&(ix s.AA o).dg==0
  else if k=21 then o != t&&(ix s.AA o).dg==5
  else if k=22 then !ix s.Bp o
  else if k=23 then ix s.Bp o
  else true)
def B7(wv:AF)(s:AQ)(t k o:Int):Bool:=HJ wv s&&(Cp t wv.AA.length&&(Bm wv k o&&Jh wv s t k o))
theorem EO(h:HJ wv s=true):s.AK.length=wv.AK.length/\s.Bp.length=wv.AL.length/\s.AA.length=wv.AA.length:=by unfold HJ at h;simp_all
theorem Ho(h:HJ wv s=true)(a:Cp o wv.Ak.length=true):Cp (ix wv.Ak o).dm wv.AK.length=true:=by
 unfold HJ at h;simp only[AAT,AAY]at h;obtain⟨b,c⟩:=BI.1 a;have d:o.toNat<wv.Ak.length:=ah
 refine h.1 _ ?_;unfold ix;simp_all
theorem Nf(wv:AF)(u:Small wv)(s:AQ)(b:RB 1000000000 s)(t o:Int):∀k,D8 wv s t k o=some (B7 wv s t k o):=by
 intro k;unfold D8 B7;rw[PS wv u,AAS];cases hf:HJ wv s with
 |false=>rfl
 |true=>
  rw[Kh,AAS];cases ht:Cp t wv.AA.length with
  |false=>rfl
  |true=>
   rw[Nh,AAS];cases a:Bm wv k o with
   |false=>rfl
   |true=>
    obtain⟨c,G,H⟩:=EO hf;have q:gt s.AA t=some (ix s.AA t):=B6 am;unfold D8.J1;simp only[Bool.not_true,AAd,AAk,AAq];rw[q,AAS];revert a;have F:=b.ix o;have r:=YR (ix s.AK o).An t (b.ix o);revert k;refine kinds ?_ ?_ ?_ ?_ ?_ ?_ ?_ ?_ ?_ ?_ ?_ ?_ ?_ ?_ ?_ ?_ ?_ ?_ ?_ ?_ ?_ ?_ ?_ (λk v w x y z B C D E d e K f g h J i j m I n L p=> ?_)
    all_goals
     intro a;unfold Jh;simp(decide:=true)only[Bm,ABK,or_true,true_or,false_or,AAy,AAk,AAT]at a;simp(decide:=true)only[D8.J2,D8.J3,Eg,Eg.J1,Eg.J2,Eg.J3,Eg.J4,Eg.J5,Eg.J6,ABM,AAh,AAy,AAk,ABK,or_true,true_or,false_or,AAd]
    all_goals first
     |done
     | (rw[B6 (l:=wv.Ak) a,AAS,B6 (l:=s.AK) (by rw[c];exact Ho hf a)];grind)
     | (rw[B6 (l:=wv.Ak) a,AAS,B6 (l:=s.AK) (by rw[c];exact Ho hf a)];grind)
     | (rw[B6 (l:=s.AK) am];grind)
     | (rw[B6 (l:=s.AA) am];grind)
     | (rw[B6 (l:=s.Bp) am];grind)
     |grind
     |grind
     |simp_all
     |skip
theorem NN(wv:AF)(v:Small wv)(s:AQ)(c:RB 1000000000 s)(t o:Int):∀k,Cu wv s t k o=some (B7 wv s t k o):=by
 intro k;unfold Cu B7;rw[OE wv v,AAS];cases hf:HJ wv s with
 |false=>rfl
 |true=>
  rw[oV,AAS];cases ht:Cp t wv.AA.length with
  |false=>rfl
  |true=>
   rw[Zz,AAS];cases a:Bm wv k o with
   |false=>rfl
   |true=>
    obtain⟨d,I,J⟩:=EO hf;have b:gt s.AA t=some (ix s.AA t):=B6 am;unfold Cu.J1;simp only[Bool.not_true,AAd,AAk,AAq];rw[b,AAS];revert a;have H:=c.ix o;have u:=qF (ix s.AK o).An t (c.ix o);revert k;refine kinds ?_ ?_ ?_ ?_ ?_ ?_ ?_ ?_ ?_ ?_ ?_ ?_ ?_ ?_ ?_ ?_ ?_ ?_ ?_ ?_ ?_ ?_ ?_ (λk w y z B C D E F G e f M g h i L j m n K p N q=> ?_)
    all_goals
     intro a;unfold Jh;simp(decide:=true)only[Bm,ABK,or_true,true_or,false_or,AAy,AAk,AAT]at a;simp(decide:=true)only[Cu.J2,Cu.J3,Cu.J4,Cu.J5,Cu.J6,Cu.J7,Cu.J8,ABM,AAh,AAy,AAk,ABK,or_true,true_or,false_or,AAd]
    all_goals first
     |done
     | (rw[B6 (l:=wv.Ak) a,AAS,B6 (l:=s.AK) (by rw[d];exact Ho hf a)];grind)
     | (rw[B6 (l:=wv.Ak) a,AAS,B6 (l:=s.AK) (by rw[d];exact Ho hf a)];grind)
     | (rw[B6 (l:=s.AK) am];grind)
     | (rw[B6 (l:=s.AA) am];grind)
     | (rw[B6 (l:=s.Bp) am];grind)
     |grind
     | (simp only[b,AAS];generalize (ix s.AA t).dg=x;by_cases r:x=2<;>simp[r];done)
     |simp_all
     |skip
theorem l9(l:iq)(x:Int)(m:l.length<=1000000000):∀(n i:Nat),i<=l.length->l.length<n+i->(∀(k:Nat)(g:k<l.length),k<i->l[k]<x)->Ex.AW l x n (i:Int)=some (ins l x)
 |0,i,h1,h2,_=>ah
 |n+1,i,h1,h2,h3=>by
  unfold Ex.AW Ex.L1;have step:∀(b:Bool),(∀(hi:i<l.length),b=decide (l[i]<x))->(¬i<l.length->b=false)->Ex.J1 (Ex.AW l x n) (i:Int) l x b=some (ins l x):=by
   intro b f o;unfold Ex.J1;by_cases hi:i<l.length
   . rw[f hi];by_cases d:l[i]<x
     . rw[BC d,Af ah];refine l9 l x m n (i+1) ah ah λk g j=> ?_;grind
     . rw[Ad d];have c:=eY l x i h1 h3 (λ_=>d);unfold Ex.J2 Ex.J3 ins;rw[BC ah,B4 hi,AAS,c,AAZ hi];by_cases e:l[i]=x
       . simp[e]
       . have:(l[i]==x)=false:=(by simpa using e);rw[this,AAa ak,AA9,AAb ⟨ah,ah⟩,Ba an,Ba an,AAb ⟨ah,ah⟩,Ba an,AAa aS];have p:(l.drop i).take (l.length-i)=l.drop i:=AA3 am;grind
   . rw[o hi,AAa ak];have c:=eY l x i h1 h3 (λh=>absurd h hi);have a:i=l.length:=ah;unfold Ex.J2 Ex.J3 ins;rw[Ad ah,AAa ak,c,AA9,AAb ⟨ah,ah⟩,Ba an,Ba an,AAb ⟨ah,ah⟩,Ba an,AAa (by simp[a])];simp_all
  by_cases hi:i<l.length
  . rw[BC ah,B4 hi,AAS];grind
  grind
theorem Put_eq(l:iq)(x:Int)(a:l.length<=1000000000):Ex l x=some (ins l x):=l9 l x a BT 0 ah bh (λk b h=>ah)
theorem Union.L2(b:iq):∀(n i:Nat)(out:iq),i<=b.length->b.length<n+i->out.length+b.length<=1000000000+i->b.length<=1000000000->EW.CC b n out (i:Int)=some ((b.drop i).foldl ins out)
 |0,i,out,h1,h2,h3,h4=>ah
 |n+1,i,out,h1,h2,h3,h4=>by
  unfold EW.CC EW.L2;by_cases hi:i<b.length
  . have a:=ZH out b[i];rw[BC ah,B4 hi,AAS,Put_eq _ _ ah,AAS,Af ah,Union.L2 b n (i+1) _ ah ah ah h4,EH hi,List.foldl_cons]
  . rw[Ad ah,E6 hi];rfl
theorem Union.L1(a b:iq)(c:a.length+b.length<=1000000000):∀(n i:Nat)(out:iq),i<=a.length->a.length<n+i->out.length<=i->EW.AW a b n out (i:Int)=some (b.foldl ins ((a.drop i).foldl ins out))
 |0,i,out,h1,h2,h3=>ah
 |n+1,i,out,h1,h2,h3=>by
  unfold EW.AW EW.L1;by_cases hi:i<a.length
  . have d:=ZH out a[i];rw[BC ah,B4 hi,AAS,Put_eq _ _ ah,AAS,Af ah,Union.L1 a b c n (i+1) _ ah ah ah,EH hi,List.foldl_cons]
  . rw[Ad ah,E6 hi];unfold EW.J1
    have:=Union.L2 b BT 0 out ah bh ah ah;simp_all
theorem mB(a b:iq)(c:a.length+b.length<=1000000000):EW a b=some (OI (a++b)):=by have:=Union.L1 a b c BT 0 [] ah bh ak;rw[AAz,<- List.foldl_append]at this;refine Eq.trans this ?_;rw[<- insAll_eq];rfl
theorem Pk(l:iq)(x:Int)(c:l.length<=1000000000):∀(n i:Nat)(out:iq),i<=l.length->l.length<n+i->out.length<=i->EZ.AW l x n out (i:Int)=some (out++(l.drop i).filter λy=> !(y==x))
 |0,i,out,h1,h2,h3=>ah
 |n+1,i,out,h1,h2,h3=>by
  unfold EZ.AW EZ.L1;by_cases hi:i<l.length
  . unfold EZ.J1;rw[BC ah,B4 hi,AAS,EH hi,List.filter_cons,Af ah];by_cases e:l[i]=x
    . have a:(l[i] != x)=false:=(by simp[e]);have b:(!(l[i]==x))=false:=(by simp[e]);rw[a,b,AAa ak,AAa ak];exact Pk l x c n (i+1) out ah ah ah
    . have a:(l[i] != x)=true:=(by simpa using e);have b:(!(l[i]==x))=true:=(by simpa using e);rw[a,b,AAb rfl,AAb rfl,Ba ah,Pk l x c n (i+1) _ ah ah an];simp
  . rw[Ad ah,E6 hi];simp[EZ.J2]
theorem vQ(l:iq)(x:Int)(a:l.length<=1000000000):EZ l x=some (l.filter λy=> !(y==x)):=by have:=Pk l x a BT 0 [] ah bh ak;rw[AAz]at this;exact this
def Jw(x:AM)(o:Int):Bool:=x.dg==3&&x.Dy==o
def Cd(o:Int):Nat->List AM->List Int
 |_,[]=>[]
 |i,x::r=>if Jw x o=true then(i:Int)::Cd o (i+1) r else Cd o (i+1) r
theorem Sj(o:Int)(T:ke):∀i,(Cd o i T).length<=T.length:=by
 induction T with
 |nil=>intro i;simp[Cd]
 |cons x r ih=>
  intro i
  have:=ih (i+1);unfold Cd;grind
theorem JY(o:Int)(T:ke):∀(i:Nat)(u:Int),u∈Cd o i T->(i:Int)<=u/\u<((i+T.length:Nat):Int):=by
 induction T with
 |nil=>intro i u h;simp[Cd]at h
 |cons x r ih=>intro i u h;unfold Cd at h;grind
theorem qD(x:AM)(o:Int):Gd x o=some (Jw x o):=by unfold Gd Gd.J1 Jw;grind
theorem Ox(s:AQ)(o:Int)(a:s.AA.length<=1000):∀(n i:Nat)(l:iq),i<=s.AA.length->s.AA.length<n+i->l.length<=i->C0.AW o s n l (i:Int)=some (l++Cd o i (s.AA.drop i))
 |0,i,l,h1,h2,h3=>ah
 |n+1,i,l,h1,h2,h3=>by
  unfold C0.AW C0.L1;by_cases hi:i<s.AA.length
  . unfold C0.J1 C0.J2;rw[BC ah,B4 hi,AAS,EH hi,Cd,Af ah,Ba ah];have b:=Ox s o a n (i+1) (l++[(i:Int)]) ah ah an;have c:=Ox s o a n (i+1) l ah ah ah;unfold Jw;grind
  . rw[Ad ah,E6 hi];simp[C0.J3,Cd]
theorem XB(s:AQ)(o:Int)(a:s.AA.length<=1000):C0 s o=some (Cd o 0 s.AA):=by have:=Ox s o a BT 0 [] ah bh ak;rw[AAz]at this;exact this
def NY(wake:Int):Int->List Int->Int
 |c,[]=>c
 |c,w::r=>NY wake (if c<0\/w=wake then w else c) r
theorem mY(wake:Int)(W:iq)(a:∀w∈W,0<=w):∀c,0<=c->NY wake c W=if W.contains wake=true then wake else c:=by
 induction W with
 |nil=>intro c _;simp[NY]
 |cons w r ih=>intro c b;have d:=ih (λw h=>a w (ABg _ h));unfold NY;grind
def FN(wake:Int)(W:iq):Int:=if W=[]then -1 else if W.contains wake=true then wake else W.headD 0
theorem sM(wake:Int)(W:iq)(a:∀w∈W,0<=w):NY wake (-1) W=FN wake W:=by
 cases W with
 |nil=>rfl
 |cons w r=>unfold NY FN;rw[AAb (.inl ah),mY wake r (λw h=>a w (ABg _ h)) w (a w (ABT ..)),AAa (c:=w::r=[]) ak];grind
theorem Wm(T:ke)(o wake:Int)(a:T.length<=1000):∀(n i:Nat)(c:Int),i<=T.length->T.length<n+i->DZ.AW o T wake n c (i:Int)=DZ.J3 T (NY wake c (Cd o i (T.drop i)))
 |0,i,c,h1,h2=>ah
 |n+1,i,c,h1,h2=>by
  unfold DZ.AW DZ.L1;by_cases hi:i<T.length
  . unfold DZ.J1 DZ.J2;rw[BC ah,B4 hi,AAS,qD,AAS,EH hi,Cd,Af ah];have b:=λc=>Wm T o wake a n (i+1) c ah ah;simp only[b];cases Jw T[i] o with
    |false=>simp
    |true=>simp only[AAy,NY];grind
  . rw[Ad ah,E6 hi];rfl
def JS(x:AM):AM:=⟨4,x.Dy,x.dy⟩
def Jn(o:Int)(x:AM):AM:=if Jw x o=true then JS x else x
theorem notify_eq(tx:Int)(T:ke)(o wake:Int)(a:T.length<=1000):DZ tx T o wake=some (FN wake (Cd o 0 T),if Cd o 0 T=[]then T else T.set (FN wake (Cd o 0 T)).toNat (JS (ix T (FN wake (Cd o 0 T))))):=by
 have h:=Wm T o wake a BT 0 (-1) ah bh;rw[AAz,sM _ _ (λw c=>(JY o T 0 w c).1)]at h;refine Eq.trans h ?_;unfold DZ.J3 DZ.J4;by_cases e:Cd o 0 T=[]
 . rw[e];simp[FN]
 . have b:FN wake (Cd o 0 T)∈Cd o 0 T:=by
    unfold FN;rw[AAa e];split
    . simp_all
    . cases hW:Cd o 0 T with
      |nil=>simp_all
      |cons w r=>simp
   have d:=JY o T 0 _ b;rw[AAa e,BC ah,B6 (BI.2 ah)];rfl
theorem M9(T:ke)(o:Int)(d:T.length<=1000):∀(n i:Nat)(c:Nat),i<=T.length->T.length<n+i->c<=i->
 DO.AW o T n ((T.take i).map (Jn o)++T.drop i) (c:Int) (i:Int)=some (((c+(Cd o i (T.drop i)).length:Nat):Int),T.map (Jn o))
 |0,i,c,h1,h2,_=>ah
 |n+1,i,c,h1,h2,h3=>by
  unfold DO.AW DO.L1;by_cases hi:i<T.length
  . have a:((T.take i).map (Jn o)).length=i:=an;have f:gt ((T.take i).map (Jn o)++T.drop i) (i:Int)=some T[i]:=(by rw[Jz,AAx (by omega),a,Nat.sub_self,EH hi];rfl);unfold DO.J1;rw[BC ah,f,AAS,qD,AAS,Af (i:=i) ah,Af (i:=c) ah,AA9];have b:∀y,y=Jn o T[i]->(T.take i).map (Jn o)++y::T.drop (i+1)=(T.take (i+1)).map (Jn o)++T.drop (i+1):=(by rintro y rfl;rw[<- AAp hi,AA5];simp);have g:((T.take i).map (Jn o)++T.drop i).set i (AM.mk 4 T[i].Dy T[i].dy)=(T.take i).map (Jn o)++AM.mk 4 T[i].Dy T[i].dy::T.drop (i+1):=(by rw[List.set_append_right _ _ (by omega),a,Nat.sub_self,EH hi];rfl);have e:(T.take i).map (Jn o)++T.drop i=(T.take i).map (Jn o)++T[i]::T.drop (i+1):=(by rw[<- EH hi]);rw[g,e,EH hi,Cd];cases hw:Jw T[i] o with
    |true=>rw[AAb rfl,AAb rfl,b _ (by simp[Jn,hw,JS]),M9 T o d n (i+1) (c+1) ah ah ah];grind
    |false=>rw[AAa ak,AAa ak,b _ (by simp[Jn,hw]),M9 T o d n (i+1) c ah ah ah]
  . rw[Ad ah,E6 hi,AA3 ah];simp[DO.J2,Cd]
theorem jV(tx:Int)(T:ke)(o:Int)(a:T.length<=1000):DO tx T o=some (((Cd o 0 T).length:Int),T.map (Jn o)):=by have:=M9 T o a BT 0 0 ah bh ah;simp only[List.take_zero,AA2,AAz,List.nil_append,ABW]at this;exact this
structure WR (s:AQ):Prop where
 l:s.AK.length<=1000
 d:s.Bp.length<=1000
 t:s.AA.length<=1000
 r:RB 1000000 s
theorem Yr(s:AQ)(b:WR s):∀(n i:Nat),i<=s.AK.length->s.AK.length<n+i->
 Ef.AW s n (s.AK.take i++List.replicate (s.AK.length-i) ⟨0,[]⟩) (i:Int)=some s
 |0,i,h1,h2=>ah
 |n+1,i,h1,h2=>by
  have:=b.l;have:=b.d;have:=b.t;unfold Ef.AW Ef.L1;by_cases hi:i<s.AK.length
  . have a:(s.AK.take i).length=i:=an;have e:List.replicate (s.AK.length-i) (AY.mk 0 [])=AY.mk 0 []::List.replicate (s.AK.length-(i+1)) (AY.mk 0 []):=(by rw[show s.AK.length-i=(s.AK.length-(i+1))+1 from by omega,List.replicate_succ]);have c:gt (s.AK.take i++List.replicate (s.AK.length-i) (AY.mk 0 [])) (i:Int)=some ⟨0,[]⟩:=(by rw[Jz,e,AAx (by omega),a];simp);have f:(s.AK.take i++List.replicate (s.AK.length-i) (AY.mk 0 [])).set i s.AK[i]=s.AK.take (i+1)++List.replicate (s.AK.length-(i+1)) (AY.mk 0 []):=(by rw[e,List.set_append_right _ _ (by omega),a,Nat.sub_self,List.set_cons_zero,<- AAp hi,ABi];rfl);have g:=b.r _ (AAi hi);unfold slices_Clone_int;rw[BC ah,B4 hi,AAS,Ba ah,AAS,c,AAS,Af ah,AA9];show Ef.AW s n ((s.AK.take i++List.replicate (s.AK.length-i) (AY.mk 0 [])).set i s.AK[i]) _=_;rw[f];exact Yr s b n (i+1) ah ah
  . rw[Ad ah,AA3 ah,show s.AK.length-i=0 from by omega];unfold Ef.J1 K9 HH;rw[Ba ah,AAS,Ba ah,AAS];simp
theorem clone_eq(s:AQ)(a:WR s):Ef s=some s:=by have:=a.l;unfold Ef;rw[AAb ⟨ah,ah,Bs ah⟩];have h:=Yr s a BT 0 ah bh;simp_all
theorem dS(s:AQ)(a:WR s)(tx:Int)(D:jD)(T:ke):∀(n i:Nat),i<=s.AK.length->s.AK.length<n+i->
 Fq.AW s n ⟨s.AK.take i,tx,D,T⟩ (i:Int)=some ⟨s.AK,tx,D,T⟩
 |0,i,h1,h2=>ah
 |n+1,i,h1,h2=>by
  have:=a.l;unfold Fq.AW Fq.L1;by_cases hi:i<s.AK.length
  . have b:=a.r _ (AAi hi);rw[BC ah,B4 hi,AAS,Ba ah,Ba an,Af ah];simp only[AAp hi];exact dS s a tx D T n (i+1) ah ah
  . rw[Ad ah,AA3 ah];rfl
theorem lU(s:AQ)(a:WR s):Fq s=some s:=by have:=a.l;have:=a.d;have:=a.t;unfold Fq;rw[Ba ah,Ba ah];exact dS s a s.Tx s.Bp s.AA BT 0 ah bh
def LC(s:AQ)(i:Int)(f:AM->AM):AQ:=⟨s.AK,s.Tx,s.Bp,s.AA.set i.toNat (f (ix s.AA i))⟩
def LB(s:AQ)(i:Int)(f:AY->AY):AQ:=⟨s.AK.set i.toNat (f (ix s.AK i)),s.Tx,s.Bp,s.AA⟩
def DR(wv:AF)(s:AQ)(t k o wake:Int):AQ×Int:=
 if k=1 then(LC s t λx=>⟨2,x.Dy,x.dy⟩,0)
 else if k=2 then(LC s t λx=>⟨5,x.Dy,x.dy⟩,0)
 else if k=6\/k=10 then(LB s o λx=>⟨t,x.An⟩,0)
 else if k=7\/k=11 then(LB s o λx=>⟨-1,x.An⟩,0)
 else if k=8 then(LB s o λx=>⟨x.B9,OI (x.An++[t])⟩,0)
 else if k=9 then(LB s o λx=>⟨x.B9,x.An.filter λy=> !(y==t)⟩,0)
 else if k=12 then(⟨s.AK,t,s.Bp,s.AA⟩,0)
 else if k=13 then(⟨s.AK, -1,s.Bp,s.AA⟩,0)
 else if k=14 then(LC s t λx=>⟨x.dg,x.Dy,true⟩,0)
 else if k=15 then(LC s t λx=>⟨x.dg,x.Dy,false⟩,0)
 else if k=16 then(LC (LB s (ix wv.Ak o).dm λx=>⟨-1,x.An⟩) t λx=>⟨3,o,x.dy⟩,0)
 else if k=17 then(LC (LB s (ix wv.Ak o).dm λx=>⟨t,x.An⟩) t λx=>⟨2,0,x.dy⟩,0)
 else if k=18 then(if Cd o 0 s.AA=[]then s else LC s (FN wake (Cd o 0 s.AA)) JS,FN wake (Cd o 0 s.AA))
 else if k=19 then(⟨s.AK,s.Tx,s.Bp,s.AA.map (Jn o)⟩,((Cd o 0 s.AA).length:Int))
 else if k=20 then(LC s o λx=>⟨1,x.Dy,x.dy⟩,0)
 else if k=22 then(⟨s.AK,s.Tx,s.Bp.set o.toNat true,s.AA⟩,0)
 else(s,0)
def sT:AQ:=⟨[],0,[],[]⟩
def Ot(wv:AF)(s:AQ)(t k o wake:Int):AQ×Int×Bool:=if B7 wv s t k o=true then((DR wv s t k o wake).1,(DR wv s t k o wake).2,true)else(sT,0,false)
theorem aP(b:Cp t g.length=true)(a:AM):gt (g.set t.toNat a) t=some a:=by
 obtain⟨c,d⟩:=BI.1 b;have:t.toNat<g.length:=ah
 unfold gt;simp_all
theorem WR.of(a:Small wv)(b:HJ wv s=true)(c:RB 1000000 s):WR s:=by
 obtain⟨d,e,g⟩:=EO b
 have:=a.l;have:=a.f;have:=a.t;exact⟨ah,ah,ah,c⟩
def RB.mono(h:RB i s)(a:i<=n):RB n s:=λx b=>ABO (h x b) a
theorem Sort_eq(l:iq)(a:l.length<=1000000000):MD l=some (Sw l):=by unfold MD;rw[AAb ah];rfl
theorem lQ(l:iq)(a:l.length<=1000000000):slices_Compact l=some (Lib.compact l):=by unfold slices_Compact;grind
theorem XX(wv:AF)(n:Small wv)(s:AQ)(g:RB 1000000 s)(t o wake:Int):∀k,Fk wv s t k o wake=some (Ot wv s t k o wake):=by
  intro k;unfold Fk Ot;rw[Nf wv n s (g.mono ah),AAS];cases he:B7 wv s t k o with
  |false=>rfl
  |true=>
    have a:=he;unfold B7 at a;simp only[AAT]at a;obtain⟨f,H,c,d⟩:=a;obtain⟨I,T,J⟩:=EO f;have b:=WR.of n f g;have j:Cp t s.AA.length=true:=(by rw[J];exact H);have m:gt s.AA t=some (ix s.AA t):=B6 j;have e:=aP j;have G:=g.ix o;have i:(Sw ((ix s.AK o).An++[t])).length<=1000000000:=(by rw[Si];simp;omega);have E:=notify_eq s.Tx s.AA o wake b.t;have D:=jV s.Tx s.AA o b.t;rw[clone_eq s b,AAS,AAa ak];clear he;revert c d;revert k;refine kinds ?_ ?_ ?_ ?_ ?_ ?_ ?_ ?_ ?_ ?_ ?_ ?_ ?_ ?_ ?_ ?_ ?_ ?_ ?_ ?_ ?_ ?_ ?_ (λk K L M N O P Q R S q r W u v w V x y z U B X C=> ?_)
    all_goals
      intro c d;unfold DR;simp(decide:=true)only[Bm,ABK,or_true,true_or,false_or,AAy,AAk,AAT]at c;simp(decide:=true)only[Fk.J1,Fk.J2,Fk.J3,ABM,AAh,AAy,AAk,ABK,or_true,true_or,false_or,AAd]
    all_goals first
      |done
      | (rw[m,AAS];rfl)
      | (rw[B6 (l:=s.AK) am,AAS];rfl)
      | (rw[B6 (l:=s.AK) am,AAS,Ba ah,Sort_eq _ an,AAS,lQ _ i,AAS];rfl)
      | (rw[B6 (l:=s.AK) am,AAS]
         unfold JO;have p:(ix s.AK o).An≠[]:=(by intro h;simp(decide:=true)only[Jh,AAy,AAk,ABK,or_true,true_or,false_or,h,List.contains_nil,Bool.and_false,AAd]at d);rw[AAb ⟨p,ah⟩,AAS];rfl)
      | (rw[B6 (l:=wv.Ak) c,AAS,B6 (l:=s.AK) (by rw[I];exact Ho f c),AAS,m,AAS,e,AAS];simp only[List.set_set];rfl)
      | (rw[E,AAS];simp only;by_cases F:Cd o 0 s.AA=[]<;>simp only[F,AAy,AAk]<;>rfl)
      | (rw[D,AAS];done)
      | (rw[B6 (l:=s.AA) am,AAS];rfl)
      | (rw[B6 (l:=s.Bp) am,AAS];done)
      |rfl
      |simp_all
      |skip
theorem setAll(o:Int)(a:ke):∀(pre:ke),(Cd o pre.length a).foldl (λT (u:Int)=>T.set u.toNat (JS (ix T u))) (pre++a)=pre++a.map (Jn o):=by
 induction a with
 |nil=>intro pre;simp[Cd]
 |cons x r ih=>
  intro pre;unfold Cd;have c:ix (pre++x::r) ((pre.length:Nat):Int)=x:=by unfold ix;rw[AA9,AAx (AAv _)];simp
  have b:=λy=>ih (pre++[y]);simp only[AA8,ABU,ABc,ABW,ABi,List.singleton_append]at b;cases hw:Jw x o with
  |true=>rw[AAb rfl,List.foldl_cons,c,AA9,List.set_append_right _ _ (AAv _),Nat.sub_self,List.set_cons_zero,b];simp[Jn,hw]
  |false=>rw[AAa ak,b];simp[Jn,hw]
theorem Wo(W:iq)(a:W.length<=1000000):∀(n i:Nat)(s:AQ),i<=W.length->W.length<n+i->(∀u∈W,Cp u s.AA.length=true)->
 De.AW W n s (i:Int)=some (⟨s.AK,s.Tx,s.Bp,(W.drop i).foldl (λT (u:Int)=>T.set u.toNat (JS (ix T u))) s.AA⟩,(W.length:Int),true)
 |0,i,s,h1,h2,_=>ah
 |n+1,i,s,h1,h2,h3=>by
  unfold De.AW De.L1;by_cases hi:i<W.length
  . rw[BC ah,B4 hi,AAS,B6 (h3 _ (AAi hi)),AAS,Af ah,Wo W a n (i+1) _ ah ah am,EH hi,List.foldl_cons];rfl
  . rw[Ad ah,E6 hi];rfl
theorem PX(wv:AF)(G:Small wv)(s:AQ)(z:RB 1000000 s)(t o wake:Int):∀k,De wv s t k o wake=some (Ot wv s t k o wake):=by
 intro k;unfold De Ot;rw[NN wv G s (z.mono ah),AAS];cases he:B7 wv s t k o with
 |false=>rfl
 |true=>
  have a:=he;unfold B7 at a;simp only[AAT]at a;obtain⟨y,V,d,B⟩:=a;obtain⟨W,l2,X⟩:=EO y;have b:=WR.of G y z;have C:Cp t s.AA.length=true:=by rw[X];exact V
  have D:gt s.AA t=some (ix s.AA t):=B6 C;have x:=aP C;have U:=z.ix o;have R:=XB s o b.t;have S:=Sj o s.AA 0;have T:=b.t;rw[lU s b,AAS,AAa ak];clear he;revert d B;revert k;refine kinds ?_ ?_ ?_ ?_ ?_ ?_ ?_ ?_ ?_ ?_ ?_ ?_ ?_ ?_ ?_ ?_ ?_ ?_ ?_ ?_ ?_ ?_ ?_ (λk H I J K L M N O P f g wK h i j sS m n p Z q zV v=> ?_)
  all_goals
   intro d B;unfold DR;simp(decide:=true)only[Bm,ABK,or_true,true_or,false_or,AAy,AAk,AAT]at d;simp(decide:=true)only[De.J1,De.J2,De.J5,ABM,AAh,AAy,AAk,ABK,or_true,true_or,false_or,AAd]
  all_goals first
   |done
   | (rw[D,AAS];rfl)
   | (rw[B6 (l:=s.AK) am,AAS];rfl)
   | (rw[B6 (l:=s.AK) am,AAS,mB _ _ an,AAS];rfl)
   | (rw[B6 (l:=s.AK) am,AAS,vQ _ _ ah,AAS];rfl)
   | (rw[B6 (l:=wv.Ak) d,AAS,B6 (l:=s.AK) (by rw[W];exact Ho y d),AAS,D,AAS,x,AAS];simp only[List.set_set];rfl)
   | (rw[B6 (l:=s.AA) am,AAS];rfl)
   | (rw[B6 (l:=s.Bp) am,AAS];done)
   |rfl
   | (exfalso;revert d;simp only[H,I,J,K,L,M,N,O,P,f,g,wK,h,i,j,sS,m,n,p,Z,q,zV,v,AAk,or_self,AAd,imp_self];done)
   |skip
  . -- a notification
    rw[R,AAS];cases hWW:Cd o 0 s.AA with
    |nil=>rfl
    |cons w r=>
     have E:(w::r).length<=1000:=(by rw[<- hWW];omega);have e:∀u,u∈w::r->Cp u s.AA.length=true:=λu F=>(by have:=JY o s.AA 0 u (by simp_all);exact BI.2 (by omega));have Q:gt (w::r) 0=some w:=rfl;rw[BC am,Q,AAS,qF _ _ ah,AAS];unfold De.J3 De.J5 FN;rw[AAa (c:=w::r=[]) ak,AAa (c:=w::r=[]) ak];cases hc:(w::r).contains wake with
     |true=>rw[AAb rfl,B6 (e wake am),AAS];rfl
     |false=>rw[AAa ak,B6 (e w (ABT ..)),AAS];rfl
  . -- of all
    have e:∀u,u∈Cd o 0 s.AA->Cp u s.AA.length=true:=λu F=>(by have:=JY o s.AA 0 u F;exact BI.2 (by omega));have h1:=Wo (Cd o 0 s.AA) ah BT 0 s ah bh e;have h2:=setAll o s.AA [];simp_all
instance:Inhabited AQ:=⟨sT⟩
def O8:AD:=⟨sT,[],[],[]⟩
def KE(ev:AH):Prop:=ev.EA.length<4611686018427387904/\ev.DW.length<4611686018427387904
def Ni(wv:AF)(ev:AH):Bool:=if ev.da=1\/ev.da=2 then ev.d3== -1 else Cp ev.d3 wv.Be.length&&(ix wv.Be ev.d3).cr==ev.cr
def GZ(c:Int):Int->List Int->Bool
 |_,[]=>true
 |last,x::r=>decide (last<x)&&(decide (x<c)&&GZ c x r)
def Po(wv:AF)(ev:AH):Bool:=if ev.da=3\/ev.da=4 then(ix wv.df ev.dn).B3 != 0 else false
def Ek(wv:AF)(s:AD)(ev:AH):Bool:=
 ((ev.EA.isEmpty||(ev.da==5||Po wv ev))&&GZ (ix s.dc ev.cr) 0 ev.EA)&&((ev.DW.isEmpty||(ev.da==4||ev.da==22))&&GZ (ix s.dc ev.cr) 0 ev.DW)
def Hw(s:AD)(ev:AH):Bool:=
 if ev.da=3 then ev.dh==ix s.df ev.dn
 else if ev.da=23 then ev.dh==ix s.AL ev.dn
 else if ev.da=5 then ev.dh==0||ev.dh==1
 else if ev.da=4\/ev.da=22 then true
 else if ev.da=18 then(Cd ev.dn 0 s.de.AA).contains ev.dh||((Cd ev.dn 0 s.de.AA).isEmpty&&ev.dh== -1)
 else if ev.da=19 then ev.dh==((Cd ev.dn 0 s.de.AA).length:Int)
 else ev.dh==0
theorem placed_eq(wv:AF)(ev:AH):Dq wv ev=some (Ni wv ev):=by
 unfold Dq Dq.J1 Ni;by_cases d:ev.da=1
 . simp[d]
 . by_cases e:ev.da=2
   . simp[e]
   . have f:(ev.da==1)=false:=(by simpa using d);have g:(ev.da==2)=false:=(by simpa using e);rw[f,g,AAa (c:=ev.da=1\/ev.da=2) ah];simp only[AAd,AAk];unfold Dq.J2;by_cases a:ev.d3>=0
     . by_cases b:ev.d3<(wv.Be.length:Int)
       . have hi:Cp ev.d3 wv.Be.length=true:=BI.2 ⟨a,b⟩;rw[BC a,BC b,B6 hi,AAS,hi];rfl
       . have:Cp ev.d3 wv.Be.length=false:=br;grind
     . have:Cp ev.d3 wv.Be.length=false:=br;grind
theorem dec.L2(L1:ir)(ev:AH)(l:iq)(s:AD)(t:Int)(b:gt s.dc ev.cr=some (ix s.dc ev.cr))(c:l.length<4611686018427387904):∀(n i:Nat)(a:Int),i<=l.length->l.length<n+i->
 Ae.CC L1 ev l s t n a (i:Int)=if GZ (ix s.dc ev.cr) a (l.drop i)=true then Ae.J6 L1 t else some false
 |0,i,a,h1,h2=>ah
 |n+1,i,a,h1,h2=>by
  unfold Ae.CC Ae.L2;by_cases hi:i<l.length
  . unfold Ae.J5;rw[BC ah,B4 hi,AAS,b,EH hi,Af ah,dec.L2 L1 ev l s t b c n (i+1) _ ah ah];generalize l[i]=x;rw[GZ];grind
  . rw[Ad ah,E6 hi];simp[GZ]
theorem Yl:BT=(BT-3)+3:=rfl
theorem det.J4(L1:ir)(ev:AH)(l:iq)(s:AD)(t:Int)(a:gt s.dc ev.cr=some (ix s.dc ev.cr))(c:l.length<4611686018427387904)(b:Bool):
 Ae.J4 L1 ev l s t b=if(!b&&GZ (ix s.dc ev.cr) 0 l)=true then Ae.J6 L1 t else some false:=by
 unfold Ae.J4;cases b with
 |true=>simp
 |false=>have:=dec.L2 L1 ev l s t a c BT 0 0 ah bh;simp_all
theorem det.J2(wv:AF)(s:AD)(ev:AH)(g:KE ev)(e:gt s.dc ev.cr=some (ix s.dc ev.cr))(a b:Bool):
 Ae.J2 ev s a b=some (((ev.EA.isEmpty||a)&&GZ (ix s.dc ev.cr) 0 ev.EA)&&((ev.DW.isEmpty||b)&&GZ (ix s.dc ev.cr) 0 ev.DW)):=by
 unfold Ae.J2;rw[Yl];generalize BT-3=m;have i:Ae.AW a b ev s (m+1) 2=some true:=by unfold Ae.AW Ae.L1;rfl
 have d:∀(L1:ir)(t:Int)(l:iq)(c:Bool),l.length<4611686018427387904->(t=0/\c=a\/t=1/\c=b)->Ae.J3 L1 a b ev s t l=if((l.isEmpty||c)&&GZ (ix s.dc ev.cr) 0 l)=true then Ae.J6 L1 t else some false:=by
  intro L1 t l c f j;unfold Ae.J3;rw[det.J4 _ _ _ _ _ e f,det.J4 _ _ _ _ _ e f,det.J4 _ _ _ _ _ e f];cases l with
  |nil=>simp
  |cons x r=>grind
 have h:Ae.AW a b ev s (m+2) 1=some ((ev.DW.isEmpty||b)&&GZ (ix s.dc ev.cr) 0 ev.DW):=by unfold Ae.AW Ae.L1;rw[BC bg,AAa bg,AAb bg,d _ 1 ev.DW b g.2 (.inr ⟨rfl,rfl⟩)];unfold Ae.J6;rw[show A6 (1+1)=2 from rfl,i];cases((ev.DW.isEmpty||b)&&GZ (ix s.dc ev.cr) 0 ev.DW)<;>rfl
 unfold Ae.AW Ae.L1;rw[BC bg,AAb bg,d _ 0 ev.EA a g.1 (.inl ⟨rfl,rfl⟩)];unfold Ae.J6;rw[show A6 (0+1)=1 from rfl,h];grind
theorem b8(wv:AF)(s:AD)(ev:AH)(f:KE ev)(d:gt s.dc ev.cr=some (ix s.dc ev.cr))(g:ev.da=3\/ev.da=4->Cp ev.dn wv.df.length=true):Ae wv s ev=some (Ek wv s ev):=by
 have a:∀e,e=Po wv ev->Ae.J1 ev s e=some (Ek wv s ev):=by
  intro e h;unfold Ae.J1 Ek;rw[det.J2 wv s ev f d,det.J2 wv s ev f d,det.J2 wv s ev f d,det.J2 wv s ev f d,h];by_cases i:ev.da=5
  . simp[i]
  . grind
 unfold Ae;by_cases b:ev.da=3
 . rw[AAb (by simp[b]),B6 (g (.inl b)),AAS];exact a _ (by simp[Po,b])
 . rw[AAa am];by_cases c:ev.da=4
   . rw[AAb (by simp[c]),B6 (g (.inr c)),AAS];exact a _ (by simp[Po,c])
   . rw[AAa am];exact a _ (by simp[Po,b,c])
theorem bC.L1(ev:AH)(s:AD)(f:s.de.AA.length<=1000):∀(n i w:Nat)(b:Bool),i<=s.de.AA.length->s.de.AA.length<n+i->w<=i->
 BE.AW ev s n (w:Int) b (i:Int)=some ((b||(Cd ev.dn i (s.de.AA.drop i)).contains ev.dh)||((w+(Cd ev.dn i (s.de.AA.drop i)).length==0)&&ev.dh== -1))
 |0,i,w,b,h1,h2,h3=>ah
 |n+1,i,w,b,h1,h2,h3=>by
  unfold BE.AW BE.L1;by_cases hi:i<s.de.AA.length
  . unfold BE.J3 BE.J4;rw[BC ah,B4 hi,AAS,EH hi,Cd,Af (i:=i) ah,Af (i:=w) ah];have a:=λ(w':Nat) b' h=>bC.L1 ev s f n (i+1) w' b' ah ah h;rw[a (w+1) true ah,a (w+1) (ev.dh==(i:Int)) ah,a w b ah];unfold Jw;have c:∀m:Nat,(w+1+m==0)=false:=λm=>ak;have d:∀m:Nat,(w+(m+1)==0)=false:=λm=>ak;have e:(ev.dh==(i:Int))=decide (ev.dh=(i:Int)):=rfl;cases(s.de.AA[i].dg==3)<;>cases(s.de.AA[i].Dy==ev.dn)<;>cases b<;>simp[c,d,e]
  . rw[Ad ah,E6 hi];unfold BE.J5 BE.J6;have:((w:Int)==0)=(w==0):=(by rw[ABs,AAh,AAh];omega);rw[this];simp only[Cd,List.contains_nil,ABc,Nat.add_zero,Bool.or_false];grind
theorem bC.L2(ev:AH)(s:AD)(b:s.de.AA.length<=1000):∀(n i w:Nat),i<=s.de.AA.length->s.de.AA.length<n+i->w<=i->
 BE.CC ev s n (w:Int) (i:Int)=some (ev.dh==((w+(Cd ev.dn i (s.de.AA.drop i)).length:Nat):Int))
 |0,i,w,h1,h2,h3=>ah
 |n+1,i,w,h1,h2,h3=>by
  unfold BE.CC BE.L2;by_cases hi:i<s.de.AA.length
  . unfold BE.J7 BE.J8;rw[BC ah,B4 hi,AAS,EH hi,Cd,Af (i:=i) ah,Af (i:=w) ah];have a:=λ(w':Nat) h=>bC.L2 ev s b n (i+1) w' ah ah h;rw[a (w+1) ah,a w ah];unfold Jw;grind
  . rw[Ad ah,E6 hi];simp[BE.J9,Cd]
theorem oA(l:List a):(0+l.length==0)=l.isEmpty:=aS
theorem valued_eq(s:AD)(ev:AH)(f:s.de.AA.length<=1000)(g:ev.da=3->Cp ev.dn s.df.length=true)(a:ev.da=23->Cp ev.dn s.AL.length=true):BE s ev=some (Hw s ev):=by
 have d:=bC.L1 ev s f BT 0 0 false ah bh ah;have e:=bC.L2 ev s f BT 0 0 ah bh ah;rw[AAz,oA]at d;rw[AAz,ABW]at e;simp only[Int.natCast_zero,Bool.false_or]at d e;unfold BE BE.J1 BE.J2 BE.QP Hw;by_cases b:ev.da=3
 . rw[AAb (by simp[b]),B6 (g b),AAS,AAb b]
 . rw[AAa am,AAa b];by_cases c:ev.da=23
   . rw[AAb (by simp[c]),B6 (a c),AAS,AAb c]
   grind
def F7(wv:AF)(s:AD)(ev:AH):AD:=
  ⟨(DR wv s.de ev.cr ev.da ev.dn (if ev.da=18 then ev.dh else -1)).1,
   if ev.da=4 then s.df.set ev.dn.toNat ev.dh else s.df,
   if ev.da=22 then s.AL.set ev.dn.toNat ev.dh else s.AL,
   s.dc.set ev.cr.toNat (A6 (ix s.dc ev.cr+1))⟩
def Hc(wv:AF)(s:AD)(ev:AH):Bool:=
 JD wv s&&(Cp ev.cr wv.AA.length&&(B7 wv s.de ev.cr ev.da ev.dn&&(Ni wv ev&&(Ek wv s ev&&Hw s ev))))
def P5(wv:AF)(s:AD)(ev:AH):AD×Bool:=if Hc wv s ev=true then(F7 wv s ev,true)else(O8,false)
theorem Jx{s:AD}(h:JD wv s=true):HJ wv s.de=true/\s.df.length=wv.df.length/\s.AL.length=wv.AL.length/\s.dc.length=wv.AA.length:=by unfold JD at h;simp_all
theorem UA(h:Bm wv t o=true):1<=t/\t<=23:=by unfold Bm at h;grind
theorem X6(wv:AF)(a:Small wv)(s:AD)(k:RB 1000000 s.de)(ev:AH)(v:KE ev):Bu wv s ev=some (P5 wv s ev):=by
 have B:∀b,b=true->Bu.J1 ev s wv b=some (O8,false):=by rintro b rfl;rfl
 have p:∀b,b=true->Bu.J2 ev s wv b=some (O8,false):=by rintro b rfl;rfl
 unfold Bu P5 Hc;rw[NI wv a,AAS];cases hf:JD wv s with
 |false=>rfl
 |true=>
  rw[AAa (c:=(!true)=true) ak,AAq];cases ht:Cp ev.cr wv.AA.length with
  |false=>
   rw[Bool.false_and,AAa (c:=false=true) ak];by_cases d:ev.cr<0
   . simp_all
   . rw[Ad d];by_cases m:ev.cr>=(wv.AA.length:Int)
     . simp_all
     . exfalso
       have:=BI.2 ⟨Int.not_lt.1 d,Int.not_le.1 m⟩;simp_all
  |true=>
   obtain⟨C,D⟩:=BI.1 ht;rw[Ad ah,Ad ah,AAq];obtain⟨j,E,F,G⟩:=Jx hf;have w:=a.c;have x:=a.f;have y:=a.t;have i:=WR.of a j k;have e:=Nf wv a s.de (k.mono ah) ev.cr ev.dn ev.da;cases YE:B7 wv s.de ev.cr ev.da ev.dn with
   |false=>
    rw[Bool.false_and,AAa (c:=false=true) ak];by_cases d:ev.da<1
    . simp_all
    . rw[Ad d];unfold Bu.J1;by_cases m:ev.da>23
      . rw[AAb am];rfl
      grind
   |true=>
    have l:=YE;unfold B7 at l;simp only[AAT]at l;obtain⟨_,_,g,_⟩:=l;obtain⟨H,I⟩:=UA g;have n:gt s.dc ev.cr=some (ix s.dc ev.cr):=B6 am;have z:ev.da=3\/ev.da=4->Cp ev.dn wv.df.length=true:=(by rintro(h|h)<;>simpa(decide:=true) [Bm,h]using g);have o:ev.da=22\/ev.da=23->Cp ev.dn wv.AL.length=true:=(by rintro(h|h)<;>simpa(decide:=true) [Bm,h]using g);rw[Ad ah];unfold Bu.J1;rw[AAa an,e,YE,AAS,AAa (c:=(!true)=true) ak,placed_eq,AAS,AAq];cases hp:Ni wv ev with
    |false=>rfl
    |true=>
     rw[AAa (c:=(!true)=true) ak,b8 wv s ev v n z,AAS,AAq];cases hd:Ek wv s ev with
     |false=>rfl
     |true=>
      rw[AAa (c:=(!true)=true) ak,valued_eq s ev i.t (λh=>am) (λh=>am),AAS,AAq];cases hv:Hw s ev with
      |false=>rfl
      |true=>
       rw[AAb rfl];unfold Bu.J2;have u:∀wake,wake=(if ev.da=18 then ev.dh else -1)->Bu.J3 ev s wv wake=some (F7 wv s ev,true):=by
        rintro wake rfl;unfold Bu.J3;rw[XX wv a s.de k,AAS];unfold Ot;rw[YE,AAb rfl,AAa ak];unfold Io slices_Clone_int;rw[Ba ah,AAS,Ba ah,AAS,Ba ah,AAS];unfold Bu.J4 F7;simp only[n,AAS];by_cases q:ev.da=4
        . rw[AAb (by simp[q]),B6 am,AAS];simp[q]
        . rw[AAa am];by_cases r:ev.da=22
          . rw[AAb (by simp[r]),B6 am,AAS];simp[r]
          simp_all
       grind
theorem Um(c:Int)(l:iq)(f:l.length<4611686018427387904):∀(n i:Nat)(a:Int),i<=l.length->l.length<n+i->(∀(h:0<i)(o:i-1<l.length),a=l[i-1])->(i=0->a=0)->(0<i->1<=a)->
 EC.AW c l n (i:Int)=some (GZ c a (l.drop i))
 |0,i,a,h1,h2,_,_,_=>ah
 |n+1,i,a,h1,h2,h3,h4,h5=>by
  unfold EC.AW EC.L1;by_cases hi:i<l.length
  . have k:1<=l[i]->EC.AW c l n ((i+1:Nat):Int)=some (GZ c l[i] (l.drop (i+1))):=
     λj=>Um c l f n (i+1) l[i] ah ah (λ_ _=>rfl) ah (λ_=>j)
    unfold EC.J1;rw[BC ah,B4 hi,AAS,EH hi,Af ah,GZ];by_cases b:l[i]<1
    . have:¬a<l[i]:=by
       by_cases e:i=0
       . omega
       . omega
      grind
    . rw[Ad b,k ah];by_cases d:l[i]>=c
      . grind
      . have m:l[i]<c:=ah;rw[Ad d];by_cases e:i=0
        . grind
        . have g:=h3 ah ah;rw[BC ah,CG ah ah,show(i:Int)-1=((i-1:Nat):Int)from by omega,B4 ah,AAS,<- g];grind
  . rw[Ad ah,E6 hi];rfl
theorem Zb(c:Int)(l:iq)(a:l.length<4611686018427387904):EC l c=some (GZ c 0 l):=by have:=Um c l a BT 0 0 ah bh ah (λ_=>rfl) ah;rw[AAz]at this;exact this
theorem value_eq(s:AD)(ev:AH)(m:s.de.AA.length<=1000)(i:ev.da=3->Cp ev.dn s.df.length=true)(a:ev.da=23->Cp ev.dn s.AL.length=true):Gq s ev=some (Hw s ev):=by
 have k:=XB s.de ev.dn m;have f:=Sj ev.dn s.de.AA 0;unfold Gq Gq.J1 Gq.J2 Hw;rw[k,AAS,AAS];by_cases d:ev.da=3
 . rw[AAb (by simp[d]),B6 (i d),AAS,AAb d]
 . rw[AAa am,AAa d];by_cases e:ev.da=23
   . rw[AAb (by simp[e]),B6 (a e),AAS,AAb e]
   . rw[AAa am,AAa e];by_cases n:ev.da=5
     . grind
     . rw[AAa am,AAa n];by_cases g:ev.da=4
       . simp[g]
       . have j:(ev.da==4)=false:=(by simpa using g);rw[j];by_cases h:ev.da=22
         . simp[h]
         . have o:(ev.da==22)=false:=(by simpa using h);rw[o,AAa (c:=ev.da=4\/ev.da=22) ah];simp only[AAd,AAk];by_cases b:ev.da=18
           . rw[AAb (by simp[b]),AAb b];have l:=JY ev.dn s.de.AA 0;cases hWW:Cd ev.dn 0 s.de.AA with
             |nil=>simp
             |cons w r=>rw[hWW]at f l;unfold Gq.J3;rw[AAa an,qF _ _ ah,AAS];grind
           grind
theorem Qu(wv:AF)(a:Small wv)(s:AD)(B:RB 1000000 s.de)(ev:AH)(G:KE ev):B1 wv s ev=some (P5 wv s ev):=by
 unfold B1 P5 Hc;rw[Sz wv a,AAS];cases hf:JD wv s with
 |false=>rfl
 |true=>
  rw[AAa (c:=(!true)=true) ak,Wv,AAS,AAq];cases ht:Cp ev.cr wv.AA.length with
  |false=>rfl
  |true=>
   rw[AAa (c:=(!true)=true) ak,AAq];obtain⟨y,R,S,T⟩:=Jx hf;have O:=a.c;have P:=a.f;have Q:=a.t;have w:=WR.of a y B;have g:=NN wv a s.de (B.mono ah) ev.cr ev.dn ev.da;cases YE:B7 wv s.de ev.cr ev.da ev.dn with
   |false=>
    rw[Bool.false_and,AAa (c:=false=true) ak];by_cases D:ev.da<1
    . rw[BC D];rfl
    . rw[Ad D];by_cases E:ev.da>23
      . rw[BC E];rfl
      . rw[Ad E,g,YE];rfl
   |true=>
    have C:=YE;unfold B7 at C;simp only[AAT]at C;obtain⟨_,_,v,_⟩:=C;obtain⟨U,V⟩:=UA v;have F:gt s.dc ev.cr=some (ix s.dc ev.cr):=B6 am;have I:ev.da=3\/ev.da=4->Cp ev.dn wv.df.length=true:=(by rintro(h|h)<;>simpa(decide:=true) [Bm,h]using v);have H:ev.da=22\/ev.da=23->Cp ev.dn wv.AL.length=true:=(by rintro(h|h)<;>simpa(decide:=true) [Bm,h]using v);rw[Ad ah,Ad ah,g,YE,AAS,AAq];unfold B1.J1;rw[AAa (c:=(!true)=true) ak]
    -- the last part
    have N:∀wake,wake=(if ev.da=18 then ev.dh else -1)->B1.J9 ev s wv wake=some (F7 wv s ev,true):=by
     rintro wake rfl;unfold B1.J9;rw[PX wv a s.de B,AAS];unfold Ot;rw[YE,AAb rfl];unfold B1.QP B1.bT F7;simp only[F,AAS];by_cases d:ev.da=4
     . rw[AAb (by simp[d]),B6 am,AAS];simp[d]
     . rw[AAa (c:=(ev.da==4)=true) am];by_cases K:ev.da=22
       . rw[AAb (by simp[K]),B6 am,AAS];simp[K]
       simp_all
    have u:∀b,B1.J8 ev s wv b=if b=true then some (O8,false)else some (F7 wv s ev,true):=by
     intro b;unfold B1.J8;cases b with
     |true=>rfl
     |false=>rw[AAa (c:=false=true) ak,Ba ah,Ba ah,Ba ah,AAa (c:=false=true) ak];grind
    have o:∀b,B1.J7 ev s wv b=if(!b&&(GZ (ix s.dc ev.cr) 0 ev.EA&&(GZ (ix s.dc ev.cr) 0 ev.DW&&Hw s ev)))=true then some (F7 wv s ev,true)else some (O8,false):=by intro b;unfold B1.J7;rw[F,AAS,Zb _ _ G.1,AAS,Zb _ _ G.2,AAS,value_eq s ev w.t (λh=>am) (λh=>am),AAS];simp only[u];cases b<;>cases GZ (ix s.dc ev.cr) 0 ev.EA<;>cases GZ (ix s.dc ev.cr) 0 ev.DW<;>cases Hw s ev<;>rfl
    have n:∀b,B1.J6 ev s wv b=if(!b&&((ev.DW.isEmpty||(ev.da==4||ev.da==22))&&(GZ (ix s.dc ev.cr) 0 ev.EA&&(GZ (ix s.dc ev.cr) 0 ev.DW&&Hw s ev))))=true then some (F7 wv s ev,true)else some (O8,false):=by
     intro b;unfold B1.J6;simp only[o];cases b with
     |true=>rfl
     |false=>
      cases hF:ev.DW with
      |nil=>simp
      |cons x r=>grind
    have M:∀b,b=(ev.da==3||ev.da==4)->B1.J5 ev s wv b=if((ev.EA.isEmpty||(ev.da==5||Po wv ev))&&((ev.DW.isEmpty||(ev.da==4||ev.da==22))&&(GZ (ix s.dc ev.cr) 0 ev.EA&&(GZ (ix s.dc ev.cr) 0 ev.DW&&Hw s ev))))=true then some (F7 wv s ev,true)else some (O8,false):=by
     rintro b rfl;unfold B1.J5;simp only[n];cases hD:ev.EA with
     |nil=>simp
     |cons x r=>
      rw[BC am];by_cases J:ev.da=5
      . simp[J]
      . by_cases j:ev.da=3
        . have z:=B6 (l:=wv.df) (I (.inl j));simp[j,z,Po]
        . by_cases d:ev.da=4
          . have z:=B6 (l:=wv.df) (I (.inr d));simp[d,z,Po]
          . simp[J,j,d,Po]
    have m:B1.J4 ev s wv=if(Ek wv s ev&&Hw s ev)=true then some (F7 wv s ev,true)else some (O8,false):=by
     have e:(Ek wv s ev&&Hw s ev)=((ev.EA.isEmpty||(ev.da==5||Po wv ev))&&((ev.DW.isEmpty||(ev.da==4||ev.da==22))&&(GZ (ix s.dc ev.cr) 0 ev.EA&&(GZ (ix s.dc ev.cr) 0 ev.DW&&Hw s ev)))):=(by unfold Ek;generalize (ev.EA.isEmpty||(ev.da==5||Po wv ev))=p;generalize (ev.DW.isEmpty||(ev.da==4||ev.da==22))=q;cases p<;>cases q<;>cases GZ (ix s.dc ev.cr) 0 ev.EA<;>cases GZ (ix s.dc ev.cr) 0 ev.DW<;>rfl);rw[e];unfold B1.J4;by_cases j:ev.da=3
     . simp_all
     . grind
    have L:∀b,b=(ev.da==1||ev.da==2)->B1.J2 ev s wv b=if(Ni wv ev&&(Ek wv s ev&&Hw s ev))=true then some (F7 wv s ev,true)else some (O8,false):=by
     rintro b rfl;unfold B1.J2 B1.J3 Ni;rw[m,Wv,AAS];generalize (Ek wv s ev&&Hw s ev)=q;by_cases k:ev.da=1\/ev.da=2
     . have:(ev.da==1||ev.da==2)=true:=(by simpa using k);rw[this,AAb rfl,AAb k];by_cases i:ev.d3= -1
       . simp[i]
       . simp[i];rfl
     . have:(ev.da==1||ev.da==2)=false:=(by simpa using k);rw[this,AAa (c:=false=true) ak,AAa k];cases hi:Cp ev.d3 wv.Be.length with
       |false=>rfl
       |true=>
        rw[AAa (c:=(!true)=true) ak,B6 hi,AAS];by_cases i:(ix wv.Be ev.d3).cr=ev.cr
        . simp[i]
        . simp[i];rfl
    grind
theorem RB.LB(h:RB i s)(b:i<=n)(N:Int)(f:AY->AY)(c:(f (Abs.ix s.AK N)).An.length<=n):RB n (Abs.LB s N f):=by
 intro x a;rcases AA7 a with a|rfl
 . exact ABO (h x a) b
 . exact c
theorem RB.apply(h:RB i s)(wv:AF)(t k o wake:Int):RB (i+1) (DR wv s t k o wake).1:=by
 have c:RB (i+1) s:=h.mono ah;have hi:=λN=>Nat.le_succ_of_le (h.ix N);have key:∀(p:Prop) [Decidable p] (a b:AQ×Int),RB (i+1) a.1->RB (i+1) b.1->RB (i+1) (if p then a else b).1:=by intro p _ a b e f;split<;>assumption
 unfold DR
 repeat' refine key _ _ _ ?_ ?_
 all_goals first
  |exact c
  |exact h.LB ah _ _ (hi _)
  | (refine h.LB ah _ _ ?_;have:=QS ((Abs.ix s.AK o).An++[t]);have:=h.ix o;grind)
  | (refine h.LB ah _ _ (ABO (List.length_filter_le _ _) (hi _)))
  |exact h.LB ah (Abs.ix wv.Ak o).dm (λx=>⟨-1,x.An⟩) (hi _)
  |exact h.LB ah (Abs.ix wv.Ak o).dm (λx=>⟨t,x.An⟩) (hi _)
  | (by_cases d:Cd o 0 s.AA=[]<;>simp only[d,AAy,AAk]<;>exact c)
theorem RB.start(wv:AF):RB 0 (KS wv):=by
 intro x a
 have:=List.eq_of_mem_replicate a;simp_all
def cG(e:AH):Bool:=e.da==3||e.da==23
def It(l:jm)(t:Int):List Bool:=(l.filter λe=>e.cr==t).map cG
def KM(reads:jD)(k:Int):Bool:=Cp k reads.length&&ix reads k
def PW(pre:jm)(ev:AH):Bool:=ev.EA.all (KM (It pre ev.cr))&&ev.DW.all (KM (It pre ev.cr))
theorem mF.L2(L1:ir)(l:iq)(reads:jD)(t:Int)(c:l.length<4611686018427387904):∀(n i:Nat),i<=l.length->l.length<n+i->A8.CC L1 l reads t n (i:Int)=if(l.drop i).all (KM reads)=true then A8.J3 L1 t else some false
 |0,i,h1,h2=>ah
 |n+1,i,h1,h2=>by
  unfold A8.CC A8.L2;by_cases hi:i<l.length
  . unfold A8.J2;rw[BC ah,B4 hi,AAS,EH hi,Af ah,mF.L2 L1 l reads t c n (i+1) ah ah,ABF];generalize l[i]=x;generalize (l.drop (i+1)).all (KM reads)=q;unfold KM;by_cases a:x<0
    . have:Cp x reads.length=false:=br;simp_all
    . by_cases b:x>=(reads.length:Int)
      . have:Cp x reads.length=false:=br;simp_all
      . have h:Cp x reads.length=true:=br;rw[Ad a,Ad b,B6 h,AAS,h];grind
  grind
theorem mG(reads:jD)(ev:AH)(b:KE ev):A8 reads ev=some (ev.EA.all (KM reads)&&ev.DW.all (KM reads)):=by
 unfold A8;have f:=BP;have a:∀L1 t l,l.length<4611686018427387904->A8.J1 L1 reads t l=if l.all (KM reads)=true then A8.J3 L1 t else some false:=by
  intro L1 t l c
  have:=mF.L2 L1 l reads t c BT 0 ah ah;rw[AAz]at this;exact this
 rw[Yl];generalize BT-3=m;have e:A8.AW ev reads (m+1) 2=some true:=by unfold A8.AW A8.L1;rfl
 have d:A8.AW ev reads (m+2) 1=some (ev.DW.all (KM reads)):=by unfold A8.AW A8.L1;rw[BC bg,AAa bg,AAb bg,a _ _ _ b.2];unfold A8.J3;rw[show A6 (1+1)=2 from rfl,e];cases ev.DW.all (KM reads)<;>rfl
 unfold A8.AW A8.L1;rw[BC bg,AAb bg,a _ _ _ b.1];unfold A8.J3;rw[show A6 (0+1)=1 from rfl,d];grind
def W5(x t:Int):Int->List AH->Bool
 |_,[]=>false
 |nv,e::r=>if e.cr=t then(nv==x&&cG e)||W5 x t (nv+1) r else W5 x t nv r
theorem oR(e:AH)(r:jm)(t:Int):It (e::r) t=if e.cr=t then cG e::It r t else It r t:=by unfold It;grind
theorem scan_eq(x t:Int)(l:jm):∀a:Int,W5 x t a l=KM (It l t) (x-a):=by
 induction l with
 |nil=>intro a;simp[W5,KM,It,Cp];omega
 |cons e r ih=>
  intro a;unfold W5;rw[oR];by_cases h:e.cr=t
  . rw[AAb h,AAb h,ih];unfold KM;by_cases c:x=a
    . subst c;have b:Cp (x-x) (cG e::It r t).length=true:=(by rw[BI];simp only[ABU];omega);have i:ix (cG e::It r t) (x-x)=cG e:=(by simp[ix]);have j:Cp (x-(x+1)) (It r t).length=false:=by
       cases hq:Cp (x-(x+1)) (It r t).length with
       |false=>rfl
       |true=>have:=BI.1 hq;omega
      simp_all
    . have d:(a==x)=false:=(by simpa usingλh=>c h.symm);have b:Cp (x-a) (cG e::It r t).length=Cp (x-(a+1)) (It r t).length:=(by rw[ABs,BI,BI];simp;omega);rw[d,b];cases hb:Cp (x-(a+1)) (It r t).length with
      |false=>simp
      |true=>obtain⟨f,g⟩:=BI.1 hb;have:ix (cG e::It r t) (x-a)=ix (It r t) (x-(a+1)):=(by unfold ix;rw[show(x-a).toNat=(x-(a+1)).toNat+1 from by omega,ABN]);simp_all
  simp_all
theorem reads.L2(L1:ir)(i:Nat)(k:Int)(l:jm)(a:iq)(t x:Int)(hi:i<=l.length)(hi':i<=1000000)(d:gt a k=some x):∀(n j b:Nat)(ok:Bool),j<=i->i<n+j->b<=j->
 DK.CC L1 (i:Int) k l a t n (b:Int) ok (j:Int)=DK.J3 L1 k (ok||W5 x t b ((l.take i).drop j))
 |0,j,b,ok,h1,h2,h3=>ah
 |n+1,j,b,ok,h1,h2,h3=>by
  unfold DK.CC DK.L2;by_cases g:j<i
  . have f:j<(l.take i).length:=an;have e:=λ(c:Nat) ok' h=>reads.L2 L1 i k l a t x hi hi' d n (j+1) c ok' ah ah h;unfold DK.J1 DK.J2;rw[BC ah,B4 ah,AAS,EH f,Af (i:=j) ah,Af (i:=b) ah,d,AAS,W5];simp only[List.getElem_take,e (b+1) _ ah,e b _ ah,show((b:Int)+1)=((b+1:Nat):Int)from rfl];unfold cG;grind
  . rw[Ad ah,List.drop_eq_nil_of_le an];simp[W5]
theorem Zi(i:Nat)(l:jm)(a:iq)(t:Int)(hi:i<=l.length)(hi':i<=1000000)(c:a.length<4611686018427387904):∀(n k:Nat),k<=a.length->a.length<n+k->
 DK.AW (i:Int) l a t n (k:Int)=some ((a.drop k).all (KM (It (l.take i) t)))
 |0,k,h1,h2=>ah
 |n+1,k,h1,h2=>by
  unfold DK.AW DK.L1;by_cases b:k<a.length
  . have:=reads.L2 (DK.AW (i:Int) l a t n) i (k:Int) l a t a[k] hi hi' (B4 b) BT 0 0 false ah bh ah;rw[AAz,scan_eq]at this;simp only[Int.natCast_zero,Int.sub_zero,Bool.false_or]at this;rw[BC ah,this,EH b,ABF];unfold DK.J3 DK.J4;rw[Af ah,Zi i l a t hi hi' c n (k+1) ah ah];grind
  . rw[Ad ah,E6 b];rfl
theorem oT(i:Nat)(l:jm)(a:iq)(t:Int)(hi:i<=l.length)(hi':i<=1000000)(b:a.length<4611686018427387904):DK l (i:Int) t a=some (a.all (KM (It (l.take i) t))):=by have:=Zi i l a t hi hi' b BT 0 ah bh;rw[AAz]at this;exact this
def Fe(wv:AF):List AH->AD->List AH->Int×Int
 |_,_,[]=>(0,0)
 |pre,s,x::r=>if(Hc wv s x&&PW pre x)=true then Fe wv (pre++[x]) (F7 wv s x) r else((pre.length:Int),12)
def Jq(t:Ca):Int×Int:=if t.AB.length>400 then(0,2)else if Cy t.cT=true then Fe t.cT [] (Hi t.cT) t.AB else(0,1)
theorem Kx{s:AD}{x:AH}(h:Hc wv s x=true):Cp x.cr wv.AA.length=true:=by unfold Hc at h;simp_all
theorem NB(l:jm)(x:AH)(t:Int):It (l++[x]) t=if x.cr=t then It l t++[cG x]else It l t:=by unfold It;grind
theorem KP(l:jm)(t:Int):(It l t).length<=l.length:=by unfold It;grind
theorem YQ(t:Ca)(h:Small t.cT)(a:∀e∈t.AB,KE e)(l:t.AB.length<=400):∀(n i:Nat)(s:AD)(R:jp),i<=t.AB.length->t.AB.length<n+i->RB i s.de->R.length=t.cT.AA.length->(∀u:Nat,u<R.length->R[u]? =some (It (t.AB.take i) (u:Int)))->
 Dm.AW t n s R (i:Int)=some (Fe t.cT (t.AB.take i) s (t.AB.drop i))
 |0,i,s,R,h1,h2,_,_,_=>ah
 |n+1,i,s,R,h1,h2,h3,h4,h5=>by
  unfold Dm.AW Dm.L1;by_cases hi:i<t.AB.length
  . have f:=a _ (AAi hi);rw[BC ah,B4 hi,AAS,X6 t.cT h s (h3.mono ah) _ f,AAS,EH hi,Fe,ABk ah];unfold P5;cases hp:Hc t.cT s t.AB[i]with
    |false=>rfl
    |true=>
     rw[AAb rfl,AAa (c:=(!true)=true) ak,AAq];have m:=Kx hp;obtain⟨k,r⟩:=BI.1 m;have o:t.AB[i].cr.toNat<R.length:=ah;have d:gt R t.AB[i].cr=some (It (t.AB.take i) t.AB[i].cr):=(by unfold gt;rw[AAb k,h5 _ o];congr 2;omega);have q:=KP (t.AB.take i) t.AB[i].cr;rw[ABk ah]at q;rw[d,AAS,mG _ _ f,AAS];unfold Dm.J1;show(if(!(PW (t.AB.take i) t.AB[i]))=true then _ else _)=_
     cases PW (t.AB.take i) t.AB[i]with
     |false=>rfl
     |true=>
      rw[AAa (c:=(!true)=true) ak,AAb rfl,d,AAS,Ba ah,Ba ah];unfold Dm.J2;have g:∀b,b=cG t.AB[i]->Dm.AW t n (F7 t.cT s t.AB[i]) (R.set t.AB[i].cr.toNat (It (t.AB.take i) t.AB[i].cr++[b])) (A6 ((i:Int)+1))=some (Fe t.cT (t.AB.take i++[t.AB[i]]) (F7 t.cT s t.AB[i]) (t.AB.drop (i+1))):=by
       rintro b rfl;rw[Af ah,AAp hi];refine YQ t h a l n (i+1) _ _ ah ah ?_ am ?_
       . exact h3.apply _ _ _ _ _
       . intro u p;rw[<- AAp hi,NB];grind
      by_cases j:t.AB[i].da=3
      . rw[AAb (by simp[j])];exact g _ (by simp[cG,j])
      . rw[AAa am];exact g _ (by simp[cG,show(t.AB[i].da==3)=false by simp_all])
  . rw[Ad ah,E6 hi];rfl
theorem Check_eq(t:Ca)(d:∀e∈t.AB,KE e):Dm t=some (Jq t):=by
 unfold Dm Jq;by_cases f:t.AB.length>400
 . grind
 . rw[Ad ah,AAa f,Sk,AAS];cases hv:Cy t.cT with
   |false=>rfl
   |true=>
    have a:=Di hv;have g:=a.t;rw[AAa (c:=(!true)=true) ak,Sh _ a,AAS,AAb ⟨ah,ah,Bs ah⟩,AAb rfl]
    have:=YQ t a d ah BT 0 (Hi t.cT) (List.replicate t.cT.AA.length []) ah bh (RB.start _) ak (by intro u b;simp at b;simp[b,It]);simp_all
theorem Wp(t:Ca)(d:Small t.cT)(b:∀e∈t.AB,KE e)(f:t.AB.length<=400):∀(n i:Nat)(s:AD),i<=t.AB.length->t.AB.length<n+i->RB i s.de->
 GD.AW t n s (i:Int)=some (Fe t.cT (t.AB.take i) s (t.AB.drop i))
 |0,i,s,h1,h2,_=>ah
 |n+1,i,s,h1,h2,h3=>by
  unfold GD.AW GD.L1;by_cases hi:i<t.AB.length
  . have a:=b _ (AAi hi);rw[BC ah,B4 hi,AAS,Qu t.cT d s (h3.mono ah) _ a,AAS,EH hi,Fe,ABk ah];unfold P5;cases hp:Hc t.cT s t.AB[i]with
    |false=>rfl
    |true=>
     rw[AAb rfl,AAa (c:=(!true)=true) ak,AAq,oT i _ _ _ ah ah a.1,AAS,oT i _ _ _ ah ah a.2,AAS];unfold PW;cases t.AB[i].EA.all (KM (It (t.AB.take i) t.AB[i].cr))with
     |false=>rfl
     |true=>
      cases t.AB[i].DW.all (KM (It (t.AB.take i) t.AB[i].cr))with
      |false=>rfl
      |true=>rw[AAa (c:=(!true)=true) ak,AAq,AAb rfl];unfold GD.J1;rw[AAa (c:=(!true)=true) ak,Af ah,AAp hi];exact Wp t d b f n (i+1) _ ah ah (h3.apply _ _ _ _ _)
  . rw[Ad ah,E6 hi];rfl
theorem rCheck_eq(t:Ca)(b:∀e∈t.AB,KE e):GD t=some (Jq t):=by
 unfold GD Jq;by_cases d:t.AB.length>400
 . grind
 . rw[Ad ah,AAa d,Ky,AAS];cases hv:Cy t.cT with
   |false=>rfl
   |true=>
    have a:=Di hv;rw[AAa (c:=(!true)=true) ak,K5 _ a,AAS,AAb rfl]
    have:=Wp t a b ah BT 0 (Hi t.cT) ah bh (RB.start _);simp_all
end
end Go.Abs
