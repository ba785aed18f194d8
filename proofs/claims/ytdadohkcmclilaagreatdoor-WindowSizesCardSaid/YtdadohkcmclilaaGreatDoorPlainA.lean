/- What the typed programs give, in plain Lean. -/
import Derived.Test.YtdadohkcmclilaaGreatDoorWalkL
import Derived.Lib.SlicesCompact
import Derived.Shelf.Slices.SearchI
set_option linter.unusedSimpArgs false
set_option linter.unusedVariables false
namespace Go.Abs
theorem DR {n:Int} (h: -9223372036854775808≤n) (a:n<9223372036854775808):Ap n=n:=by simp only[Ap,IntKind.wrap,IntKind.bits,IntKind.signed];simp;omega
theorem Ao {i:Nat} (h:i<9223372036854775807):Ap ((i:Int)+1)=((i+1:Nat):Int):=by rw[DR (by omega) (by omega)];rfl
theorem LG {a:Type} (l:List a) (i:Nat):gt l (i:Int)=l[i]? :=by simp[gt]
theorem CU {a:Type} {l:List a} {i:Nat} (h:i<l.length):gt l (i:Int)=some l[i]:=by rw[LG];simp[h]
def Ee (i:Int) (n:Nat):Bool:=decide (0≤i)&&decide (i<(n:Int))
def ix {α:Type} [Inhabited α] (l:List α) (i:Int):α:=(l[i.toNat]?).getD default
theorem B9 {i:Int} {n:Nat}:Ee i n=true↔0≤i/\i<n:=by simp[Ee]
theorem Cd {a:Type} [Inhabited a] {l:List a} {i:Int} (h:Ee i l.length=true):gt l i=some (ix l i):=by
 obtain⟨b,c⟩:=B9.1 h;have:i.toNat<l.length:=by omega
 simp[gt,ix,b,this]
theorem DK {n b:Nat} (h:n*b≤70368744177664):Al n b=true:=by simp[Al,h]
theorem BL {a:Type} {n b:Nat} {x y:a} (h:n*b≤70368744177664):(if Al n b=true then x else y)=x:=AAY (DK h)
theorem BC {a:Type} {p:Prop} [Decidable p] {x y:a} (h:p):(if decide p=true then x else y)=x:=by rw[AAY (by simpa using h)]
theorem Ac {a:Type} {p:Prop} [Decidable p] {x y:a} (h:¬p):(if decide p=true then x else y)=y:=by rw[AAX (by simpa using h)]
theorem E6 {a:Type} {l:List a} {i:Nat} (h:i<l.length):l.drop i=l[i]::l.drop (i+1):=ABH h
theorem GM {a:Type} {l:List a} {i:Nat} (h:¬i<l.length):l.drop i=[]:=List.drop_eq_nil_of_le (by omega)
theorem B1:BT=18446744073709551616:=rfl
theorem kinds {P:Int->Prop} (N:P 1) (O:P 2) (Q:P 3) (R:P 4) (S:P 5) (T:P 6) (U:P 7) (V:P 8) (W:P 9) (a:P 10) (b:P 11) (c:P 12) (d:P 13) (e:P 14) (f:P 15) (g:P 16) (h:P 17) (i:P 18) (j:P 19) (l:P 20) (m:P 21) (n:P 22) (o:P 23)
 (X:∀k,k≠1->k≠2->k≠3->k≠4->k≠5->k≠6->k≠7->k≠8->k≠9->k≠10->k≠11->k≠12->k≠13->k≠14->k≠15->k≠16->k≠17->k≠18->k≠19->k≠20->k≠21->k≠22->k≠23->P k) (k:Int):P k:=by
 by_cases r:k=1;· exact r▸N
 by_cases s:k=2;· exact s▸O
 by_cases t:k=3;· exact t▸Q
 by_cases u:k=4;· exact u▸R
 by_cases v:k=5;· exact v▸S
 by_cases w:k=6;· exact w▸T
 by_cases x:k=7;· exact x▸U
 by_cases y:k=8;· exact y▸V
 by_cases z:k=9;· exact z▸W
 by_cases D:k=10;· exact D▸a
 by_cases E:k=11;· exact E▸b
 by_cases B:k=12;· exact B▸c
 by_cases F:k=13;· exact F▸d
 by_cases G:k=14;· exact G▸e
 by_cases H:k=15;· exact H▸f
 by_cases q:k=16;· exact q▸g
 by_cases I:k=17;· exact I▸h
 by_cases J:k=18;· exact J▸i
 by_cases K:k=19;· exact K▸j
 by_cases p:k=20;· exact p▸l
 by_cases L:k=21;· exact L▸m
 by_cases C:k=22;· exact C▸n
 by_cases M:k=23;· exact M▸o
 exact X k r s t u v w x y z D E B F G H q I J K p L C M
theorem Y9 {a b:List Int} (d:a.Pairwise (· < ·)) (f:b.Pairwise (· < ·)) (h:∀x,x∈a↔x∈b):a=b:=by
 induction a generalizing b with
 |nil=>
  cases b with
  |nil=>rfl
  |cons y b=>have:=(h y).2 (by simp);simp at this
 |cons x a ih=>
  cases b with
  |nil=>have:=(h x).1 (by simp);simp at this
  |cons y b=>
   rw[List.pairwise_cons]at d f;have j:x=y:=by
    have g:=(h x).1 (by simp);have i:=(h y).2 (by simp);rcases AAp.1 g with e|g
    . exact e
    . rcases AAp.1 i with e|i
      . exact e.symm
      . have:=f.1 x g;have:=d.1 y i;omega
   subst j;congr 1;refine ih d.2 f.2 λz=> ?_;have k:=h z;simp only[AAp]at k;constructor
   . intro c
     have:=d.1 z c;rcases k.1 (.inr c)with e|e
     . omega
     . exact e
   . intro c
     have:=f.1 z c;rcases k.2 (.inr c)with e|e
     . omega
     . exact e
theorem QW (d:Array Int) (hd:∀i j,i≤j->j<d.size->d[i]! ≤d[j]!):∀m,m≤d.size->(∀x,x∈Lib.compactUpTo d m↔∃i,i<m/\d[i]! =x)/\(Lib.compactUpTo d m).Pairwise (· < ·):=by
 intro m;induction m with
 |zero=>intro _;exact⟨λx=>by simp[Lib.compactUpTo],by simp[Lib.compactUpTo]⟩
 |succ m ih=>
  intro q;obtain⟨f,g⟩:=ih (by omega);rw[Lib.compactUpTo_succ];by_cases c:Lib.keeps d m=true
  . rw[AAY c];refine⟨λx=> ?_,?_⟩
    . rw[AAj,f x,AA4];constructor
      . rintro(⟨i,hi,e⟩|e)
        . exact⟨i,by omega,e⟩
        . exact⟨m,by omega,e.symm⟩
      . rintro⟨i,hi,e⟩;by_cases a:i=m
        . exact .inr (by rw[← e,a])
        . exact .inl ⟨i,by omega,e⟩
    . rw[List.pairwise_append];refine⟨g,by simp,λx n y h=> ?_⟩;rw[AA4]at h;subst h;obtain⟨i,hi,e⟩:=(f x).1 n;have b:m=0∨d[m]! ≠d[m-1]! :=(by simpa[Lib.keeps]using c);have o:=hd i (m-1) (by omega) (by omega);have p:=hd (m-1) m (by omega) (by omega);rcases b with k|k
      . omega
      . rw[← e];omega
  . rw[AAX c,ABf];refine⟨λx=> ?_,g⟩;have b:¬(m=0∨d[m]! ≠d[m-1]!):=(by simpa[Lib.keeps]using c);rw[not_or]at b;have l:d[m]! =d[m-1]! :=(by have:=b.2;simpa using this);rw[f x];constructor
    . rintro⟨i,hi,e⟩;exact⟨i,by omega,e⟩
    . rintro⟨i,hi,e⟩;by_cases a:i=m
      . exact⟨m-1,by omega,by rw[← l,← a,e]⟩
      . exact⟨i,by omega,e⟩
def QH (l:List Int):List Int:=l.mergeSort λx y=>decide (x≤y)
def UE (l:List Int):List Int:=Lib.compact (QH l)
theorem Rw (l:List Int):(QH l).length=l.length:=by simp[QH]
theorem pW (l:List Int) (x:Int):x∈QH l↔x∈l:=by simp[QH]
theorem Rx (l:List Int):(QH l).Pairwise (· ≤ ·):=by have:=List.pairwise_mergeSort (le:=λx y:Int=>decide (x≤y)) (by simp;omega) (by simp;omega) l;simpa[QH]using this
theorem P8 (l:List Int) (h:l.Pairwise (· ≤ ·)):(∀x,x∈Lib.compact l↔x∈l)/\(Lib.compact l).Pairwise (· < ·):=by
 have hd:∀i j,i≤j->j<l.toArray.size->l.toArray[i]! ≤l.toArray[j]! :=by
  intro i j c f;have b:j<l.length:=by simpa using f
  rcases Nat.lt_or_eq_of_le c with a|rfl
  . have:=List.pairwise_iff_getElem.1 h i j (by omega) b a;rw[getElem!_pos l.toArray i (by simp;omega),getElem!_pos l.toArray j (by simpa using b)];simpa using this
  . exact Int.le_refl _
 obtain⟨a,d⟩:=QW l.toArray hd l.length (by simp);refine⟨λx=> ?_,d⟩;show x∈Lib.compactUpTo l.toArray l.length↔_;rw[a x,List.mem_iff_getElem];constructor
 . rintro⟨i,hi,e⟩;rw[getElem!_pos l.toArray i (by simpa using hi)]at e;exact⟨i,hi,by simpa using e⟩
 . rintro⟨i,hi,e⟩;exact⟨i,hi,by rw[getElem!_pos l.toArray i (by simpa using hi)];simpa using e⟩
theorem fR (l:List Int):(Lib.compact l).length≤l.length:=by unfold Lib.compact Lib.compactUpTo;rw[AAo];exact ABO (List.length_filter_le _ _) (by simp)
theorem Pb (l:List Int) (x:Int):x∈UE l↔x∈l:=by unfold UE;rw[(P8 _ (Rx l)).1,pW]
theorem NK (l:List Int):(UE l).Pairwise (· < ·):=(P8 _ (Rx l)).2
theorem ZZ (l:List Int):(UE l).length≤l.length:=by have:=fR (QH l);rw[Rw]at this;exact this
def GU (out:List Int) (x:Int):Nat:=(out.takeWhile λy=>decide (y<x)).length
def ins (out:List Int) (x:Int):List Int:=if out[GU out x]? =some x then out else out.take (GU out x)++x::out.drop (GU out x)
theorem YW (out:List Int) (x:Int) (i:Nat) (hi:i≤out.length) (b:∀(k:Nat) (d:k<out.length),k<i->out[k]<x) (c:∀(e:i<out.length),¬out[i]<x):GU out x=i:=by
 unfold GU;induction out generalizing i with
 |nil=>simp at hi;simp[hi]
 |cons y out ih=>
  by_cases a:y<x
  . cases i with
    |zero=>exact absurd a (c (by simp))
    |succ i=>rw[List.takeWhile_cons_of_pos (by simpa using a),AA7];rw[ih i (by simpa using hi) (λk d f=>by have:=b (k+1) (by simpa using d) (by omega);simpa using this) (λe=>by have:=c (by simpa using e);simpa using this)]
  . cases i with
    |zero=>rw[List.takeWhile_cons_of_neg (by simpa using a)];rfl
    |succ i=>have:=b 0 (by simp) (by omega);simp at this;exact absurd this a
theorem V5 (out:List Int) (x:Int):(ins out x).length≤out.length+1:=by
 unfold ins;split
 . omega
 . simp;omega
def xQ (l:List Int):List Int:=l.foldl ins []
theorem o4 (out:List Int) (x:Int) (h:out.Pairwise (· < ·)):(ins out x).Pairwise (· < ·)/\∀z,z∈ins out x↔z∈out∨z=x:=by
 have key:∀(out:List Int),out.Pairwise (· < ·)->(∀(k:Nat) (b:k<out.length),k<GU out x->out[k]<x)/\(∀(k:Nat) (b:k<out.length),GU out x≤k->x≤out[k])/\GU out x≤out.length:=by
  intro out;induction out with
  |nil=>intro _;simp[GU]
  |cons y out ih=>
   intro l;rw[List.pairwise_cons]at l;obtain⟨j,c,p⟩:=ih l.2;by_cases g:y<x
   . have e:GU (y::out) x=GU out x+1:=(by unfold GU;rw[List.takeWhile_cons_of_pos (by simpa using g)];rfl);rw[e];refine⟨λk b f=> ?_,λk b f=> ?_,by simp;omega⟩
     . cases k with
       |zero=>simpa using g
       |succ k=>have:=j k (by simpa using b) (by omega);simpa using this
     . cases k with
       |zero=>omega
       |succ k=>have:=c k (by simpa using b) (by omega);simpa using this
   . have e:GU (y::out) x=0:=(by unfold GU;rw[List.takeWhile_cons_of_neg (by simpa using g)];rfl);rw[e];refine⟨λk b f=>by omega,λk b _=> ?_,by simp⟩;cases k with
     |zero=>simp;omega
     |succ k=>
      have i:k<out.length:=by simpa using b
      have:=l.1 out[k] (AAi i);simp;omega
 obtain⟨j,c,p⟩:=key out h;unfold ins;split
 . rename_i d;obtain⟨r,d⟩:=AAQ.1 d;refine⟨h,λz=>⟨.inl,?_⟩⟩;rintro(a|rfl)
   . exact a
   . rw[← d];exact AAi r
 . rename_i d;have m:out=out.take (GU out x)++out.drop (GU out x):=(List.take_append_drop _ _).symm;refine⟨?_,λz=> ?_⟩
   . rw[List.pairwise_append,List.pairwise_cons];refine⟨h.sublist (List.take_sublist _ _),⟨λz a=> ?_,h.sublist (List.drop_sublist _ _)⟩,λy g z a=> ?_⟩
     . obtain⟨k,b,rfl⟩:=List.mem_iff_getElem.1 a;rw[List.getElem_drop];rw[List.length_drop]at b;have n:=c (GU out x+k) (by omega) (by omega);by_cases o:k=0
       . subst o;have:out[GU out x+0]≠x:=λe=>d (by rw[AAT (by omega)];simpa using e);omega
       . have q:=c (GU out x) (by omega) (by omega);have t:=List.pairwise_iff_getElem.1 h (GU out x) (GU out x+k) (by omega) (by omega) (by omega);omega
     . obtain⟨k,b,rfl⟩:=List.mem_iff_getElem.1 g;rw[List.getElem_take];rw[List.length_take]at b;have n:=j k (by omega) (by omega);rcases AAp.1 a with rfl|a
       . exact n
       . obtain⟨s,i,rfl⟩:=List.mem_iff_getElem.1 a;rw[List.getElem_drop];rw[List.length_drop]at i;have q:=c (GU out x+s) (by omega) (by omega);omega
   . rw[AAj,AAp];constructor
     . rintro(a|rfl|a)
       . exact .inl (ABc a)
       . exact .inr rfl
       . exact .inl (List.mem_of_mem_drop a)
     . rintro(a|rfl)
       . rw[m,AAj]at a;exact a.imp id .inr
       . exact .inr (.inl rfl)
theorem o0 (l:List Int):xQ l=UE l:=by
 have key:∀(l a:List Int),a.Pairwise (· < ·)->(l.foldl ins a).Pairwise (· < ·)/\∀z,z∈l.foldl ins a↔z∈a∨z∈l:=by
  intro l;induction l with
  |nil=>intro a h;exact⟨h,by simp⟩
  |cons x l ih=>
   intro a h;obtain⟨b,c⟩:=o4 a x h;obtain⟨d,e⟩:=ih (ins a x) b;refine⟨d,λz=> ?_⟩;rw[List.foldl_cons,e z,c z,AAp];constructor
   . rintro((h|h)|h)
     . exact .inl h
     . exact .inr (.inl h)
     . exact .inr (.inr h)
   . rintro(h|h|h)
     . exact .inl (.inl h)
     . exact .inl (.inr h)
     . exact .inr h
 obtain⟨b,c⟩:=key l [] (by simp);exact Y9 b (NK l) λz=>by rw[Pb];have:=c z;simpa[xQ]using this
def HN (c:Int):Bool:=(decide (97≤c)&&decide (c≤122))||(decide (65≤c)&&decide (c≤90))
def Lv (c:Int):Bool:=HN c||((decide (48≤c)&&decide (c≤57))||c==95)
def Im (s:ABq) (i:Nat):Int:=((s.get! i).toNat:Int)
def NZ (s:ABq) (i:Nat):Bool:=HN (Im s i)||(decide (0<i)&&((decide (48≤Im s i)&&decide (Im s i≤57))||Im s i==95))
theorem Y4 (s:ABq) (i:Nat) (h:(s.get! i).toNat<128):Utf8.decode s i=((s.get! i).toNat,1):=by unfold Utf8.decode;simp[h]
theorem fT (s:ABq) (i:Nat) (h:¬(s.get! i).toNat<128):128≤(Utf8.decode s i).1:=by
 unfold Utf8.decode;simp only[Nat.add_zero,h,AAe];have b:128≤Utf8.runeError:=by decide
 split
 . split
   . assumption
   . exact b
 . split
   . split
     . rename_i a;simp only[AAP,AAf]at a;exact ABO (by decide) a.1
     . exact b
   . split
     . split
       . rename_i a;simp only[AAP,AAf]at a;exact ABO (by decide) a.1
       . exact b
     . exact b
def kM (c:Int) (pos:Nat):Bool:=HN c||(decide (0<pos)&&((decide (48≤c)&&decide (c≤57))||c==95))
theorem Sx (s:ABq) (L:Nat->ABp Bool) (a:Nat) (b:a<s.size):
 CL.L1 s L a=if kM ((Utf8.decode s a).1:Int) a=true then L (a+(Utf8.decode s a).2)else some false:=by
 unfold CL.L1;rw[BC b];unfold CL.J2 CL.J3 kM HN;generalize ((Utf8.decode s a).1:Int)=c;have e:decide ((a:Int)>0)=decide (0<a):=by simp
 rw[e];generalize decide (97≤c)=b1;generalize decide (c≤122)=b2;generalize decide (65≤c)=b3;generalize decide (c≤90)=b4;generalize decide (48≤c)=b5;generalize decide (c≤57)=b6;generalize decide (0<a)=b7;generalize (c==95)=b8;cases b1<;>cases b2<;>cases b3<;>cases b4<;>cases b5<;>cases b6<;>cases b7<;>cases b8<;>rfl
theorem Ln (s:ABq):∀(n a:Nat),a≤s.size->s.size<n+a->CL.Aa s n a=some ((List.range' a (s.size-a)).all (NZ s))
 |0,a,h1,h2=>by omega
 |n+1,a,h1,h2=>by
  unfold CL.Aa;by_cases c:a<s.size
  . rw[Sx s _ a c];have d:List.range' a (s.size-a)=a::List.range' (a+1) (s.size-(a+1)):=(by rw[show s.size-a=(s.size-(a+1))+1 from by omega,ABo]);rw[d,ABF];by_cases b:(s.get! a).toNat<128
    . rw[Y4 s a b,Ln s n (a+1) (by omega) (by omega)];show(if NZ s a=true then _ else _)=_
      cases NZ s a<;>simp
    . have g:=fT s a b;have f:NZ s a=false:=(by unfold NZ HN Im;simp;omega);have e:kM ((Utf8.decode s a).1:Int) a=false:=(by unfold kM HN;simp;omega);rw[f,e,Bool.false_and];rfl
  . unfold CL.L1;rw[Ac c];have:s.size-a=0:=(by omega);simp[CL.J4,this]
theorem lV {s:ABq} {i:Nat} (h:i<s.size):sgt s (i:Int)=some (s.get! i):=by
 unfold sgt;rw[AAY (by omega)];simp only[ABE];rw[getElem?_pos s i h];congr 1;have e:s.get! i=s[i]:=by simp[ByteArray.get!,getElem!_pos,h];rfl
 exact e.symm
theorem Nc (c:Int):FC c=some (HN c):=by unfold FC FC.J1 HN;simp only[ge_iff_le];generalize decide (97≤c)=b1;generalize decide (c≤122)=b2;generalize decide (65≤c)=b3;generalize decide (c≤90)=b4;cases b1<;>cases b2<;>cases b3<;>cases b4<;>rfl
theorem WY (c:Int):Ge c=some (Lv c):=by unfold Ge HI;rw[Nc,AAO];unfold Ge.J1 HI.J1 Lv;simp only[ge_iff_le];generalize HN c=b1;generalize decide (48≤c)=b5;generalize decide (c≤57)=b6;generalize (c==95)=b8;cases b1<;>cases b5<;>cases b6<;>cases b8<;>rfl
theorem Lg (s:ABq) (c:s.size≤12):∀(n i:Nat),i≤s.size->s.size<n+i->Bp.Aa s n i=some ((List.range' i (s.size-i)).all λk=>Lv (Im s k))
 |0,pos,h1,h2=>by omega
 |n+1,i,h1,h2=>by
  unfold Bp.Aa Bp.L1;by_cases b:i<s.size
  . rw[BC (by omega),lV b,AAO,WY,AAO,Ao (by omega),Lg s c n (i+1) (by omega) (by omega)];have a:List.range' i (s.size-i)=i::List.range' (i+1) (s.size-(i+1)):=(by rw[show s.size-i=(s.size-(i+1))+1 from by omega,ABo]);rw[a,ABF];show(if(!(Lv (Im s i)))=true then _ else _)=_
    cases Lv (Im s i)<;>simp
  . rw[Ac (by omega)];have:s.size-i=0:=(by omega);simp[Bp.J2,this]
theorem OY (s:ABq):∀(n i:Nat),i≤22->22<n+i->DI.Aa s n i=some ((Kg.drop i).any λx=>s.toList==x.toList)
 |0,pos,h1,h2=>by omega
 |n+1,i,h1,h2=>by
  have b:Kg.length=22:=rfl;unfold DI.Aa DI.L1;by_cases c:i<22
  . have a:i<Kg.length:=(by omega);rw[BC (by omega),AAY (by omega),CU a,AAO,Ao (by omega),OY s n (i+1) (by omega) (by omega),E6 a,List.any_cons];cases(s.toList==Kg[i].toList)<;>simp
  . rw[Ac (by omega)];have:Kg.drop i=[]:=List.drop_eq_nil_of_le (by omega);simp[DI.J1,this]
def o6 (s:ABq):Bool:=Kg.any λx=>s.toList==x.toList
theorem Q7 (s:ABq):DI s=some (o6 s):=OY s BT 0 (by omega) (by decide)
theorem SO:JV=some Kg:=rfl
theorem KR (s:ABq) (v:List ABq) (b:v.length≤100):∀(n i:Nat),i≤v.length->v.length<n+i->Ce.Aa s v n i=some ((v.drop i).any λx=>x.toList==s.toList)
 |0,pos,h1,h2=>by omega
 |n+1,i,h1,h2=>by
  unfold Ce.Aa Ce.L1;by_cases a:i<v.length
  . rw[BC (by omega),CU a,AAO,Ao (by omega),KR s v b n (i+1) (by omega) (by omega),E6 a,List.any_cons];cases(v[i].toList==s.toList)<;>simp
  . rw[Ac (by omega)];have:v.drop i=[]:=List.drop_eq_nil_of_le (by omega);simp[Ce.J1,this]
theorem Qq (s:ABq):Ce s=some (o6 s):=by unfold Ce;rw[SO,AAO];refine(KR s Kg (by decide) BT 0 (by omega) (by decide)).trans ?_;rw[AAq];congr 1;unfold o6;congr 1;funext x;exact Bool.beq_comm
def Oh (s:ABq):Bool:=decide (1≤s.size)&&decide (s.size≤12)&& !o6 s&&(List.range' 0 s.size).all (NZ s)
theorem Ut (s:ABq):CL s=some (Oh s):=by
 unfold CL;by_cases c:s.size<1
 . rw[BC (by omega)];simp[CL.J1,Oh];omega
 . rw[Ac (by omega)];by_cases d:s.size>12
   . rw[BC (by omega)];simp[CL.J1,Oh];omega
   . rw[Ac (by omega),Q7,AAO];unfold CL.J1;rw[Ln s BT 0 (by omega) (by have:BT=18446744073709551616:=rfl;omega)];have a:1≤s.size:=(by omega);have b:s.size≤12:=(by omega);simp only[Oh,a,b,decide_true,AA0,Nat.sub_zero];cases o6 s<;>simp
theorem gU (s:ABq) (h:0<s.size):(HN (Im s 0)&&(List.range' 0 s.size).all λk=>Lv (Im s k))=(List.range' 0 s.size).all (NZ s):=by
 have f:List.range' 0 s.size=0::List.range' 1 (s.size-1):=by rw[show s.size=(s.size-1)+1 from by omega,ABo];simp
 rw[f,ABF,ABF];have b:NZ s 0=HN (Im s 0):=by simp[NZ]
 have c:Lv (Im s 0)=(HN (Im s 0)||((decide (48≤Im s 0)&&decide (Im s 0≤57))||Im s 0==95)):=rfl;have d:(List.range' 1 (s.size-1)).all (NZ s)=(List.range' 1 (s.size-1)).all λk=>Lv (Im s k):=by
  rw[Bool.eq_iff_iff,AAU,AAU];have e:∀k∈List.range' 1 (s.size-1),NZ s k=Lv (Im s k):=λk a=>by have:0<k:=(by have:=List.mem_range'_1.1 a;omega);simp[NZ,Lv,this]
  exact⟨λh k a=>e k a▸h k a,λh k a=>(e k a).symm▸h k a⟩
 rw[b,c,d];cases HN (Im s 0)<;>simp
theorem QP (s:ABq):Bp s=some (Oh s):=by
 unfold Bp;by_cases c:s.size<1
 . rw[BC (by omega)];simp[Bp.J1,Oh];omega
 . rw[Ac (by omega)];by_cases d:s.size>12
   . rw[BC (by omega)];simp[Bp.J1,Oh];omega
   . rw[Ac (by omega),show(0:Int)=((0:Nat):Int)from rfl,lV (by omega),AAO,Nc,AAO,Qq,AAO];unfold Bp.J1;rw[show(0:Int)=((0:Nat):Int)from rfl,Lg s (by omega) BT 0 (by omega) (by have:BT=18446744073709551616:=rfl;omega)];have a:1≤s.size:=(by omega);have b:s.size≤12:=(by omega);simp only[Oh,a,b,decide_true,AA0,Nat.sub_zero];rw[← gU s (by omega)];show(if(!HN (Im s 0))=true then _ else _)=_
     cases o6 s<;>cases HN (Im s 0)<;>simp
instance:Inhabited Ic:=⟨⟨⟨#[]⟩,false⟩⟩
theorem ba_beq (a b:ABq):(a==b)=(a.data==b.data):=by cases a;cases b;rfl
theorem nH (a b:ABq):(a.toList==b.toList)=(a==b):=by rw[ba_beq,Bool.eq_iff_iff,AAd,AAd,ByteArray.toList_eq,ByteArray.toList_eq];exact Array.toList_inj
theorem Tq (wv:AD) (L1:List ABq->Int->ABp (List ABq×Bool)) (L1':List ABq->Int->ABp (List ABq×Bool)) (F:List ABq×Bool->ABp (List ABq×Bool))
 (e:F ([],false)=some ([],false)) (f:∀a b,L1 a b=(L1' a b).bind F) (i:Int) (l:List ABq) (x:DB):
 ∀(m:Nat) (k:Int) (c:DB),c.Name=x.Name->c.B0=x.B0->c.Fv=false->c.Init=x.Init->
  BI.C2 L1 i l wv x m k=(AR.C2 L1' i wv.Cells l x m c k).bind F
 |0,k,c,_,_,_,_=>rfl
 |m+1,k,c,e1,e2,e3,e4=>by
  have o:=λp=>Tq wv L1 L1' F e f i l x m p ⟨c.Name,k,c.B0,c.Fv,c.Init⟩ e1 e2 e3 e4;unfold BI.C2 AR.C2 BI.L2 AR.L2;by_cases d:k<x.B0
  . rw[BC d,BC d];cases gt wv.Cells (Ap (i+k))with
    |none=>rfl
    |some y=>simp only[AAO,BI.J2,o,e1,e2,e3,e4];by_cases g:y.Index=k<;>by_cases h:y.Name.toList=x.Name.toList<;>by_cases j:y.B0=x.B0<;>by_cases n:y.Init=x.Init<;>cases a5:y.Fv<;>simp[g,h,j,n,e]
  . rw[Ac d,Ac d];simp only[BI.J3,AR.J2,f,e2]
def Lq (wv:AD):List ABq×Bool->ABp (List ABq×Bool):=λv=>if v.2=true then BI.J4 wv v.1 else some ([],false)
theorem YH (wv:AD) (m:wv.Cells.length≤12):∀(n:Nat) (names:List ABq) (i:Int),
 BI.Aa wv n names i=(AR.Aa wv.Cells n names i).bind (Lq wv)
 |0,_,_=>rfl
 |n+1,names,i=>by
  have j:=YH wv m n;unfold BI.Aa AR.Aa BI.L1 AR.L1;by_cases hi:i<(wv.Cells.length:Int)
  . rw[BC hi,BC hi];cases hx:gt wv.Cells i with
    |none=>rfl
    |some x=>
     simp only[AAO];by_cases d:Al (names.length+1) 16=true
     . rw[AAY d,AAY d];by_cases e:x.B0=0
       . simp only[e,ABB,AAs,j];by_cases c:x.Index=0<;>simp[c,Lq]
       . simp only[e,AAd,AAe,BI.J1,AR.J1];by_cases c:x.B0<1
         . simp[c,Lq]
         . by_cases f:x.B0>4
           . simp[c,f,Lq]
           . simp only[c,f,decide_false,AAW,AAe];have k:=Tq wv _ _ (Lq wv) rfl (λa b=>j a b) i names x BT 0 x rfl rfl;by_cases g:x.B0>Ap ((wv.Cells.length:Int)-i)
             . cases x.Fv<;>simp[g,Lq]
             . simp only[g,decide_false,AAW,AAe];cases hv:x.Fv with
               |false=>simp only[AAW,AAe];exact k hv rfl
               |true=>
                simp only[AAs];have o:0≤i:=by
                 unfold gt at hx;by_cases h:0≤i
                 . exact h
                 . simp[h]at hx
                show BI.C2 _ _ _ _ _ BT 0=_;rw[show BT=18446744073709551615+1 from rfl];unfold BI.C2 BI.L2;rw[BC (by omega),DR (by omega) (by omega),Int.add_zero,hx];simp only[AAO,BI.J2,hv];by_cases l:x.Index=0<;>simp[l,Lq]
     . rw[AAX d,AAX d];rfl
  . rw[Ac hi,Ac hi];simp[AR.J3,Lq]
theorem LP (l:List DB) (j:l.length≤12) (L1:List ABq->Int->ABp (List ABq×Bool)) (names:List ABq) (x:DB) (i:Nat) (f:1≤x.B0) (g:x.B0≤4) (n:x.B0≤(l.length:Int)-i) (Q:List ABq×Bool->Prop) (c:Q ([],false))
 (b:∃v,L1 (names++[x.Name]) ((i+x.B0.toNat:Nat):Int)=some v/\Q v):
 ∀(m k:Nat) (a:DB),a.B0=x.B0->k≤x.B0->x.B0<(m+k:Nat)->∃v,AR.C2 L1 (i:Int) l names x m a (k:Int)=some v/\Q v
 |0,k,a,e,h,h'=>by omega
 |m+1,k,a,e,h,h'=>by
  unfold AR.C2 AR.L2;by_cases d:(k:Int)<x.B0
  . rw[BC d,DR (by omega) (by omega),show(i:Int)+(k:Int)=((i+k:Nat):Int)from by omega,CU (by omega),AAO,Ao (by omega)];split
    . exact⟨_,rfl,c⟩
    . exact LP l j L1 names x i f g n Q c b m (k+1) _ e (by omega) (by omega)
  . rw[Ac d];unfold AR.J2;rw[e,DR (by omega) (by omega),show(i:Int)+x.B0=((i+x.B0.toNat:Nat):Int)from by omega];exact b
theorem LQ (l:List DB) (d:l.length≤12):∀(n i:Nat) (names:List ABq),i≤l.length->l.length<n+i->names.length≤i->∃v,AR.Aa l n names (i:Int)=some v/\v.1.length≤l.length
 |0,i,names,a,b,c=>by omega
 |n+1,i,names,a,b,c=>by
  unfold AR.Aa AR.L1;by_cases hi:i<l.length
  . rw[BC (by omega),CU hi,AAO,BL (by omega)];have g:∃v,some (([],false):List ABq×Bool)=some v/\v.1.length≤l.length:=⟨_,rfl,by simp⟩;generalize l[i]=x;by_cases e:x.B0=0
    . simp only[e,ABB,AAs];rw[Ao (by omega)];split
      . exact g
      . exact LQ l d n (i+1) _ (by omega) (by omega) (by simp;omega)
    . simp only[e,AAd,AAe,AR.J1];rw[DR (n:=(l.length:Int)-i) (by omega) (by omega)];by_cases a:x.B0<1
      . simp[a]
      . by_cases b:x.B0>4
        . simp[a,b]
        . by_cases c:x.Fv=true
          . simp[a,b,c]
          . by_cases f:x.B0>(l.length:Int)-i
            . simp[a,b,c,f]
            . simp only[a,b,c,f,decide_false,AAW,AAe];refine LP l d _ names x i (by omega) (by omega) (by omega) _ (by simp) ?_ BT 0 x rfl (by omega) (by have:=B1;omega);exact LQ l d n (i+x.B0.toNat) _ (by omega) (by omega) (by simp;omega)
  . rw[Ac (by omega)];exact⟨_,rfl,by simp;omega⟩
def KB (wv:AD):List ABq:=wv.AG.map (·.Name)++(wv.Af.map (·.Name)++(wv.AK++wv.AA))
def RM:List ABq->List ABq->Bool
 |_,[]=>true
 |seen,x::r=>Oh x&& !(seen.any λy=>y==x)&&RM (seen++[x]) r
structure Small (wv:AD):Prop where
 c:wv.Cells.length≤12
 l:wv.AG.length≤4
 d:wv.Af.length≤2
 f:wv.AK.length≤2
 t:wv.AA.length≤4
 s:wv.A7.length≤60
theorem names.L3 (wv:AD) (a:List ABq) (c:(a++wv.AK++wv.AA).length≤1000):∀(n i:Nat) (b:List ABq),i≤(a++wv.AK++wv.AA).length->(a++wv.AK++wv.AA).length<n+i->
 A3.Gm a wv n (i:Int) b=some (RM b ((a++wv.AK++wv.AA).drop i))
 |0,i,b,h1,h2=>by omega
 |n+1,i,b,h1,h2=>by
  unfold A3.Gm A3.L3;by_cases hi:i<(a++wv.AK++wv.AA).length
  . rw[BC (by omega),CU hi,AAO,Ut,AAO,E6 hi];unfold A3.J3;rw[Ao (by omega),names.L3 wv a c n (i+1) _ (by omega) (by omega)];generalize (a++wv.AK++wv.AA)[i]=x;rw[RM];cases Oh x<;>cases hs:(b.any λy=>y==x)<;>simp
  . rw[Ac (by omega),GM hi];rfl
theorem names.J2 (wv:AD) (b:Small wv) (a:List ABq) (c:a.length≤100):A3.J2 wv a=some (RM [] (a++(wv.AK++wv.AA))):=by
 have:=b.f;have:=b.t;have d:=B1;unfold A3.J2;rw[BL (by omega),BL (by simp;omega)]
 have:=names.L3 wv a (by simp;omega) BT 0 [] (by omega) (by simp;omega);rw[AAq,AA6]at this;exact this
theorem names.L2 (wv:AD) (b:Small wv):∀(n i:Nat) (a:List ABq),i≤wv.Af.length->wv.Af.length<n+i->a.length≤50+i->A3.C2 wv n a (i:Int)=some (RM [] (a++((wv.Af.drop i).map (·.Name)++(wv.AK++wv.AA))))
 |0,i,a,h1,h2,h3=>by omega
 |n+1,i,a,h1,h2,h3=>by
  have:=b.d;unfold A3.C2 A3.L2;by_cases hi:i<wv.Af.length
  . rw[BC (by omega),CU hi,AAO,BL (by omega),Ao (by omega),names.L2 wv b n (i+1) _ (by omega) (by omega) (by simp;omega),E6 hi];simp only[AAg,AA6,AA5,ABI]
  . rw[Ac (by omega),GM hi,names.J2 wv b a (by omega)];simp
theorem names.L1 (wv:AD) (b:Small wv):∀(n i:Nat) (a:List ABq),i≤wv.AG.length->wv.AG.length<n+i->a.length≤20+i->A3.Aa wv n a (i:Int)=some (RM [] (a++((wv.AG.drop i).map (·.Name)++(wv.Af.map (·.Name)++(wv.AK++wv.AA)))))
 |0,i,a,h1,h2,h3=>by omega
 |n+1,i,a,h1,h2,h3=>by
  have:=b.l;have:=b.d;have c:=B1;unfold A3.Aa A3.L1;by_cases hi:i<wv.AG.length
  . rw[BC (by omega),CU hi,AAO,BL (by omega),Ao (by omega),names.L1 wv b n (i+1) _ (by omega) (by omega) (by simp;omega),E6 hi];simp only[AAg,AA6,AA5,ABI]
  . rw[Ac (by omega),GM hi];unfold A3.J1
    have:=names.L2 wv b BT 0 a (by omega) (by omega) (by omega);rw[AAq]at this;simpa using this
theorem yL (wv:AD) (b:Small wv) (a:List ABq) (d:a.length≤12):A3 wv a=some (RM [] (a++KB wv)):=by
 have:=b.l;have c:=B1;unfold A3;rw[BL (by omega)]
 have:=names.L1 wv b BT 0 a (by omega) (by omega) (by omega);rw[AAq]at this;exact this
theorem NJ.J6 (wv:AD) (b:Small wv) (a:List ABq) (c:a.length≤100):BI.J6 wv a=some (a++(wv.AK++wv.AA),true):=by have:=b.f;have:=b.t;unfold BI.J6;rw[BL (by omega),BL (by simp;omega),AA6]
theorem NJ.L4 (wv:AD) (b:Small wv):∀(n i:Nat) (a:List ABq),i≤wv.Af.length->wv.Af.length<n+i->a.length≤50+i->BI.rI wv n a (i:Int)=some (a++((wv.Af.drop i).map (·.Name)++(wv.AK++wv.AA)),true)
 |0,i,a,h1,h2,h3=>by omega
 |n+1,i,a,h1,h2,h3=>by
  have:=b.d;unfold BI.rI BI.L4;by_cases hi:i<wv.Af.length
  . rw[BC (by omega),CU hi,AAO,BL (by omega),Ao (by omega),NJ.L4 wv b n (i+1) _ (by omega) (by omega) (by simp;omega),E6 hi];simp only[AAg,AA6,AA5,ABI]
  . rw[Ac (by omega),GM hi,NJ.J6 wv b a (by omega)];simp
theorem NJ.L3 (wv:AD) (b:Small wv):∀(n i:Nat) (a:List ABq),i≤wv.AG.length->wv.AG.length<n+i->a.length≤20+i->BI.Gm wv n a (i:Int)=some (a++((wv.AG.drop i).map (·.Name)++(wv.Af.map (·.Name)++(wv.AK++wv.AA))),true)
 |0,i,a,h1,h2,h3=>by omega
 |n+1,i,a,h1,h2,h3=>by
  have:=b.l;have:=b.d;have c:=B1;unfold BI.Gm BI.L3;by_cases hi:i<wv.AG.length
  . rw[BC (by omega),CU hi,AAO,BL (by omega),Ao (by omega),NJ.L3 wv b n (i+1) _ (by omega) (by omega) (by simp;omega),E6 hi];simp only[AAg,AA6,AA5,ABI]
  . rw[Ac (by omega),GM hi];unfold BI.J5
    have:=NJ.L4 wv b BT 0 a (by omega) (by omega) (by omega);rw[AAq]at this;simpa using this
theorem NJ.J4 (wv:AD) (b:Small wv) (a:List ABq) (c:a.length≤12):BI.J4 wv a=some (a++KB wv,true):=by
 have:=b.l;have d:=B1;unfold BI.J4
 have:=NJ.L3 wv b BT 0 a (by omega) (by omega) (by omega);rw[AAq]at this;exact this
theorem jX (l:List ABq) (x:ABq) (b:l.length≤1000):∀(n i:Nat),i≤l.length->l.length<n+i->∃r,Ca.Aa l x n (i:Int)=some r/\(0≤r↔((l.drop i).any λy=>y==x)=true)
 |0,i,h1,h2=>by omega
 |n+1,i,h1,h2=>by
  unfold Ca.Aa Ca.L1;by_cases hi:i<l.length
  . rw[BC (by omega),CU hi,AAO,Ao (by omega),E6 hi,nH,List.any_cons];obtain⟨r,c,a⟩:=jX l x b n (i+1) (by omega) (by omega);cases hx:(l[i]==x)with
    |true=>exact⟨_,rfl,by simp⟩
    |false=>exact⟨r,by simpa using c,by simpa using a⟩
  . rw[Ac (by omega),GM hi];exact⟨-1,rfl,by simp⟩
theorem at_eq (l:List ABq) (x:ABq) (c:l.length≤1000):∃r,Ca l x=some r/\decide (r≥0)=(l.any λy=>y==x):=by
 obtain⟨r,b,a⟩:=jX l x c BT 0 (by omega) (by have:=B1;omega);rw[AAq]at a;refine⟨r,b,?_⟩;cases h:(l.any λy=>y==x)with
 |true=>simpa using a.2 h
 |false=>simp only[decide_eq_false_iff_not,ge_iff_le];intro d;rw[a.1 d]at h;cases h
theorem UB (wv:AD) (v:List ABq×Bool) (d:v.1.length≤1000):∀(n i:Nat),i≤v.1.length->v.1.length<n+i->
 Ak.Aa v wv n (i:Int)=if RM (v.1.take i) (v.1.drop i)=true then Ak.J3 wv else some false
 |0,i,h1,h2=>by omega
 |n+1,i,h1,h2=>by
  unfold Ak.Aa Ak.L1;by_cases hi:i<v.1.length
  . rw[BC (by omega),CU hi,AAO,QP,AAO,E6 hi,AAY (c:=0≤(i:Int)/\(i:Int).toNat≤v.1.length) (by simp;omega),ABE];obtain⟨r,a,b⟩:=at_eq (v.1.take i) v.1[i] (by simp;omega);rw[a,AAO,b];unfold Ak.J2;rw[Ao (by omega),UB wv v d n (i+1) (by omega) (by omega),RM,AAk hi];cases Oh v.1[i]<;>cases((v.1.take i).any λy=>y==v.1[i])<;>simp
  . rw[Ac (by omega),GM hi];rfl
def HC (nt:Nat):Int->Int->List DL->Bool
 |_,_,[]=>true
 |t,n,x::r=>if x.Thread<t∨x.Thread≥nt then false else if x.Thread>t then x.Stmt==0&&HC nt x.Thread 1 r else x.Stmt==n&&HC nt t (n+1) r
theorem Q3 (wv:AD) (e:Small wv):∀(n i:Nat) (t:Int) (a:Nat),i≤wv.A7.length->wv.A7.length<n+i->a≤i->B3.Aa wv n t (a:Int) (i:Int)=some (HC wv.AA.length t a (wv.A7.drop i))
 |0,i,t,a,h1,h2,h3=>by omega
 |n+1,i,t,a,h1,h2,h3=>by
  have:=e.s;unfold B3.Aa B3.L1;by_cases hi:i<wv.A7.length
  . rw[BC (by omega),CU hi,AAO,E6 hi];simp only[B3.J1,B3.J2];rw[Ao (i:=i) (by omega),Ao (i:=a) (by omega),show Ap (0+1)=((1:Nat):Int)from rfl];rw[Q3 wv e n (i+1) _ (a+1) (by omega) (by omega) (by omega),Q3 wv e n (i+1) _ 1 (by omega) (by omega) (by omega)];generalize wv.A7[i]=x;rw[HC];by_cases b:x.Thread<t
    . simp[b]
    . by_cases c:x.Thread≥(wv.AA.length:Int)
      . simp[b,c]
      . by_cases f:x.Thread>t
        . by_cases d:x.Stmt=0<;>simp[b,c,f,d]
        . by_cases d:x.Stmt=(a:Int)<;>simp[b,c,f,d]
  . rw[Ac (by omega),GM hi];rfl
theorem UC (wv:AD) (q:Small wv):∀(n i:Nat) (t:Int) (f:Nat),i≤wv.A7.length->wv.A7.length<n+i->f≤i->(∀(h:0<i) (D:i-1<wv.A7.length),t=wv.A7[i-1].Thread/\(f:Int)=wv.A7[i-1].Stmt+1)->(i=0->t=0/\f=0)->0≤t->
 Ak.Gm wv n (i:Int)=some (HC wv.AA.length t f (wv.A7.drop i))
 |0,i,t,f,h1,h2,h3,_,_,_=>by omega
 |n+1,i,t,f,h1,h2,h3,h4,h5,h6=>by
  have:=q.s;unfold Ak.Gm Ak.L3;by_cases hi:i<wv.A7.length
  . rw[BC (by omega),CU hi,AAO,E6 hi];have m:∀(j:Int) (e:Nat),e≤i+1->(j=wv.A7[i].Thread/\(e:Int)=wv.A7[i].Stmt+1)->0≤j->Ak.Gm wv n ((i+1:Nat):Int)=some (HC wv.AA.length j e (wv.A7.drop (i+1))):=
     λj e a b c=>UC wv q n (i+1) j e (by omega) (by omega) a (λ_ _=>b) (by omega) c
    simp only[Ak.J6,Ak.J7,Ak.J8,Ak.J9];rw[Ao (i:=i) (by omega)];rw[HC];by_cases a0:wv.A7[i].Thread<0
    . have:wv.A7[i].Thread<t:=(by omega);simp[a0,this]
    . by_cases o:wv.A7[i].Thread≥(wv.AA.length:Int)
      . simp[a0,o]
      . simp only[a0,o,decide_false,ABd,AAW,AAe];by_cases B:i=0
        . subst B;obtain⟨rfl,rfl⟩:=h5 rfl;simp only[Int.natCast_zero,ABB,AAs,a0,AAe,Int.lt_irrefl,gt_iff_lt,decide_false,AAW];by_cases d:wv.A7[0].Stmt=0
          . simp only[d,bne_self_eq_false,AAW,AAe,ABB,AA0];rw[m wv.A7[0].Thread 1 (by omega) ⟨rfl,by simp[d]⟩ (by omega)];split
            . rfl
            . rw[show wv.A7[0].Thread=0 from by omega];rfl
          . simp[d]
        . have x:((i:Int)==0)=false:=(by simp;omega);have l:gt wv.A7 (Ap ((i:Int)-1))=some wv.A7[i-1]:=(by rw[DR (by omega) (by omega),show(i:Int)-1=((i-1:Nat):Int)from by omega,CU (by omega)]);obtain⟨v,w⟩:=h4 (by omega) (by omega);have z:Ap (wv.A7[i-1].Stmt+1)=(f:Int):=(by rw[← w];exact DR (by omega) (by omega));have y:decide ((i:Int)>0)=true:=(by simp;omega);simp only[x,l,AAO,AAW,AAe,z,← v,y,AAs];by_cases p:t=wv.A7[i].Thread
          . have C:¬wv.A7[i].Thread<t:=(by omega);have k:¬wv.A7[i].Thread>t:=(by omega);simp only[p,bne_self_eq_false,AAW,AAe,Int.lt_irrefl,gt_iff_lt];by_cases d:wv.A7[i].Stmt=(f:Int)
            . simp only[d,bne_self_eq_false,AAW,AAe,ABB,AA0];rw[m wv.A7[i].Thread (f+1) (by omega) ⟨rfl,by omega⟩ (by omega)];rfl
            . simp[d]
          . have r:(t != wv.A7[i].Thread)=true:=(by simpa using p);simp only[r,AAs];by_cases d:wv.A7[i].Stmt=0
            . by_cases g:wv.A7[i].Thread<t
              . simp[d,g]
              . have k:wv.A7[i].Thread>t:=(by omega);have u:¬t>wv.A7[i].Thread:=(by omega);simp only[d,g,k,u,bne_self_eq_false,AAW,AAe,decide_false,AAs,ABB,AA0];rw[m wv.A7[i].Thread 1 (by omega) ⟨rfl,by simp[d]⟩ (by omega)];rfl
            . by_cases g:wv.A7[i].Thread<t
              . simp[d,g]
              . have k:wv.A7[i].Thread>t:=(by omega);simp[d,g,k]
  . rw[Ac (by omega),GM hi];rfl
theorem zP (wv:AD) (a:Small wv):B3 wv=some (HC wv.AA.length 0 0 wv.A7):=by have:=Q3 wv a BT 0 0 0 (by omega) (by have:=a.s;have:=B1;omega) (by omega);rw[AAq]at this;exact this
theorem qH (wv:AD) (a:Small wv):Ak.J5 wv=some (HC wv.AA.length 0 0 wv.A7):=by have:=UC wv a BT 0 0 0 (by omega) (by have:=a.s;have:=B1;omega) (by omega) (by omega) (by simp) (by omega);rw[AAq]at this;exact this
def NY (wv:AD) (c:LL):Bool:=Ee c.Mutex wv.AG.length&& !(ix wv.AG c.Mutex).RW
theorem P6 (i:Int) (n:Nat):Ei i (n:Int)=some (Ee i n):=by unfold Ei Ei.J1 Ee;simp only[ge_iff_le];cases decide (0≤i)<;>rfl
theorem Vl (wv:AD) (a:Small wv):∀(n i:Nat),i≤wv.Af.length->wv.Af.length<n+i->BO.Aa wv n (i:Int)=if(wv.Af.drop i).all (NY wv)=true then some (HC wv.AA.length 0 0 wv.A7)else some false
 |0,i,h1,h2=>by omega
 |n+1,i,h1,h2=>by
  have:=a.d;unfold BO.Aa BO.L1;by_cases hi:i<wv.Af.length
  . rw[BC (by omega),CU hi,AAO,E6 hi,Ao (by omega),Vl wv a n (i+1) (by omega) (by omega),ABF];generalize wv.Af[i]=c;unfold FH;rw[P6,AAO];unfold NY FH.J1;cases h:Ee c.Mutex wv.AG.length with
    |false=>simp
    |true=>rw[AAY rfl,Cd h,AAO,AAO];cases(ix wv.AG c.Mutex).RW<;>simp
  . rw[Ac (by omega),GM hi];unfold BO.J4;rw[zP wv a];rfl
theorem T7 (wv:AD) (b:Small wv):∀(n i:Nat),i≤wv.Af.length->wv.Af.length<n+i->Ak.C2 wv n (i:Int)=if(wv.Af.drop i).all (NY wv)=true then some (HC wv.AA.length 0 0 wv.A7)else some false
 |0,i,h1,h2=>by omega
 |n+1,i,h1,h2=>by
  have:=b.d;unfold Ak.C2 Ak.L2;by_cases hi:i<wv.Af.length
  . unfold Ak.J4;rw[BC (by omega),CU hi,AAO,E6 hi,Ao (by omega),T7 wv b n (i+1) (by omega) (by omega),ABF];generalize wv.Af[i]=c;unfold NY;by_cases a:c.Mutex<0
    . have:Ee c.Mutex wv.AG.length=false:=(by simp[Ee];omega);simp[a,this]
    . by_cases e:c.Mutex≥(wv.AG.length:Int)
      . have:Ee c.Mutex wv.AG.length=false:=(by simp[Ee];omega);simp[a,e,this]
      . have h:Ee c.Mutex wv.AG.length=true:=(by simp[Ee];omega);rw[Ac a,Ac e,Cd h,AAO,h];cases(ix wv.AG c.Mutex).RW<;>simp
  . rw[Ac (by omega),GM hi];exact qH wv b
def Ck (wv:AD):Bool:=decide (wv.Cells.length≤12)&&decide (wv.AG.length≤4)&&decide (wv.Af.length≤2)&&decide (wv.AK.length≤2)&&decide (1≤wv.AA.length)&&decide (wv.AA.length≤4)&&decide (wv.A7.length≤60)&&
 (match AR wv.Cells with
 |some v=>v.2&&RM [] (v.1++KB wv)&&wv.Af.all (NY wv)&&HC wv.AA.length 0 0 wv.A7
 |none=>false)
theorem Xa (wv:AD):BO wv=some (Ck wv):=by
 unfold BO BO.J1;by_cases a:wv.Cells.length≤12
 . by_cases b:wv.AG.length≤4
   . by_cases c:wv.Af.length≤2
     . by_cases d:wv.AK.length≤2
       . by_cases e:wv.A7.length≤60
         . rw[Ac (by omega),Ac (by omega),Ac (by omega),Ac (by omega),AAX (by simp;omega)];unfold BO.J2;by_cases g:1≤wv.AA.length
           . by_cases f:wv.AA.length≤4
             . have j:Small wv:=⟨a,b,c,d,f,e⟩;obtain⟨v,l,m⟩:=LQ wv.Cells a BT 0 [] (by omega) (by have:=B1;omega) (by simp);have h:AR wv.Cells=some v:=l;rw[Ac (by omega),AAX (by simp;omega),h,AAO];have k:Ck wv=(v.2&&RM [] (v.1++KB wv)&&wv.Af.all (NY wv)&&HC wv.AA.length 0 0 wv.A7):=(by unfold Ck;rw[h];simp[a,b,c,d,e,g,f]);rw[k,yL wv j v.1 (by omega),AAO];unfold BO.J3;have i:=Vl wv j BT 0 (by omega) (by have:=B1;omega);rw[AAq]at i;rw[show(0:Int)=((0:Nat):Int)from rfl,i];cases v.2<;>cases RM [] (v.1++KB wv)<;>cases wv.Af.all (NY wv)<;>simp
             . rw[Ac (by omega),AAY (by simp;omega)];simp[Ck,f]
           . rw[BC (by omega),AAY rfl];simp[Ck,g]
         . rw[Ac (by omega),Ac (by omega),Ac (by omega),Ac (by omega),AAY (by simp;omega)];simp[Ck,e]
       . rw[Ac (by omega),Ac (by omega),Ac (by omega),BC (by omega),AAY rfl];simp[Ck,d]
     . rw[Ac (by omega),Ac (by omega),BC (by omega),AAY rfl];simp[Ck,c]
   . rw[Ac (by omega),BC (by omega),AAY rfl];simp[Ck,b]
 . rw[BC (by omega),AAY rfl];simp[Ck,a]
theorem Ot (wv:AD):Ak wv=some (Ck wv):=by
 unfold Ak Ak.J1;by_cases a:wv.Cells.length≤12
 . by_cases c:wv.AG.length≤4
   . by_cases d:wv.Af.length≤2
     . by_cases e:wv.AK.length≤2
       . by_cases h:1≤wv.AA.length
         . by_cases g:wv.AA.length≤4
           . by_cases f:wv.A7.length≤60
             . have l:Small wv:=⟨a,c,d,e,g,f⟩;obtain⟨v,k,o⟩:=LQ wv.Cells a BT 0 [] (by omega) (by have:=B1;omega) (by simp);have m:AR wv.Cells=some v:=k;rw[Ac (by omega),Ac (by omega),Ac (by omega),Ac (by omega),Ac (by omega),Ac (by omega),AAX (by simp;omega)];have n:Ck wv=(v.2&&RM [] (v.1++KB wv)&&wv.Af.all (NY wv)&&HC wv.AA.length 0 0 wv.A7):=(by unfold Ck;rw[m];simp[a,c,d,e,f,h,g]);have hn:BI wv=Lq wv v:=(by have:=YH wv a BT [] 0;rw[show(0:Int)=((0:Nat):Int)from rfl,k]at this;exact this);rw[hn,n];unfold Lq;have i:=T7 wv l BT 0 (by omega) (by have:=B1;omega);rw[AAq]at i;cases hv2:v.2 with
               |false=>simp
               |true=>rw[AAY rfl,NJ.J4 wv l v.1 (by omega),AAO,AAX (by simp)];have b:(v.1++KB wv).length≤1000:=(by simp[KB];omega);have j:=UB wv (v.1++KB wv,true) b BT 0 (by omega) (by have:=B1;simp only;omega);rw[List.take_zero,AAq]at j;rw[show(0:Int)=((0:Nat):Int)from rfl,j];unfold Ak.J3;rw[show(0:Int)=((0:Nat):Int)from rfl,i];cases RM [] (v.1++KB wv)<;>cases wv.Af.all (NY wv)<;>simp
             . rw[Ac (by omega),Ac (by omega),Ac (by omega),Ac (by omega),Ac (by omega),Ac (by omega),AAY (by simp;omega)];simp[Ck,f]
           . rw[Ac (by omega),Ac (by omega),Ac (by omega),Ac (by omega),Ac (by omega),BC (by omega),AAY rfl];simp[Ck,g]
         . rw[Ac (by omega),Ac (by omega),Ac (by omega),Ac (by omega),BC (by omega),AAY rfl];simp[Ck,h]
       . rw[Ac (by omega),Ac (by omega),Ac (by omega),BC (by omega),AAY rfl];simp[Ck,e]
     . rw[Ac (by omega),Ac (by omega),BC (by omega),AAY rfl];simp[Ck,d]
   . rw[Ac (by omega),BC (by omega),AAY rfl];simp[Ck,c]
 . rw[BC (by omega),AAY rfl];simp[Ck,a]
theorem EC {wv:AD} (h:Ck wv=true):Small wv:=by unfold Ck at h;simp only[AAP,AAf]at h;obtain⟨⟨⟨⟨⟨⟨⟨a,b⟩,c⟩,d⟩,g⟩,e⟩,f⟩,i⟩:=h;exact⟨a,b,c,d,e,f⟩
instance:Inhabited LL:=⟨⟨⟨#[]⟩,0⟩⟩
instance:Inhabited DB:=⟨⟨⟨#[]⟩,0,0,false,0⟩⟩
instance:Inhabited DL:=⟨⟨0,0,0⟩⟩
instance:Inhabited AW:=⟨⟨0,[]⟩⟩
instance:Inhabited AE:=⟨⟨0,0,false⟩⟩
def Mj (wv:AD):AN:=⟨List.replicate wv.AG.length ⟨-1,[]⟩, -1,List.replicate wv.AK.length false,(List.replicate wv.AA.length ⟨0,0,false⟩).set 0 ⟨1,0,false⟩⟩
theorem start.L1 (wv:AD) (a:Small wv) (D:List Bool) (T:List AE) (tx:Int):∀(n i:Nat),i≤wv.AG.length->wv.AG.length<n+i->
 Dy.Aa wv n ⟨List.replicate i ⟨-1,[]⟩++List.replicate (wv.AG.length-i) ⟨0,[]⟩,tx,D,T⟩ (i:Int)=Dy.J1 ⟨List.replicate wv.AG.length ⟨-1,[]⟩,tx,D,T⟩
 |0,i,h1,h2=>by omega
 |n+1,i,h1,h2=>by
  have:=a.l;unfold Dy.Aa Dy.L1;by_cases hi:i<wv.AG.length
  . rw[BC (by simp;omega)];have e:List.replicate (wv.AG.length-i) (AW.mk 0 [])=AW.mk 0 []::List.replicate (wv.AG.length-(i+1)) (AW.mk 0 []):=(by rw[show wv.AG.length-i=(wv.AG.length-(i+1))+1 from by omega,List.replicate_succ]);have c:gt (List.replicate i (AW.mk (-1) [])++List.replicate (wv.AG.length-i) (AW.mk 0 [])) (i:Int)=some ⟨0,[]⟩:=(by rw[LG,e,AAt (by simp)];simp);have b:(List.replicate i (AW.mk (-1) [])++List.replicate (wv.AG.length-i) (AW.mk 0 [])).set i (AW.mk (-1) [])=List.replicate (i+1) (AW.mk (-1) [])++List.replicate (wv.AG.length-(i+1)) (AW.mk 0 []):=(by rw[e,List.set_append_right _ _ (by simp)];simp only[List.length_replicate,Nat.sub_self,List.set_cons_zero];rw[List.replicate_succ'];simp);simp only[c,AAO,ABE,b];rw[Ao (by omega)];exact start.L1 wv a D T tx n (i+1) (by omega) (by omega)
  . rw[Ac (by simp;omega)];have:i=wv.AG.length:=(by omega);subst this;simp
theorem Zn (wv:AD) (a:Small wv):Dy wv=some (Mj wv):=by
 have c:=a.l;have d:=a.f;have e:=a.t;have g:=B1;unfold Dy;rw[AAY ⟨by omega,by omega,DK (by omega)⟩,AAY ⟨by omega,by omega,DK (by omega)⟩,AAY ⟨by omega,by omega,DK (by omega)⟩]
 have:=start.L1 wv a (List.replicate wv.AK.length false) (List.replicate wv.AA.length (AE.mk 0 0 false)) (-1) BT 0 (by omega) (by omega);simp only[List.replicate_zero,ABI,Nat.sub_zero,Int.natCast_zero]at this;rw[this];unfold Dy.J1 Dy.J2 Mj;simp only[List.length_replicate];by_cases h:wv.AA.length=0
 . simp[h]
 . have b:0<wv.AA.length:=(by omega);rw[BC (by omega)];have:gt (List.replicate wv.AA.length (AE.mk 0 0 false)) 0=some ⟨0,0,false⟩:=(by show gt _ ((0:Nat):Int)=_;rw[LG];simp[b]);rw[this];rfl
theorem UD.L3 (wv:AD) (a:Small wv) (L:List AW) (D:List Bool) (tx:Int):∀(n i:Nat),i≤wv.AA.length->wv.AA.length<n+i->
 CV.Gm wv n ⟨L,tx,D,(List.replicate i ⟨0,0,false⟩).set 0 ⟨1,0,false⟩⟩ (i:Int)=some ⟨L,tx,D,(List.replicate wv.AA.length ⟨0,0,false⟩).set 0 ⟨1,0,false⟩⟩
 |0,i,h1,h2=>by omega
 |n+1,i,h1,h2=>by
  have:=a.t;unfold CV.Gm CV.L3;by_cases hi:i<wv.AA.length
  . unfold CV.J3;rw[BC (by omega)];simp only[List.length_set,List.length_replicate];rw[BL (by omega),BL (by omega),Ao (by omega)];have e:∀x,(if((i:Int)==0)=true then CV.Gm wv n ⟨L,tx,D,(List.replicate i ⟨0,0,false⟩).set 0 ⟨1,0,false⟩++[⟨1,0,false⟩]⟩ x else CV.Gm wv n ⟨L,tx,D,(List.replicate i ⟨0,0,false⟩).set 0 ⟨1,0,false⟩++[⟨0,0,false⟩]⟩ x)=CV.Gm wv n ⟨L,tx,D,(List.replicate (i+1) ⟨0,0,false⟩).set 0 ⟨1,0,false⟩⟩ x:=by
     intro x;cases i with
     |zero=>rfl
     |succ i=>rw[AAX (by simp;omega),List.replicate_succ' (n:=i+1),List.set_append_left _ _ (by simp)]
    rw[e];exact UD.L3 wv a L D tx n (i+1) (by omega) (by omega)
  . rw[Ac (by omega)];have:i=wv.AA.length:=(by omega);subst this;rfl
theorem UD.L2 (wv:AD) (a:Small wv) (L:List AW) (tx:Int):∀(n i:Nat),i≤wv.AK.length->wv.AK.length<n+i->
 CV.C2 wv n ⟨L,tx,List.replicate i false,[]⟩ (i:Int)=some ⟨L,tx,List.replicate wv.AK.length false,(List.replicate wv.AA.length ⟨0,0,false⟩).set 0 ⟨1,0,false⟩⟩
 |0,i,h1,h2=>by omega
 |n+1,i,h1,h2=>by
  have:=a.f;unfold CV.C2 CV.L2;by_cases hi:i<wv.AK.length
  . rw[BC (by omega)];simp only[List.length_replicate];rw[BL (by omega),Ao (by omega),← List.replicate_succ'];exact UD.L2 wv a L tx n (i+1) (by omega) (by omega)
  . rw[Ac (by omega)];have:i=wv.AK.length:=(by omega);subst this;unfold CV.J2;exact UD.L3 wv a L _ tx BT 0 (by omega) (by have:=a.t;have:=B1;omega)
theorem UD.L1 (wv:AD) (a:Small wv):∀(n i:Nat),i≤wv.AG.length->wv.AG.length<n+i->
 CV.Aa wv n ⟨List.replicate i ⟨-1,[]⟩, -1,[],[]⟩ (i:Int)=some (Mj wv)
 |0,i,h1,h2=>by omega
 |n+1,i,h1,h2=>by
  have:=a.l;unfold CV.Aa CV.L1;by_cases hi:i<wv.AG.length
  . rw[BC (by omega)];simp only[List.length_replicate];rw[BL (by omega),Ao (by omega),← List.replicate_succ'];exact UD.L1 wv a n (i+1) (by omega) (by omega)
  . rw[Ac (by omega)];have:i=wv.AG.length:=(by omega);subst this;unfold CV.J1;exact UD.L2 wv a _ (-1) BT 0 (by omega) (by have:=a.f;have:=B1;omega)
theorem cE (wv:AD) (a:Small wv):CV wv=some (Mj wv):=UD.L1 wv a BT 0 (by omega) (by have:=a.l;have:=B1;omega)
def Gg (wv:AD):AB:=⟨Mj wv,wv.Cells.map (·.Init),List.replicate wv.AK.length 0,List.replicate wv.AA.length 0⟩
theorem wstart.L1 (wv:AD) (a:Small wv) (S:AN) (F C:List Int):∀(n i:Nat),i≤wv.Cells.length->wv.Cells.length<n+i->
 CX.Aa wv n ⟨S,(wv.Cells.take i).map (·.Init),F,C⟩ (i:Int)=some ⟨S,wv.Cells.map (·.Init),F,C⟩
 |0,i,h1,h2=>by omega
 |n+1,i,h1,h2=>by
  have:=a.c;unfold CX.Aa CX.L1;by_cases hi:i<wv.Cells.length
  . rw[BC (by omega),CU hi,AAO];simp only;rw[BL (by simp;omega),Ao (by omega)];have e:(wv.Cells.take i).map (·.Init)++[wv.Cells[i].Init]=(wv.Cells.take (i+1)).map (·.Init):=(by rw[← AAk hi,AA9];rfl);rw[e];exact wstart.L1 wv a S F C n (i+1) (by omega) (by omega)
  . rw[Ac (by omega),AA3 (by omega)];rfl
theorem MN (wv:AD) (a:Small wv):CX wv=some (Gg wv):=by have b:=a.c;have d:=a.f;have e:=a.t;have g:=B1;unfold CX;rw[Zn wv a,AAO,AAY ⟨by omega,by omega,DK (by omega)⟩,AAY ⟨by omega,by omega,DK (by omega)⟩,AAY ⟨by omega,by omega,DK (by omega)⟩];exact wstart.L1 wv a (Mj wv) _ _ BT 0 (by omega) (by omega)
end Go.Abs
namespace Go.Abs
set_option maxHeartbeats 4000000
theorem Jw (i:Int) (n:Nat):Co i (n:Int)=some (Ee i n):=P6 i n
theorem cF (i:Int) (n:Nat):G4 i (n:Int)=some (Ee i n):=P6 i n
def G8 (wv:AD) (s:AN):Bool:=wv.Af.all (λc=>Ee c.Mutex wv.AG.length)&&(s.AG.length==wv.AG.length&&(s.Bq.length==wv.AK.length&&s.AA.length==wv.AA.length))
theorem N0 (a b:Nat):((a:Int)==(b:Int))=(a==b):=by rw[Bool.eq_iff_iff,AAd,AAd];omega
theorem gY (a b:Nat):((a:Int) != (b:Int))= !(a==b):=by rw[← N0];rfl
theorem Mc (wv:AD) (a:Small wv):∀(n i:Nat),i≤wv.Af.length->wv.Af.length<n+i->EI.Aa wv n (i:Int)=some ((wv.Af.drop i).all λc=>Ee c.Mutex wv.AG.length)
 |0,i,h1,h2=>by omega
 |n+1,i,h1,h2=>by
  have:=a.d;unfold EI.Aa EI.L1;by_cases hi:i<wv.Af.length
  . rw[BC (by omega),CU hi,AAO,E6 hi,Ao (by omega),Mc wv a n (i+1) (by omega) (by omega),ABF,Jw,AAO];cases Ee wv.Af[i].Mutex wv.AG.length<;>simp
  . rw[Ac (by omega),GM hi];rfl
theorem Ol (wv:AD) (b:Small wv) (s:AN):EI wv s=some (G8 wv s):=by have a:=Mc wv b BT 0 (by omega) (by have:=b.d;have:=B1;omega);rw[AAq]at a;unfold EI EI.J1 G8;rw[gY,gY,gY,show(0:Int)=((0:Nat):Int)from rfl,a];cases(s.AG.length==wv.AG.length)<;>cases(s.Bq.length==wv.AK.length)<;>cases(s.AA.length==wv.AA.length)<;>simp
theorem Nj (wv:AD) (e:Small wv) (s:AN):∀(n i:Nat),i≤wv.Af.length->wv.Af.length<n+i->ER.Aa s wv n (i:Int)=some (((wv.Af.drop i).all λc=>Ee c.Mutex wv.AG.length)&&(s.AG.length==wv.AG.length&&(s.Bq.length==wv.AK.length&&s.AA.length==wv.AA.length)))
 |0,i,h1,h2=>by omega
 |n+1,i,h1,h2=>by
  have:=e.d;unfold ER.Aa ER.L1;by_cases hi:i<wv.Af.length
  . unfold ER.J1;rw[BC (by omega),CU hi,AAO,E6 hi,Ao (by omega),Nj wv e s n (i+1) (by omega) (by omega),ABF];generalize wv.Af[i]=c;by_cases a:c.Mutex<0
    . have:Ee c.Mutex wv.AG.length=false:=(by simp[Ee];omega);simp[a,this]
    . by_cases b:c.Mutex≥(wv.AG.length:Int)
      . have:Ee c.Mutex wv.AG.length=false:=(by simp[Ee];omega);simp[a,b,this]
      . have h:Ee c.Mutex wv.AG.length=true:=(by simp[Ee];omega);rw[Ac a,AAX (by simpa using b),h,AA0]
  . rw[Ac (by omega),GM hi];unfold ER.J2 ER.J3;rw[N0,N0,N0];cases(s.AG.length==wv.AG.length)<;>cases(s.Bq.length==wv.AK.length)<;>simp
theorem Nr (wv:AD) (b:Small wv) (s:AN):ER wv s=some (G8 wv s):=by have a:=Nj wv b s BT 0 (by omega) (by have:=b.d;have:=B1;omega);rw[AAq]at a;exact a
def MJ (wv:AD) (s:AB):Bool:=G8 wv s.Sync&&(s.Cells.length==wv.Cells.length&&(s.AK.length==wv.AK.length&&s.Count.length==wv.AA.length))
theorem PD (wv:AD) (a:Small wv) (s:AB):EL wv s=some (MJ wv s):=by unfold EL EL.J1 MJ;rw[Ol wv a,AAO,N0,N0,N0];cases G8 wv s.Sync<;>cases(s.Cells.length==wv.Cells.length)<;>cases(s.AK.length==wv.AK.length)<;>simp
def CF (wv:AD) (k o:Int):Bool:=
 if k=1∨k=2∨k=5∨k=12∨k=13∨k=14∨k=15 then o== -1
 else if k=3∨k=4 then Ee o wv.Cells.length
 else if k=6∨k=7 then Ee o wv.AG.length&& !(ix wv.AG o).RW
 else if k=8∨k=9∨k=10∨k=11 then Ee o wv.AG.length&&(ix wv.AG o).RW
 else if k=16∨k=17∨k=18∨k=19 then Ee o wv.Af.length
 else if k=20∨k=21 then Ee o wv.AA.length
 else if k=22∨k=23 then Ee o wv.AK.length
 else false
theorem yD {c:Type} (l:List Ic) (o:Int) (f g:Bool->ABp c) (y:ABp c) (d:∀b,f b=g b) (hn:y=g false) (a:Ic->Bool):(if Ee o l.length=true then(gt l o).bind λx=>f (a x)else y)=g (Ee o l.length&&a (ix l o)):=by
 cases h:Ee o l.length with
 |false=>simp[hn]
 |true=>rw[AAY rfl,Cd h,AAO,d];simp
theorem Ld (wv:AD) (o:Int):∀k,Bv wv k o=some (CF wv k o):=by
 refine kinds ?_ ?_ ?_ ?_ ?_ ?_ ?_ ?_ ?_ ?_ ?_ ?_ ?_ ?_ ?_ ?_ ?_ ?_ ?_ ?_ ?_ ?_ ?_ (λk c d e f g h i j l p q m r s t b u v w a y n z=> ?_)
 all_goals
  unfold Bv Bv.J1;simp(decide:=true)only[CF,Bv.J2,Bv.J3,Bv.J4,Bv.J5,Bv.J6,Bv.J7,Bv.J8,Bv.J9,Jw,AAO,ABB,AAs,AAe,AAd,ABd,or_true,true_or,false_or,AAW]
 all_goals first
  |done
  | (simp only[c,d,e,f,g,h,i,j,l,p,q,m,r,s,t,b,u,v,w,a,y,n,z,AAe,or_self];done)
  |exact yD wv.AG o some some (some false) (λ_=>rfl) rfl (λx=> !x.RW)
  |exact yD wv.AG o some some (some false) (λ_=>rfl) rfl (λx=>x.RW)
theorem Wm (wv:AD) (k o:Int):Hr wv k o=some (CF wv k o):=Ld wv o k
theorem VP (l:List Int) (v:Int) (c:l.length≤1000000000):∀(n i:Nat),i≤l.length->l.length<n+i->∃r,FF.Aa l v n (i:Int)=some r/\(0≤r↔v∈l.drop i)
 |0,i,h1,h2=>by omega
 |n+1,i,h1,h2=>by
  unfold FF.Aa FF.L1;by_cases hi:i<l.length
  . rw[BC (by omega),CU hi,AAO,Ao (by omega),E6 hi];obtain⟨r,d,b⟩:=VP l v c n (i+1) (by omega) (by omega);generalize l.drop (i+1)=rest at b ⊢;by_cases a:v=l[i]
    . exact⟨i,by simp[a],by simp[a]⟩
    . exact⟨r,by simpa[a]using d,by simpa[a]using b⟩
  . rw[Ac (by omega),GM hi];exact⟨-1,rfl,by simp⟩
theorem Zy (l:List Int) (v:Int) (c:l.length≤1000000000):GZ l v=some (l.contains v):=by obtain⟨r,b,a⟩:=VP l v c BT 0 (by omega) (by have:=B1;omega);rw[AAq]at a;unfold GZ FF;rw[show(0:Int)=((0:Nat):Int)from rfl,b,AAO];congr 1;rw[Bool.eq_iff_iff,decide_eq_true_iff,AAu];exact a
theorem Z1 (l:List Int) (v:Int) (b:l.length≤1000000000):∀(n i:Nat),i≤l.length->l.length<n+i->GA.Aa l v n (i:Int)=some ((l.drop i).contains v)
 |0,i,h1,h2=>by omega
 |n+1,i,h1,h2=>by
  unfold GA.Aa GA.L1;by_cases hi:i<l.length
  . rw[BC (by omega),CU hi,AAO,Ao (by omega),E6 hi,Z1 l v b n (i+1) (by omega) (by omega)];generalize l.drop (i+1)=rest;by_cases a:l[i]=v
    . simp[a]
    . have:¬v=l[i]:=λh=>a h.symm;simp[a,this]
  . rw[Ac (by omega),GM hi];rfl
theorem mE (l:List Int) (v:Int) (a:l.length≤1000000000):GA l v=some (l.contains v):=Z1 l v a BT 0 (by omega) (by have:=B1;omega)
def RB (N:Nat) (s:AN):Prop:=∀x∈s.AG,x.As.length≤N
theorem RB.ix {N:Nat} {s:AN} (h:RB N s) (i:Int):(ix s.AG i).As.length≤N:=by
 unfold Abs.ix;cases hx:s.AG[i.toNat]? with
 |none=>exact Nat.zero_le _
 |some x=>exact h x (AAb hx)
def Kb (wv:AD) (s:AN) (t k o:Int):Bool:=
 let me:=ix s.AA t
 if k=1 then me.Status==1
 else if k=17 then me.Status==4&&(me.D8==o&&(ix s.AG (ix wv.Af o).Mutex).CW== -1)
 else me.Status==2&&(
  if k=6 then(ix s.AG o).CW== -1
  else if k=10 then(ix s.AG o).CW== -1&&((ix s.AG o).As.length:Int)==0
  else if k=8 then(ix s.AG o).CW== -1&& !(ix s.AG o).As.contains t
  else if k=7∨k=11 then(ix s.AG o).CW==t
  else if k=9 then(ix s.AG o).As.contains t
  else if k=12 then s.Tx== -1
  else if k=13 then s.Tx==t
  else if k=14 then !me.Atomic
  else if k=15 then me.Atomic
  else if k=16∨k=18∨k=19 then(ix s.AG (ix wv.Af o).Mutex).CW==t
  else if k=20 then o != t&&(ix s.AA o).Status==0
  else if k=21 then o != t&&(ix s.AA o).Status==5
  else if k=22 then !ix s.Bq o
  else if k=23 then ix s.Bq o
  else true)
def DC (wv:AD) (s:AN) (t k o:Int):Bool:=G8 wv s&&(Ee t wv.AA.length&&(CF wv k o&&Kb wv s t k o))
theorem FA {wv:AD} {s:AN} (h:G8 wv s=true):s.AG.length=wv.AG.length/\s.Bq.length=wv.AK.length/\s.AA.length=wv.AA.length:=by unfold G8 at h;simp only[AAP,AAd]at h;exact h.2
theorem HH {wv:AD} {s:AN} (h:G8 wv s=true) {o:Int} (b:Ee o wv.Af.length=true):Ee (ix wv.Af o).Mutex wv.AG.length=true:=by
 unfold G8 at h;simp only[AAP,AAU]at h;obtain⟨c,d⟩:=B9.1 b;have a:o.toNat<wv.Af.length:=by omega
 refine h.1 _ ?_;unfold ix;rw[AAT a];exact AAi a
theorem Lb (wv:AD) (D:Small wv) (s:AN) (g:RB 1000000000 s) (t o:Int):∀k,DG wv s t k o=some (DC wv s t k o):=by
 intro k;unfold DG DC;rw[Ol wv D,AAO];cases hf:G8 wv s with
 |false=>rfl
 |true=>
  rw[Jw,AAO];cases ht:Ee t wv.AA.length with
  |false=>rfl
  |true=>
   rw[Ld,AAO];cases b:CF wv k o with
   |false=>rfl
   |true=>
    obtain⟨e,E,h⟩:=FA hf;have f:gt s.AA t=some (ix s.AA t):=Cd (by rw[h];exact ht);unfold DG.J1;simp only[Bool.not_true,AAW,AAe,AA0];rw[f,AAO];revert b;have P:=g.ix o;have d:=Zy (ix s.AG o).As t (g.ix o);revert k;refine kinds ?_ ?_ ?_ ?_ ?_ ?_ ?_ ?_ ?_ ?_ ?_ ?_ ?_ ?_ ?_ ?_ ?_ ?_ ?_ ?_ ?_ ?_ ?_ (λk m n p q r u v w z F G B H I J j K L M i N C O=> ?_)
    all_goals
     intro b;unfold Kb;simp(decide:=true)only[CF,ABd,or_true,true_or,false_or,AAs,AAe,AAP]at b;simp(decide:=true)only[DG.J2,DG.J3,D1,D1.J1,D1.J2,D1.J3,D1.J4,D1.J5,D1.J6,ABB,AAd,AAs,AAe,ABd,or_true,true_or,false_or,AAW]
    all_goals first
     |done
     | (rw[Cd (l:=wv.Af) b,AAO,Cd (l:=s.AG) (by rw[e];exact HH hf b)];simp only[AAO];generalize (ix s.AA t).Status=x;generalize (ix s.AA t).D8=y;by_cases a:x=4<;>by_cases c:y=o<;>simp[a,c];done)
     | (rw[Cd (l:=wv.Af) b,AAO,Cd (l:=s.AG) (by rw[e];exact HH hf b)];simp only[AAO];generalize (ix s.AA t).Status=x;by_cases a:x=2<;>simp[a];done)
     | (rw[Cd (l:=s.AG) (by rw[e];exact b.1)];simp only[AAO,d];generalize (ix s.AA t).Status=x;by_cases a:x=2<;>by_cases c:(ix s.AG o).CW= -1<;>simp[a,c];done)
     | (rw[Cd (l:=s.AA) (by rw[h];exact b)];simp only[AAO];generalize (ix s.AA t).Status=x;by_cases a:x=2<;>by_cases c:o=t<;>simp[a,c];done)
     | (rw[Cd (l:=s.Bq) (by rw[E];exact b)];simp only[AAO];generalize (ix s.AA t).Status=x;by_cases a:x=2<;>simp[a];done)
     | (generalize (ix s.AA t).Status=x;by_cases a:x=2<;>simp[a];done)
     | (simp only[f,AAO];generalize (ix s.AA t).Status=x;by_cases a:x=2<;>simp[a];done)
     | (exfalso;revert b;simp only[m,n,p,q,r,u,v,w,z,F,G,B,H,I,J,j,K,L,M,i,N,C,O,AAe,or_self,AAW,imp_self];done)
     |skip
theorem Pd (wv:AD) (D:Small wv) (s:AN) (g:RB 1000000000 s) (t o:Int):∀k,CC wv s t k o=some (DC wv s t k o):=by
 intro k;unfold CC DC;rw[Nr wv D,AAO];cases hf:G8 wv s with
 |false=>rfl
 |true=>
  rw[cF,AAO];cases ht:Ee t wv.AA.length with
  |false=>rfl
  |true=>
   rw[Wm,AAO];cases b:CF wv k o with
   |false=>rfl
   |true=>
    obtain⟨e,E,h⟩:=FA hf;have f:gt s.AA t=some (ix s.AA t):=Cd (by rw[h];exact ht);unfold CC.J1;simp only[Bool.not_true,AAW,AAe,AA0];rw[f,AAO];revert b;have P:=g.ix o;have d:=mE (ix s.AG o).As t (g.ix o);revert k;refine kinds ?_ ?_ ?_ ?_ ?_ ?_ ?_ ?_ ?_ ?_ ?_ ?_ ?_ ?_ ?_ ?_ ?_ ?_ ?_ ?_ ?_ ?_ ?_ (λk m n p q r u v w z F G B H I J j K L M i N C O=> ?_)
    all_goals
     intro b;unfold Kb;simp(decide:=true)only[CF,ABd,or_true,true_or,false_or,AAs,AAe,AAP]at b;simp(decide:=true)only[CC.J2,CC.J3,CC.J4,CC.J5,CC.J6,CC.J7,CC.J8,ABB,AAd,AAs,AAe,ABd,or_true,true_or,false_or,AAW]
    all_goals first
     |done
     | (rw[Cd (l:=wv.Af) b,AAO,Cd (l:=s.AG) (by rw[e];exact HH hf b)];simp only[AAO];generalize (ix s.AA t).Status=x;generalize (ix s.AA t).D8=y;by_cases a:x=4<;>by_cases c:y=o<;>simp[a,c];done)
     | (rw[Cd (l:=wv.Af) b,AAO,Cd (l:=s.AG) (by rw[e];exact HH hf b)];simp only[AAO];generalize (ix s.AA t).Status=x;by_cases a:x=2<;>simp[a];done)
     | (rw[Cd (l:=s.AG) (by rw[e];exact b.1)];simp only[AAO,d];generalize (ix s.AA t).Status=x;by_cases a:x=2<;>by_cases c:(ix s.AG o).CW= -1<;>simp[a,c];done)
     | (rw[Cd (l:=s.AA) (by rw[h];exact b)];simp only[AAO];generalize (ix s.AA t).Status=x;by_cases a:x=2<;>by_cases c:o=t<;>simp[a,c];done)
     | (rw[Cd (l:=s.Bq) (by rw[E];exact b)];simp only[AAO];generalize (ix s.AA t).Status=x;by_cases a:x=2<;>simp[a];done)
     | (generalize (ix s.AA t).Status=x;by_cases a:x=2<;>simp[a];done)
     | (simp only[f,AAO];generalize (ix s.AA t).Status=x;by_cases a:x=2<;>simp[a];done)
     | (exfalso;revert b;simp only[m,n,p,q,r,u,v,w,z,F,G,B,H,I,J,j,K,L,M,i,N,C,O,AAe,or_self,AAW,imp_self];done)
     |skip
theorem Z3 (l:List Int) (x:Int) (o:l.length≤1000000000):∀(n i:Nat),i≤l.length->l.length<n+i->(∀(k:Nat) (f:k<l.length),k<i->l[k]<x)->EK.Aa l x n (i:Int)=some (ins l x)
 |0,i,h1,h2,_=>by omega
 |n+1,i,h1,h2,h3=>by
  unfold EK.Aa EK.L1;have step:∀(b:Bool),(∀(hi:i<l.length),b=decide (l[i]<x))->(¬i<l.length->b=false)->EK.J1 (EK.Aa l x n) (i:Int) l x b=some (ins l x):=by
   intro b j g;unfold EK.J1;by_cases hi:i<l.length
   . rw[j hi];by_cases c:l[i]<x
     . rw[BC c,Ao (by omega)];refine Z3 l x o n (i+1) (by omega) (by omega) λk f m=> ?_;by_cases e:k=i
       . subst e;exact c
       . exact h3 k f (by omega)
     . rw[Ac c];have d:=YW l x i h1 h3 (λ_=>c);unfold EK.J2 EK.J3 ins;rw[BC (by omega),CU hi,AAO,d,AAT hi];by_cases e:l[i]=x
       . simp[e]
       . have:(l[i]==x)=false:=(by simpa using e);rw[this,AAX (by simp),ABE,AAY ⟨by omega,by omega⟩,BL (by simp;omega),BL (by simp;omega),AAY ⟨by omega,by omega⟩,BL (by simp;omega),AAX (by simpa using e)];have p:(l.drop i).take (l.length-i)=l.drop i:=AA3 (by rw[List.length_drop];omega);rw[p];simp
   . rw[g hi,AAX (by simp)];have d:=YW l x i h1 h3 (λh=>absurd h hi);have a:i=l.length:=(by omega);unfold EK.J2 EK.J3 ins;rw[Ac (by omega),AAX (by simp),d,ABE,AAY ⟨by omega,by omega⟩,BL (by simp;omega),BL (by simp;omega),AAY ⟨by omega,by omega⟩,BL (by simp;omega),AAX (by simp[a])];congr 1;simp[a]
  by_cases hi:i<l.length
  . rw[BC (by omega),CU hi,AAO];exact step _ (λ_=>rfl) (λh=>absurd hi h)
  . rw[Ac (by omega)];exact step _ (λh=>absurd h hi) (λ_=>rfl)
theorem sV (l:List Int) (x:Int) (a:l.length≤1000000000):EK l x=some (ins l x):=Z3 l x a BT 0 (by omega) (by have:=B1;omega) (λk b h=>by omega)
theorem Union.L2 (b:List Int):∀(n i:Nat) (out:List Int),i≤b.length->b.length<n+i->out.length+b.length≤1000000000+i->b.length≤1000000000->Dk.C2 b n out (i:Int)=some ((b.drop i).foldl ins out)
 |0,i,out,h1,h2,h3,h4=>by omega
 |n+1,i,out,h1,h2,h3,h4=>by
  unfold Dk.C2 Dk.L2;by_cases hi:i<b.length
  . have a:=V5 out b[i];rw[BC (by omega),CU hi,AAO,sV _ _ (by omega),AAO,Ao (by omega),Union.L2 b n (i+1) _ (by omega) (by omega) (by omega) h4,E6 hi,List.foldl_cons]
  . rw[Ac (by omega),GM hi];rfl
theorem Union.L1 (a b:List Int) (c:a.length+b.length≤1000000000):∀(n i:Nat) (out:List Int),i≤a.length->a.length<n+i->out.length≤i->Dk.Aa a b n out (i:Int)=some (b.foldl ins ((a.drop i).foldl ins out))
 |0,i,out,h1,h2,h3=>by omega
 |n+1,i,out,h1,h2,h3=>by
  unfold Dk.Aa Dk.L1;by_cases hi:i<a.length
  . have d:=V5 out a[i];rw[BC (by omega),CU hi,AAO,sV _ _ (by omega),AAO,Ao (by omega),Union.L1 a b c n (i+1) _ (by omega) (by omega) (by omega),E6 hi,List.foldl_cons]
  . rw[Ac (by omega),GM hi];unfold Dk.J1
    have:=Union.L2 b BT 0 out (by omega) (by have:=B1;omega) (by omega) (by omega);rw[AAq]at this;exact this
theorem Z6 (a b:List Int) (c:a.length+b.length≤1000000000):Dk a b=some (UE (a++b)):=by have:=Union.L1 a b c BT 0 [] (by omega) (by have:=B1;omega) (by simp);rw[AAq,← List.foldl_append]at this;refine Eq.trans this ?_;rw[← o0];rfl
theorem NU (l:List Int) (x:Int) (c:l.length≤1000000000):∀(n i:Nat) (out:List Int),i≤l.length->l.length<n+i->out.length≤i->Dl.Aa l x n out (i:Int)=some (out++(l.drop i).filter λy=> !(y==x))
 |0,i,out,h1,h2,h3=>by omega
 |n+1,i,out,h1,h2,h3=>by
  unfold Dl.Aa Dl.L1;by_cases hi:i<l.length
  . unfold Dl.J1;rw[BC (by omega),CU hi,AAO,E6 hi,List.filter_cons,Ao (by omega)];by_cases e:l[i]=x
    . have a:(l[i] != x)=false:=(by simp[e]);have b:(!(l[i]==x))=false:=(by simp[e]);rw[a,b,AAX (by simp),AAX (by simp)];exact NU l x c n (i+1) out (by omega) (by omega) (by omega)
    . have a:(l[i] != x)=true:=(by simpa using e);have b:(!(l[i]==x))=true:=(by simpa using e);rw[a,b,AAY rfl,AAY rfl,BL (by omega),NU l x c n (i+1) _ (by omega) (by omega) (by simp;omega)];simp
  . rw[Ac (by omega),GM hi];simp[Dl.J2]
theorem jH (l:List Int) (x:Int) (a:l.length≤1000000000):Dl l x=some (l.filter λy=> !(y==x)):=by have:=NU l x a BT 0 [] (by omega) (by have:=B1;omega) (by simp);rw[AAq]at this;exact this
def Ia (x:AE) (o:Int):Bool:=x.Status==3&&x.D8==o
def Bz (o:Int):Nat->List AE->List Int
 |_,[]=>[]
 |i,x::r=>if Ia x o=true then(i:Int)::Bz o (i+1) r else Bz o (i+1) r
theorem VJ (o:Int) (T:List AE):∀i,(Bz o i T).length≤T.length:=by
 induction T with
 |nil=>intro i;simp[Bz]
 |cons x r ih=>
  intro i
  have:=ih (i+1);unfold Bz;split<;>simp<;>omega
theorem Ie (o:Int) (T:List AE):∀(i:Nat) (u:Int),u∈Bz o i T->(i:Int)≤u/\u<((i+T.length:Nat):Int):=by
 induction T with
 |nil=>intro i u h;simp[Bz]at h
 |cons x r ih=>
  intro i u h;unfold Bz at h;split at h
  . rcases AAp.1 h with rfl|h
    . simp;omega
    . have:=ih (i+1) u h;simp at this ⊢;omega
  . have:=ih (i+1) u h;simp at this ⊢;omega
theorem dA (x:AE) (o:Int):FB x o=some (Ia x o):=by unfold FB FB.J1 Ia;cases(x.Status==3)<;>simp
theorem Mm (s:AN) (o:Int) (a:s.AA.length≤1000):∀(n i:Nat) (l:List Int),i≤s.AA.length->s.AA.length<n+i->l.length≤i->CO.Aa o s n l (i:Int)=some (l++Bz o i (s.AA.drop i))
 |0,i,l,h1,h2,h3=>by omega
 |n+1,i,l,h1,h2,h3=>by
  unfold CO.Aa CO.L1;by_cases hi:i<s.AA.length
  . unfold CO.J1 CO.J2;rw[BC (by omega),CU hi,AAO,E6 hi,Bz,Ao (by omega),BL (by omega)];have b:=Mm s o a n (i+1) (l++[(i:Int)]) (by omega) (by omega) (by simp;omega);have c:=Mm s o a n (i+1) l (by omega) (by omega) (by omega);unfold Ia;rw[b,c];cases(s.AA[i].Status==3)<;>cases(s.AA[i].D8==o)<;>simp
  . rw[Ac (by omega),GM hi];simp[CO.J3,Bz]
theorem Yz (s:AN) (o:Int) (a:s.AA.length≤1000):CO s o=some (Bz o 0 s.AA):=by have:=Mm s o a BT 0 [] (by omega) (by have:=B1;omega) (by simp);rw[AAq]at this;exact this
def LR (wake:Int):Int->List Int->Int
 |c,[]=>c
 |c,w::r=>LR wake (if c<0∨w=wake then w else c) r
theorem aP (wake:Int) (W:List Int) (a:∀w∈W,0≤w):∀c,0≤c->LR wake c W=if W.contains wake=true then wake else c:=by
 induction W with
 |nil=>intro c _;simp[LR]
 |cons w r ih=>
  intro c f;have b:=ih (λw h=>a w (List.mem_cons_of_mem _ h));unfold LR;by_cases e:w=wake
  . rw[AAY (.inr e),b w (a w (ABL ..))];subst e;simp
  . have d:¬wake=w:=λh=>e h.symm;rw[AAX (by simp[e];omega),b c f];simp[d]
def EX (wake:Int) (W:List Int):Int:=if W=[]then -1 else if W.contains wake=true then wake else W.headD 0
theorem fP (wake:Int) (W:List Int) (b:∀w∈W,0≤w):LR wake (-1) W=EX wake W:=by
 cases W with
 |nil=>rfl
 |cons w r=>
  unfold LR EX;rw[AAY (.inl (by omega)),aP wake r (λw h=>b w (List.mem_cons_of_mem _ h)) w (b w (ABL ..)),AAX (c:=w::r=[]) (by simp)];by_cases e:wake=w
  . subst e;have a:(wake::r).contains wake=true:=(by simp);rw[a,AAY rfl];split<;>rfl
  . have a:(w::r).contains wake=r.contains wake:=(by simp[e]);rw[a];rfl
theorem T4 (T:List AE) (o wake:Int) (b:T.length≤1000):∀(n i:Nat) (c:Int),i≤T.length->T.length<n+i->Cm.Aa o T wake n c (i:Int)=Cm.J3 T (LR wake c (Bz o i (T.drop i)))
 |0,i,c,h1,h2=>by omega
 |n+1,i,c,h1,h2=>by
  unfold Cm.Aa Cm.L1;by_cases hi:i<T.length
  . unfold Cm.J1 Cm.J2;rw[BC (by omega),CU hi,AAO,dA,AAO,E6 hi,Bz,Ao (by omega)];have e:=λc=>T4 T o wake b n (i+1) c (by omega) (by omega);simp only[e];cases Ia T[i] o with
    |false=>simp
    |true=>
     simp only[AAs,LR];by_cases a:c<0
     . simp[a]
     . by_cases d:(i:Int)=wake<;>simp[a,d]
  . rw[Ac (by omega),GM hi];rfl
def Hv (x:AE):AE:=⟨4,x.D8,x.Atomic⟩
def IM (o:Int) (x:AE):AE:=if Ia x o=true then Hv x else x
theorem pX (tx:Int) (T:List AE) (o wake:Int) (b:T.length≤1000):Cm tx T o wake=some (EX wake (Bz o 0 T),if Bz o 0 T=[]then T else T.set (EX wake (Bz o 0 T)).toNat (Hv (ix T (EX wake (Bz o 0 T))))):=by
 have h:=T4 T o wake b BT 0 (-1) (by omega) (by have:=B1;omega);rw[AAq,fP _ _ (λw d=>(Ie o T 0 w d).1)]at h;refine Eq.trans h ?_;unfold Cm.J3 Cm.J4;by_cases e:Bz o 0 T=[]
 . rw[e];simp[EX]
 . have c:EX wake (Bz o 0 T)∈Bz o 0 T:=by
    unfold EX;rw[AAX e];split
    . rename_i h;simpa using h
    . cases hW:Bz o 0 T with
      |nil=>exact absurd hW e
      |cons w r=>simp
   have a:=Ie o T 0 _ c;rw[AAX e,BC (by omega),Cd (B9.2 (by simpa using a))];rfl
theorem K6 (T:List AE) (o:Int) (d:T.length≤1000):∀(n i:Nat) (c:Nat),i≤T.length->T.length<n+i->c≤i->
 Cg.Aa o T n ((T.take i).map (IM o)++T.drop i) (c:Int) (i:Int)=some (((c+(Bz o i (T.drop i)).length:Nat):Int),T.map (IM o))
 |0,i,c,h1,h2,_=>by omega
 |n+1,i,c,h1,h2,h3=>by
  unfold Cg.Aa Cg.L1;by_cases hi:i<T.length
  . have a:((T.take i).map (IM o)).length=i:=(by simp;omega);have g:gt ((T.take i).map (IM o)++T.drop i) (i:Int)=some T[i]:=(by rw[LG,AAt (by omega),a,Nat.sub_self,E6 hi];rfl);unfold Cg.J1;rw[BC (by omega),g,AAO,dA,AAO,Ao (i:=i) (by omega),Ao (i:=c) (by omega),ABE];have b:∀y,y=IM o T[i]->(T.take i).map (IM o)++y::T.drop (i+1)=(T.take (i+1)).map (IM o)++T.drop (i+1):=(by rintro y rfl;rw[← AAk hi,AA9];simp);have f:((T.take i).map (IM o)++T.drop i).set i (AE.mk 4 T[i].D8 T[i].Atomic)=(T.take i).map (IM o)++AE.mk 4 T[i].D8 T[i].Atomic::T.drop (i+1):=(by rw[List.set_append_right _ _ (by omega),a,Nat.sub_self,E6 hi];rfl);have e:(T.take i).map (IM o)++T.drop i=(T.take i).map (IM o)++T[i]::T.drop (i+1):=(by rw[← E6 hi]);rw[f,e,E6 hi,Bz];cases hw:Ia T[i] o with
    |true=>rw[AAY rfl,AAY rfl,b _ (by simp[IM,hw,Hv]),K6 T o d n (i+1) (c+1) (by omega) (by omega) (by omega)];congr 3;simp;omega
    |false=>rw[AAX (by simp),AAX (by simp),b _ (by simp[IM,hw]),K6 T o d n (i+1) c (by omega) (by omega) (by omega)]
  . rw[Ac (by omega),GM hi,AA3 (by omega)];simp[Cg.J2,Bz]
theorem ZL (tx:Int) (T:List AE) (o:Int) (a:T.length≤1000):Cg tx T o=some (((Bz o 0 T).length:Int),T.map (IM o)):=by have:=K6 T o a BT 0 0 (by omega) (by have:=B1;omega) (by omega);simp only[List.take_zero,AA2,AAq,ABI,ABS]at this;exact this
structure Tn (s:AN):Prop where
 l:s.AG.length≤1000
 d:s.Bq.length≤1000
 t:s.AA.length≤1000
 r:RB 1000000 s
theorem Vi (s:AN) (b:Tn s):∀(n i:Nat),i≤s.AG.length->s.AG.length<n+i->
 Dz.Aa s n (s.AG.take i++List.replicate (s.AG.length-i) ⟨0,[]⟩) (i:Int)=some s
 |0,i,h1,h2=>by omega
 |n+1,i,h1,h2=>by
  have:=b.l;have:=b.d;have:=b.t;unfold Dz.Aa Dz.L1;by_cases hi:i<s.AG.length
  . have a:(s.AG.take i).length=i:=(by simp;omega);have e:List.replicate (s.AG.length-i) (AW.mk 0 [])=AW.mk 0 []::List.replicate (s.AG.length-(i+1)) (AW.mk 0 []):=(by rw[show s.AG.length-i=(s.AG.length-(i+1))+1 from by omega,List.replicate_succ]);have f:gt (s.AG.take i++List.replicate (s.AG.length-i) (AW.mk 0 [])) (i:Int)=some ⟨0,[]⟩:=(by rw[LG,e,AAt (by omega),a];simp);have c:(s.AG.take i++List.replicate (s.AG.length-i) (AW.mk 0 [])).set i s.AG[i]=s.AG.take (i+1)++List.replicate (s.AG.length-(i+1)) (AW.mk 0 []):=(by rw[e,List.set_append_right _ _ (by omega),a,Nat.sub_self,List.set_cons_zero,← AAk hi,AA6];rfl);have g:=b.r _ (AAi hi);unfold slices_Clone_int;rw[BC (by omega),CU hi,AAO,BL (by omega),AAO,f,AAO,Ao (by omega),ABE];show Dz.Aa s n ((s.AG.take i++List.replicate (s.AG.length-i) (AW.mk 0 [])).set i s.AG[i]) _=_;rw[c];exact Vi s b n (i+1) (by omega) (by omega)
  . rw[Ac (by omega),AA3 (by omega),show s.AG.length-i=0 from by omega];unfold Dz.J1 HA EB;rw[BL (by omega),AAO,BL (by omega),AAO];simp
theorem uX (s:AN) (a:Tn s):Dz s=some s:=by have:=a.l;unfold Dz;rw[AAY ⟨by omega,by omega,DK (by omega)⟩];have h:=Vi s a BT 0 (by omega) (by have:=B1;omega);rw[List.take_zero,ABI]at h;exact h
theorem X7 (s:AN) (a:Tn s) (tx:Int) (D:List Bool) (T:List AE):∀(n i:Nat),i≤s.AG.length->s.AG.length<n+i->
 Fe.Aa s n ⟨s.AG.take i,tx,D,T⟩ (i:Int)=some ⟨s.AG,tx,D,T⟩
 |0,i,h1,h2=>by omega
 |n+1,i,h1,h2=>by
  have:=a.l;unfold Fe.Aa Fe.L1;by_cases hi:i<s.AG.length
  . have b:=a.r _ (AAi hi);rw[BC (by omega),CU hi,AAO,BL (by omega),BL (by simp;omega),Ao (by omega)];simp only[AAk hi];exact X7 s a tx D T n (i+1) (by omega) (by omega)
  . rw[Ac (by omega),AA3 (by omega)];rfl
theorem jQ (s:AN) (a:Tn s):Fe s=some s:=by have:=a.l;have:=a.d;have:=a.t;unfold Fe;rw[BL (by omega),BL (by omega)];exact X7 s a s.Tx s.Bq s.AA BT 0 (by omega) (by have:=B1;omega)
def LB (s:AN) (i:Int) (f:AE->AE):AN:=⟨s.AG,s.Tx,s.Bq,s.AA.set i.toNat (f (ix s.AA i))⟩
def Kc (s:AN) (i:Int) (f:AW->AW):AN:=⟨s.AG.set i.toNat (f (ix s.AG i)),s.Tx,s.Bq,s.AA⟩
def EN (wv:AD) (s:AN) (t k o wake:Int):AN×Int:=
 if k=1 then(LB s t λx=>⟨2,x.D8,x.Atomic⟩,0)
 else if k=2 then(LB s t λx=>⟨5,x.D8,x.Atomic⟩,0)
 else if k=6∨k=10 then(Kc s o λx=>⟨t,x.As⟩,0)
 else if k=7∨k=11 then(Kc s o λx=>⟨-1,x.As⟩,0)
 else if k=8 then(Kc s o λx=>⟨x.CW,UE (x.As++[t])⟩,0)
 else if k=9 then(Kc s o λx=>⟨x.CW,x.As.filter λy=> !(y==t)⟩,0)
 else if k=12 then(⟨s.AG,t,s.Bq,s.AA⟩,0)
 else if k=13 then(⟨s.AG, -1,s.Bq,s.AA⟩,0)
 else if k=14 then(LB s t λx=>⟨x.Status,x.D8,true⟩,0)
 else if k=15 then(LB s t λx=>⟨x.Status,x.D8,false⟩,0)
 else if k=16 then(LB (Kc s (ix wv.Af o).Mutex λx=>⟨-1,x.As⟩) t λx=>⟨3,o,x.Atomic⟩,0)
 else if k=17 then(LB (Kc s (ix wv.Af o).Mutex λx=>⟨t,x.As⟩) t λx=>⟨2,0,x.Atomic⟩,0)
 else if k=18 then(if Bz o 0 s.AA=[]then s else LB s (EX wake (Bz o 0 s.AA)) Hv,EX wake (Bz o 0 s.AA))
 else if k=19 then(⟨s.AG,s.Tx,s.Bq,s.AA.map (IM o)⟩,((Bz o 0 s.AA).length:Int))
 else if k=20 then(LB s o λx=>⟨1,x.D8,x.Atomic⟩,0)
 else if k=22 then(⟨s.AG,s.Tx,s.Bq.set o.toNat true,s.AA⟩,0)
 else(s,0)
def fX:AN:=⟨[],0,[],[]⟩
def Nt (wv:AD) (s:AN) (t k o wake:Int):AN×Int×Bool:=if DC wv s t k o=true then((EN wv s t k o wake).1,(EN wv s t k o wake).2,true)else(fX,0,false)
theorem W4 {l:List AE} {t:Int} (c:Ee t l.length=true) (a:AE):gt (l.set t.toNat a) t=some a:=by
 obtain⟨b,d⟩:=B9.1 c;have:t.toNat<l.length:=by omega
 unfold gt;rw[AAY b,AAS this]
theorem Tn.of {wv:AD} (a:Small wv) {s:AN} (b:G8 wv s=true) (c:RB 1000000 s):Tn s:=by
 obtain⟨d,e,g⟩:=FA b
 have:=a.l;have:=a.f;have:=a.t;exact⟨by omega,by omega,by omega,c⟩
theorem RB.mono {N M:Nat} {s:AN} (h:RB N s) (a:N≤M):RB M s:=λx b=>ABO (h x b) a
theorem Sort_eq (l:List Int) (a:l.length≤1000000000):Lm l=some (QH l):=by unfold Lm;rw[AAY (by omega)];rfl
theorem eE (l:List Int) (a:l.length≤1000000000):slices_Compact l=some (Lib.compact l):=by unfold slices_Compact;rw[AAY (by omega)]
theorem UU (wv:AD) (n:Small wv) (s:AN) (i:RB 1000000 s) (t o wake:Int):∀k,Em wv s t k o wake=some (Nt wv s t k o wake):=by
  intro k;unfold Em Nt;rw[Lb wv n s (i.mono (by omega)),AAO];cases he:DC wv s t k o with
  |false=>rfl
  |true=>
    have b:=he;unfold DC at b;simp only[AAP]at b;obtain⟨g,M,a,e⟩:=b;obtain⟨d,N,p⟩:=FA g;have c:=Tn.of n g i;have q:Ee t s.AA.length=true:=(by rw[p];exact M);have m:gt s.AA t=some (ix s.AA t):=Cd q;have f:=W4 q;have L:=i.ix o;have j:(QH ((ix s.AG o).As++[t])).length≤1000000000:=(by rw[Rw];simp;omega);have J:=pX s.Tx s.AA o wake c.t;have I:=ZL s.Tx s.AA o c.t;rw[uX s c,AAO,AAX (by simp)];clear he;revert a e;revert k;refine kinds ?_ ?_ ?_ ?_ ?_ ?_ ?_ ?_ ?_ ?_ ?_ ?_ ?_ ?_ ?_ ?_ ?_ ?_ ?_ ?_ ?_ ?_ ?_ (λk w x y z B C D E F O P G Q R S v T U V u W H X=> ?_)
    all_goals
      intro a e;unfold EN;simp(decide:=true)only[CF,ABd,or_true,true_or,false_or,AAs,AAe,AAP]at a;simp(decide:=true)only[Em.J1,Em.J2,Em.J3,ABB,AAd,AAs,AAe,ABd,or_true,true_or,false_or,AAW]
    all_goals first
      |done
      | (rw[m,AAO];rfl)
      | (rw[Cd (l:=s.AG) (by rw[d];exact a.1),AAO];rfl)
      | (rw[Cd (l:=s.AG) (by rw[d];exact a.1),AAO,BL (by omega),Sort_eq _ (by simp;omega),AAO,eE _ j,AAO];rfl)
      | (rw[Cd (l:=s.AG) (by rw[d];exact a.1),AAO]
         unfold Ht;have r:(ix s.AG o).As≠[]:=(by intro h;simp(decide:=true)only[Kb,AAs,AAe,ABd,or_true,true_or,false_or,h,List.contains_nil,Bool.and_false,AAW]at e);rw[AAY ⟨r,by omega⟩,AAO];rfl)
      | (rw[Cd (l:=wv.Af) a,AAO,Cd (l:=s.AG) (by rw[d];exact HH g a),AAO,m,AAO,f,AAO];simp only[List.set_set];rfl)
      | (rw[J,AAO];simp only;by_cases K:Bz o 0 s.AA=[]<;>simp only[K,AAs,AAe]<;>rfl)
      | (rw[I,AAO];done)
      | (rw[Cd (l:=s.AA) (by rw[p];exact a),AAO];rfl)
      | (rw[Cd (l:=s.Bq) (by rw[N];exact a),AAO];done)
      |rfl
      | (exfalso;revert a;simp only[w,x,y,z,B,C,D,E,F,O,P,G,Q,R,S,v,T,U,V,u,W,H,X,AAe,or_self,AAW,imp_self];done)
      |skip
theorem setAll (o:Int) (b:List AE):∀(a:List AE),(Bz o a.length b).foldl (λT (u:Int)=>T.set u.toNat (Hv (ix T u))) (a++b)=a++b.map (IM o):=by
 induction b with
 |nil=>intro a;simp[Bz]
 |cons x r ih=>
  intro a;unfold Bz;have d:ix (a++x::r) ((a.length:Nat):Int)=x:=by unfold ix;rw[ABE,AAt (AAy _)];simp
  have c:=λy=>ih (a++[y]);simp only[AA1,AA7,ABR,ABS,AA6,List.singleton_append]at c;cases hw:Ia x o with
  |true=>rw[AAY rfl,List.foldl_cons,d,ABE,List.set_append_right _ _ (AAy _),Nat.sub_self,List.set_cons_zero,c];simp[IM,hw]
  |false=>rw[AAX (by simp),c];simp[IM,hw]
theorem T6 (W:List Int) (a:W.length≤1000000):∀(n i:Nat) (s:AN),i≤W.length->W.length<n+i->(∀u∈W,Ee u s.AA.length=true)->
 Cx.Aa W n s (i:Int)=some (⟨s.AG,s.Tx,s.Bq,(W.drop i).foldl (λT (u:Int)=>T.set u.toNat (Hv (ix T u))) s.AA⟩,(W.length:Int),true)
 |0,i,s,h1,h2,_=>by omega
 |n+1,i,s,h1,h2,h3=>by
  unfold Cx.Aa Cx.L1;by_cases hi:i<W.length
  . rw[BC (by omega),CU hi,AAO,Cd (h3 _ (AAi hi)),AAO,Ao (by omega),T6 W a n (i+1) _ (by omega) (by omega) (by simpa using h3),E6 hi,List.foldl_cons];rfl
  . rw[Ac (by omega),GM hi];rfl
theorem Sd (wv:AD) (y:Small wv) (s:AN) (i:RB 1000000 s) (t o wake:Int):∀k,Cx wv s t k o wake=some (Nt wv s t k o wake):=by
 intro k;unfold Cx Nt;rw[Pd wv y s (i.mono (by omega)),AAO];cases he:DC wv s t k o with
 |false=>rfl
 |true=>
  have b:=he;unfold DC at b;simp only[AAP]at b;obtain⟨h,T,a,m⟩:=b;obtain⟨f,U,z⟩:=FA h;have d:=Tn.of y h i;have B:Ee t s.AA.length=true:=by rw[z];exact T
  have n:gt s.AA t=some (ix s.AA t):=Cd B;have g:=W4 B;have S:=i.ix o;have v:=Yz s o d.t;have Q:=VJ o s.AA 0;have R:=d.t;rw[jQ s d,AAO,AAX (by simp)];clear he;revert a m;revert k;refine kinds ?_ ?_ ?_ ?_ ?_ ?_ ?_ ?_ ?_ ?_ ?_ ?_ ?_ ?_ ?_ ?_ ?_ ?_ ?_ ?_ ?_ ?_ ?_ (λk E F G H I J K L M V W N X Z rP D rQ rR rS C rT O rU=> ?_)
  all_goals
   intro a m;unfold EN;simp(decide:=true)only[CF,ABd,or_true,true_or,false_or,AAs,AAe,AAP]at a;simp(decide:=true)only[Cx.J1,Cx.J2,Cx.J5,ABB,AAd,AAs,AAe,ABd,or_true,true_or,false_or,AAW]
  all_goals first
   |done
   | (rw[n,AAO];rfl)
   | (rw[Cd (l:=s.AG) (by rw[f];exact a.1),AAO];rfl)
   | (rw[Cd (l:=s.AG) (by rw[f];exact a.1),AAO,Z6 _ _ (by simp;omega),AAO];rfl)
   | (rw[Cd (l:=s.AG) (by rw[f];exact a.1),AAO,jH _ _ (by omega),AAO];rfl)
   | (rw[Cd (l:=wv.Af) a,AAO,Cd (l:=s.AG) (by rw[f];exact HH h a),AAO,n,AAO,g,AAO];simp only[List.set_set];rfl)
   | (rw[Cd (l:=s.AA) (by rw[z];exact a),AAO];rfl)
   | (rw[Cd (l:=s.Bq) (by rw[U];exact a),AAO];done)
   |rfl
   | (exfalso;revert a;simp only[E,F,G,H,I,J,K,L,M,V,W,N,X,Z,rP,D,rQ,rR,rS,C,rT,O,rU,AAe,or_self,AAW,imp_self];done)
   |skip
  . -- a notification
    rw[v,AAO];cases hWW:Bz o 0 s.AA with
    |nil=>rfl
    |cons w r=>
     have x:(w::r).length≤1000:=(by rw[← hWW];omega);have e:∀u,u∈w::r->Ee u s.AA.length=true:=λu j=>(by have:=Ie o s.AA 0 u (by rw[hWW];exact j);exact B9.2 (by simpa using this));have P:gt (w::r) 0=some w:=rfl;rw[BC (by simp only[AA7];omega),P,AAO,mE _ _ (by omega),AAO];unfold Cx.J3 Cx.J5 EX;rw[AAX (c:=w::r=[]) (by simp),AAX (c:=w::r=[]) (by simp)];cases hc:(w::r).contains wake with
     |true=>rw[AAY rfl,Cd (e wake (by simpa using hc)),AAO];rfl
     |false=>rw[AAX (by simp),Cd (e w (ABL ..)),AAO];rfl
  . -- of all
    have e:∀u,u∈Bz o 0 s.AA->Ee u s.AA.length=true:=λu j=>(by have:=Ie o s.AA 0 u j;exact B9.2 (by simpa using this));have p:=T6 (Bz o 0 s.AA) (by omega) BT 0 s (by omega) (by have:=B1;omega) e;have q:=setAll o s.AA [];simp only[ABR,ABI]at q;rw[AAq,q]at p;rw[v,AAO];exact p
instance:Inhabited AN:=⟨fX⟩
def OC:AB:=⟨fX,[],[],[]⟩
def S7 (ev:AH):Prop:=ev.D9.length<4611686018427387904/\ev.Db.length<4611686018427387904
def ND (wv:AD) (ev:AH):Bool:=if ev.Kind=1∨ev.Kind=2 then ev.Site== -1 else Ee ev.Site wv.A7.length&&(ix wv.A7 ev.Site).Thread==ev.Thread
def Gb (c:Int):Int->List Int->Bool
 |_,[]=>true
 |last,x::r=>decide (last<x)&&(decide (x<c)&&Gb c x r)
def RT (wv:AD) (ev:AH):Bool:=if ev.Kind=3∨ev.Kind=4 then(ix wv.Cells ev.Obj).B0 != 0 else false
def FN (wv:AD) (s:AB) (ev:AH):Bool:=
 ((ev.D9.isEmpty||(ev.Kind==5||RT wv ev))&&Gb (ix s.Count ev.Thread) 0 ev.D9)&&((ev.Db.isEmpty||(ev.Kind==4||ev.Kind==22))&&Gb (ix s.Count ev.Thread) 0 ev.Db)
def JE (s:AB) (ev:AH):Bool:=
 if ev.Kind=3 then ev.Value==ix s.Cells ev.Obj
 else if ev.Kind=23 then ev.Value==ix s.AK ev.Obj
 else if ev.Kind=5 then ev.Value==0||ev.Value==1
 else if ev.Kind=4∨ev.Kind=22 then true
 else if ev.Kind=18 then(Bz ev.Obj 0 s.Sync.AA).contains ev.Value||((Bz ev.Obj 0 s.Sync.AA).isEmpty&&ev.Value== -1)
 else if ev.Kind=19 then ev.Value==((Bz ev.Obj 0 s.Sync.AA).length:Int)
 else ev.Value==0
theorem p7 (wv:AD) (ev:AH):Cp wv ev=some (ND wv ev):=by
 unfold Cp Cp.J1 ND;by_cases d:ev.Kind=1
 . simp[d]
 . by_cases e:ev.Kind=2
   . simp[e]
   . have f:(ev.Kind==1)=false:=(by simpa using d);have g:(ev.Kind==2)=false:=(by simpa using e);rw[f,g,AAX (c:=ev.Kind=1∨ev.Kind=2) (by simp[d,e])];simp only[AAW,AAe];unfold Cp.J2;by_cases a:ev.Site≥0
     . by_cases b:ev.Site<(wv.A7.length:Int)
       . have hi:Ee ev.Site wv.A7.length=true:=B9.2 ⟨a,b⟩;rw[BC a,BC b,Cd hi,AAO,hi];rfl
       . have:Ee ev.Site wv.A7.length=false:=(by simp[Ee];omega);rw[BC a,Ac b,this];rfl
     . have:Ee ev.Site wv.A7.length=false:=(by simp[Ee];omega);rw[Ac a,this];rfl
theorem dec.L2 (L1:Int->ABp Bool) (ev:AH) (l:List Int) (s:AB) (t:Int) (e:gt s.Count ev.Thread=some (ix s.Count ev.Thread)) (f:l.length<4611686018427387904):∀(n i:Nat) (a:Int),i≤l.length->l.length<n+i->
 AX.C2 L1 ev l s t n a (i:Int)=if Gb (ix s.Count ev.Thread) a (l.drop i)=true then AX.J6 L1 t else some false
 |0,i,a,h1,h2=>by omega
 |n+1,i,a,h1,h2=>by
  unfold AX.C2 AX.L2;by_cases hi:i<l.length
  . unfold AX.J5;rw[BC (by omega),CU hi,AAO,e,E6 hi,Ao (by omega),dec.L2 L1 ev l s t e f n (i+1) _ (by omega) (by omega)];generalize l[i]=x;rw[Gb];by_cases b:x≤a
    . have:¬a<x:=(by omega);simp[b,this]
    . have d:a<x:=(by omega);by_cases c:x≥ix s.Count ev.Thread
      . have:¬x<ix s.Count ev.Thread:=(by omega);simp[b,d,c,this]
      . have:x<ix s.Count ev.Thread:=(by omega);simp[b,d,c,this]
  . rw[Ac (by omega),GM hi];simp[Gb]
theorem aJ:BT=(BT-3)+3:=rfl
theorem det.J4 (L1:Int->ABp Bool) (ev:AH) (l:List Int) (s:AB) (t:Int) (a:gt s.Count ev.Thread=some (ix s.Count ev.Thread)) (c:l.length<4611686018427387904) (b:Bool):
 AX.J4 L1 ev l s t b=if(!b&&Gb (ix s.Count ev.Thread) 0 l)=true then AX.J6 L1 t else some false:=by
 unfold AX.J4;cases b with
 |true=>simp
 |false=>have:=dec.L2 L1 ev l s t a c BT 0 0 (by omega) (by have:=B1;omega);rw[AAq]at this;simpa using this
theorem det.J2 (wv:AD) (s:AB) (ev:AH) (g:S7 ev) (e:gt s.Count ev.Thread=some (ix s.Count ev.Thread)) (a b:Bool):
 AX.J2 ev s a b=some (((ev.D9.isEmpty||a)&&Gb (ix s.Count ev.Thread) 0 ev.D9)&&((ev.Db.isEmpty||b)&&Gb (ix s.Count ev.Thread) 0 ev.Db)):=by
 unfold AX.J2;rw[aJ];generalize BT-3=m;have j:AX.Aa a b ev s (m+1) 2=some true:=by unfold AX.Aa AX.L1;rfl
 have d:∀(L1:Int->ABp Bool) (t:Int) (l:List Int) (c:Bool),l.length<4611686018427387904->(t=0/\c=a∨t=1/\c=b)->AX.J3 L1 a b ev s t l=if((l.isEmpty||c)&&Gb (ix s.Count ev.Thread) 0 l)=true then AX.J6 L1 t else some false:=by
  intro L1 t l c f h;unfold AX.J3;rw[det.J4 _ _ _ _ _ e f,det.J4 _ _ _ _ _ e f,det.J4 _ _ _ _ _ e f];cases l with
  |nil=>simp
  |cons x r=>rw[BC (by simp only[AA7];omega)];rcases h with⟨rfl,rfl⟩|⟨rfl,rfl⟩<;>simp
 have i:AX.Aa a b ev s (m+2) 1=some ((ev.Db.isEmpty||b)&&Gb (ix s.Count ev.Thread) 0 ev.Db):=by unfold AX.Aa AX.L1;rw[BC (by decide),AAX (by decide),AAY (by decide),d _ 1 ev.Db b g.2 (.inr ⟨rfl,rfl⟩)];unfold AX.J6;rw[show Ap (1+1)=2 from rfl,j];cases((ev.Db.isEmpty||b)&&Gb (ix s.Count ev.Thread) 0 ev.Db)<;>rfl
 unfold AX.Aa AX.L1;rw[BC (by decide),AAY (by decide),d _ 0 ev.D9 a g.1 (.inl ⟨rfl,rfl⟩)];unfold AX.J6;rw[show Ap (0+1)=1 from rfl,i];cases((ev.D9.isEmpty||a)&&Gb (ix s.Count ev.Thread) 0 ev.D9)<;>simp
theorem Xf (wv:AD) (s:AB) (ev:AH) (f:S7 ev) (d:gt s.Count ev.Thread=some (ix s.Count ev.Thread)) (g:ev.Kind=3∨ev.Kind=4->Ee ev.Obj wv.Cells.length=true):AX wv s ev=some (FN wv s ev):=by
 have b:∀e,e=RT wv ev->AX.J1 ev s e=some (FN wv s ev):=by
  intro e h;unfold AX.J1 FN;rw[det.J2 wv s ev f d,det.J2 wv s ev f d,det.J2 wv s ev f d,det.J2 wv s ev f d,h];by_cases i:ev.Kind=5
  . simp[i]
  . by_cases a:ev.Kind=4
    . simp[a]
    . have k:(ev.Kind==5)=false:=(by simpa using i);have j:(ev.Kind==4)=false:=(by simpa using a);simp[k,j]
 unfold AX;by_cases c:ev.Kind=3
 . rw[AAY (by simp[c]),Cd (g (.inl c)),AAO];exact b _ (by simp[RT,c])
 . rw[AAX (by simpa using c)];by_cases a:ev.Kind=4
   . rw[AAY (by simp[a]),Cd (g (.inr a)),AAO];exact b _ (by simp[RT,a])
   . rw[AAX (by simpa using a)];exact b _ (by simp[RT,c,a])
theorem XE.L1 (ev:AH) (s:AB) (f:s.Sync.AA.length≤1000):∀(n i w:Nat) (b:Bool),i≤s.Sync.AA.length->s.Sync.AA.length<n+i->w≤i->
 Au.Aa ev s n (w:Int) b (i:Int)=some ((b||(Bz ev.Obj i (s.Sync.AA.drop i)).contains ev.Value)||((w+(Bz ev.Obj i (s.Sync.AA.drop i)).length==0)&&ev.Value== -1))
 |0,i,w,b,h1,h2,h3=>by omega
 |n+1,i,w,b,h1,h2,h3=>by
  unfold Au.Aa Au.L1;by_cases hi:i<s.Sync.AA.length
  . unfold Au.J3 Au.J4;rw[BC (by omega),CU hi,AAO,E6 hi,Bz,Ao (i:=i) (by omega),Ao (i:=w) (by omega)];have a:=λ(w':Nat) b' h=>XE.L1 ev s f n (i+1) w' b' (by omega) (by omega) h;rw[a (w+1) true (by omega),a (w+1) (ev.Value==(i:Int)) (by omega),a w b (by omega)];unfold Ia;have c:∀m:Nat,(w+1+m==0)=false:=λm=>(by simp);have d:∀m:Nat,(w+(m+1)==0)=false:=λm=>(by simp);have e:(ev.Value==(i:Int))=decide (ev.Value=(i:Int)):=rfl;cases(s.Sync.AA[i].Status==3)<;>cases(s.Sync.AA[i].D8==ev.Obj)<;>cases b<;>simp[c,d,e]
  . rw[Ac (by omega),GM hi];unfold Au.J5 Au.J6;have:((w:Int)==0)=(w==0):=(by rw[Bool.eq_iff_iff,AAd,AAd];omega);rw[this];simp only[Bz,List.contains_nil,ABR,Nat.add_zero,Bool.or_false];cases b<;>cases(w==0)<;>simp
theorem XE.L2 (ev:AH) (s:AB) (c:s.Sync.AA.length≤1000):∀(n i w:Nat),i≤s.Sync.AA.length->s.Sync.AA.length<n+i->w≤i->
 Au.C2 ev s n (w:Int) (i:Int)=some (ev.Value==((w+(Bz ev.Obj i (s.Sync.AA.drop i)).length:Nat):Int))
 |0,i,w,h1,h2,h3=>by omega
 |n+1,i,w,h1,h2,h3=>by
  unfold Au.C2 Au.L2;by_cases hi:i<s.Sync.AA.length
  . unfold Au.J7 Au.J8;rw[BC (by omega),CU hi,AAO,E6 hi,Bz,Ao (i:=i) (by omega),Ao (i:=w) (by omega)];have a:=λ(w':Nat) h=>XE.L2 ev s c n (i+1) w' (by omega) (by omega) h;rw[a (w+1) (by omega),a w (by omega)];unfold Ia;have b:∀m:Nat,w+1+m=w+(m+1):=λm=>(by omega);cases(s.Sync.AA[i].Status==3)<;>cases(s.Sync.AA[i].D8==ev.Obj)<;>simp[b]
  . rw[Ac (by omega),GM hi];simp[Au.J9,Bz]
theorem bN {a:Type} (l:List a):(0+l.length==0)=l.isEmpty:=by cases l<;>simp
theorem qT (s:AB) (ev:AH) (k:s.Sync.AA.length≤1000) (l:ev.Kind=3->Ee ev.Obj s.Cells.length=true) (o:ev.Kind=23->Ee ev.Obj s.AK.length=true):Au s ev=some (JE s ev):=by
 have h:=XE.L1 ev s k BT 0 0 false (by omega) (by have:=B1;omega) (by omega);have i:=XE.L2 ev s k BT 0 0 (by omega) (by have:=B1;omega) (by omega);rw[AAq,bN]at h;rw[AAq,ABS]at i;simp only[Int.natCast_zero,Bool.false_or]at h i;unfold Au Au.J1 Au.J2 Au.Th JE;by_cases a:ev.Kind=3
 . rw[AAY (by simp[a]),Cd (l a),AAO,AAY a]
 . rw[AAX (by simpa using a),AAX a];by_cases b:ev.Kind=23
   . rw[AAY (by simp[b]),Cd (o b),AAO,AAY b]
   . rw[AAX (by simpa using b),AAX b];by_cases f:ev.Kind=5
     . rw[AAY (by simp[f]),AAY f];cases(ev.Value==0)<;>rfl
     . rw[AAX (by simpa using f),AAX f];by_cases j:ev.Kind=4
       . simp[j]
       . have m:(ev.Kind==4)=false:=(by simpa using j);rw[m,AAX (by simp)];by_cases g:ev.Kind=22
         . simp[g]
         . have n:(ev.Kind==22)=false:=(by simpa using g);rw[n,AAX (c:=ev.Kind=4∨ev.Kind=22) (by simp[j,g])];simp only[AAW,AAe];by_cases d:ev.Kind=18
           . rw[AAY (by simp[d]),AAY d];exact h
           . rw[AAX (by simpa using d),AAX d];by_cases e:ev.Kind=19
             . rw[AAY (by simp[e]),AAY e];exact i
             . rw[AAX (by simpa using e),AAX e]
def GL (wv:AD) (s:AB) (ev:AH):AB:=
  ⟨(EN wv s.Sync ev.Thread ev.Kind ev.Obj (if ev.Kind=18 then ev.Value else -1)).1,
   if ev.Kind=4 then s.Cells.set ev.Obj.toNat ev.Value else s.Cells,
   if ev.Kind=22 then s.AK.set ev.Obj.toNat ev.Value else s.AK,
   s.Count.set ev.Thread.toNat (Ap (ix s.Count ev.Thread+1))⟩
def Kf (wv:AD) (s:AB) (ev:AH):Bool:=
 MJ wv s&&(Ee ev.Thread wv.AA.length&&(DC wv s.Sync ev.Thread ev.Kind ev.Obj&&(ND wv ev&&(FN wv s ev&&JE s ev))))
def XV (wv:AD) (s:AB) (ev:AH):AB×Bool:=if Kf wv s ev=true then(GL wv s ev,true)else(OC,false)
theorem Nn {wv:AD} {s:AB} (h:MJ wv s=true):G8 wv s.Sync=true/\s.Cells.length=wv.Cells.length/\s.AK.length=wv.AK.length/\s.Count.length=wv.AA.length:=by unfold MJ at h;simpa only[AAP,AAd]using h
theorem Uz {wv:AD} {k o:Int} (h:CF wv k o=true):1≤k/\k≤23:=by
 unfold CF at h
 repeat' split at h
 all_goals first|omega|cases h
theorem qZ (wv:AD) (a:Small wv) (s:AB) (r:RB 1000000 s.Sync) (ev:AH) (C:S7 ev):BQ wv s ev=some (XV wv s ev):=by
 have m:∀b,b=true->BQ.J1 ev s wv b=some (OC,false):=by rintro b rfl;rfl
 have y:∀b,b=true->BQ.J2 ev s wv b=some (OC,false):=by rintro b rfl;rfl
 unfold BQ XV Kf;rw[PD wv a,AAO];cases hf:MJ wv s with
 |false=>rfl
 |true=>
  rw[AAX (c:=(!true)=true) (by simp),AA0];cases ht:Ee ev.Thread wv.AA.length with
  |false=>
   rw[Bool.false_and,AAX (c:=false=true) (by simp)];by_cases d:ev.Thread<0
   . rw[BC d,m _ rfl]
   . rw[Ac d];by_cases g:ev.Thread≥(wv.AA.length:Int)
     . rw[BC g,m _ rfl]
     . exfalso
       have:=B9.2 ⟨Int.not_lt.1 d,Int.not_le.1 g⟩;rw[ht]at this;cases this
  |true=>
   obtain⟨G,H⟩:=B9.1 ht;rw[Ac (by omega),Ac (by omega),AA0];obtain⟨q,v,w,B⟩:=Nn hf;have D:=a.c;have E:=a.f;have F:=a.t;have p:=Tn.of a q r;have i:=Lb wv a s.Sync (r.mono (by omega)) ev.Thread ev.Obj ev.Kind;cases XI:DC wv s.Sync ev.Thread ev.Kind ev.Obj with
   |false=>
    rw[Bool.false_and,AAX (c:=false=true) (by simp)];by_cases d:ev.Kind<1
    . rw[BC d,m _ rfl]
    . rw[Ac d];unfold BQ.J1;by_cases g:ev.Kind>23
      . rw[AAY (by simpa using g)];rfl
      . rw[AAX (by simpa using g),i,XI];rfl
   |true=>
    have u:=XI;unfold DC at u;simp only[AAP]at u;obtain⟨_,_,o,_⟩:=u;obtain⟨I,J⟩:=Uz o;have x:gt s.Count ev.Thread=some (ix s.Count ev.Thread):=Cd (by rw[B];exact ht);have n:ev.Kind=3∨ev.Kind=4->Ee ev.Obj wv.Cells.length=true:=(by rintro(h|h)<;>simpa(decide:=true) [CF,h]using o);have z:ev.Kind=22∨ev.Kind=23->Ee ev.Obj wv.AK.length=true:=(by rintro(h|h)<;>simpa(decide:=true) [CF,h]using o);rw[Ac (by omega)];unfold BQ.J1;rw[AAX (by simp;omega),i,XI,AAO,AAX (c:=(!true)=true) (by simp),p7,AAO,AA0];cases hp:ND wv ev with
    |false=>rfl
    |true=>
     rw[AAX (c:=(!true)=true) (by simp),Xf wv s ev C x n,AAO,AA0];cases hd:FN wv s ev with
     |false=>rfl
     |true=>
      rw[AAX (c:=(!true)=true) (by simp),qT s ev p.t (λh=>by rw[v];exact n (.inl h)) (λh=>by rw[w];exact z (.inr h)),AAO,AA0];cases hv:JE s ev with
      |false=>rfl
      |true=>
       rw[AAY rfl];unfold BQ.J2;have j:∀wake,wake=(if ev.Kind=18 then ev.Value else -1)->BQ.J3 ev s wv wake=some (GL wv s ev,true):=by
        rintro wake rfl;unfold BQ.J3;rw[UU wv a s.Sync r,AAO];unfold Nt;rw[XI,AAY rfl,AAX (by simp)];unfold Eo slices_Clone_int;rw[BL (by omega),AAO,BL (by omega),AAO,BL (by omega),AAO];unfold BQ.J4 GL;simp only[x,AAO];by_cases k:ev.Kind=4
        . rw[AAY (by simp[k]),Cd (by rw[v];exact n (.inr k)),AAO];simp[k]
        . rw[AAX (by simpa using k)];by_cases e:ev.Kind=22
          . rw[AAY (by simp[e]),Cd (by rw[w];exact z (.inl e)),AAO];simp[e]
          . rw[AAX (by simpa using e)];simp[k,e]
       rw[AAX (by simp)];by_cases l:ev.Kind=18
       . rw[AAY (by simp[l])];exact j _ (by rw[AAY l])
       . rw[AAX (by simpa using l)];exact j _ (by rw[AAX l])
theorem RB.Kc {N M:Nat} {s:AN} (h:RB N s) (b:N≤M) (i:Int) (f:AW->AW) (c:(f (Abs.ix s.AG i)).As.length≤M):RB M (Abs.Kc s i f):=by
 intro x a;rcases AAv a with a|rfl
 . exact ABO (h x a) b
 . exact c
theorem RB.apply {N:Nat} {s:AN} (h:RB N s) (wv:AD) (t k o wake:Int):RB (N+1) (EN wv s t k o wake).1:=by
 have c:RB (N+1) s:=h.mono (by omega);have hi:=λi=>Nat.le_succ_of_le (h.ix i);have key:∀(p:Prop) [Decidable p] (a b:AN×Int),RB (N+1) a.1->RB (N+1) b.1->RB (N+1) (if p then a else b).1:=by intro p _ a b e f;split<;>assumption
 unfold EN
 repeat' refine key _ _ _ ?_ ?_
 all_goals first
  |exact c
  |exact h.Kc (by omega) _ _ (hi _)
  | (refine h.Kc (by omega) _ _ ?_;have:=ZZ ((Abs.ix s.AG o).As++[t]);have:=h.ix o;simp at *;omega)
  | (refine h.Kc (by omega) _ _ (ABO (List.length_filter_le _ _) (hi _)))
  |exact h.Kc (by omega) (Abs.ix wv.Af o).Mutex (λx=>⟨-1,x.As⟩) (hi _)
  |exact h.Kc (by omega) (Abs.ix wv.Af o).Mutex (λx=>⟨t,x.As⟩) (hi _)
  | (by_cases d:Bz o 0 s.AA=[]<;>simp only[d,AAs,AAe]<;>exact c)
theorem RB.start (wv:AD):RB 0 (Mj wv):=by
 intro x a
 have:=List.eq_of_mem_replicate a;subst this;simp
def rF (e:AH):Bool:=e.Kind==3||e.Kind==23
def OB (l:List AH) (t:Int):List Bool:=(l.filter λe=>e.Thread==t).map rF
def NV (reads:List Bool) (k:Int):Bool:=Ee k reads.length&&ix reads k
def RG (pre:List AH) (ev:AH):Bool:=ev.D9.all (NV (OB pre ev.Thread))&&ev.Db.all (NV (OB pre ev.Thread))
theorem q9.L2 (L1:Int->ABp Bool) (l:List Int) (reads:List Bool) (t:Int) (c:l.length<4611686018427387904):∀(n i:Nat),i≤l.length->l.length<n+i->Ay.C2 L1 l reads t n (i:Int)=if(l.drop i).all (NV reads)=true then Ay.J3 L1 t else some false
 |0,i,h1,h2=>by omega
 |n+1,i,h1,h2=>by
  unfold Ay.C2 Ay.L2;by_cases hi:i<l.length
  . unfold Ay.J2;rw[BC (by omega),CU hi,AAO,E6 hi,Ao (by omega),q9.L2 L1 l reads t c n (i+1) (by omega) (by omega),ABF];generalize l[i]=x;generalize (l.drop (i+1)).all (NV reads)=q;unfold NV;by_cases a:x<0
    . have:Ee x reads.length=false:=(by simp[Ee];omega);simp[a,this]
    . by_cases b:x≥(reads.length:Int)
      . have:Ee x reads.length=false:=(by simp[Ee];omega);simp[a,b,this]
      . have h:Ee x reads.length=true:=(by simp[Ee];omega);rw[Ac a,Ac b,Cd h,AAO,h];cases ix reads x<;>simp
  . rw[Ac (by omega),GM hi];simp
theorem rA (reads:List Bool) (ev:AH) (b:S7 ev):Ay reads ev=some (ev.D9.all (NV reads)&&ev.Db.all (NV reads)):=by
 unfold Ay;have f:=B1;have a:∀L1 t l,l.length<4611686018427387904->Ay.J1 L1 reads t l=if l.all (NV reads)=true then Ay.J3 L1 t else some false:=by
  intro L1 t l c
  have:=q9.L2 L1 l reads t c BT 0 (by omega) (by omega);rw[AAq]at this;exact this
 rw[aJ];generalize BT-3=m;have e:Ay.Aa ev reads (m+1) 2=some true:=by unfold Ay.Aa Ay.L1;rfl
 have d:Ay.Aa ev reads (m+2) 1=some (ev.Db.all (NV reads)):=by unfold Ay.Aa Ay.L1;rw[BC (by decide),AAX (by decide),AAY (by decide),a _ _ _ b.2];unfold Ay.J3;rw[show Ap (1+1)=2 from rfl,e];cases ev.Db.all (NV reads)<;>rfl
 unfold Ay.Aa Ay.L1;rw[BC (by decide),AAY (by decide),a _ _ _ b.1];unfold Ay.J3;rw[show Ap (0+1)=1 from rfl,d];cases ev.D9.all (NV reads)<;>simp
def Yv (x t:Int):Int->List AH->Bool
 |_,[]=>false
 |nv,e::r=>if e.Thread=t then(nv==x&&rF e)||Yv x t (nv+1) r else Yv x t nv r
theorem reads.L2 (L1:Int->ABp Bool) (i:Nat) (k:Int) (l:List AH) (a:List Int) (t x:Int) (hi:i≤l.length) (hi':i≤1000000) (f:gt a k=some x):∀(n j b:Nat) (ok:Bool),j≤i->i<n+j->b≤j->
 Dq.C2 L1 (i:Int) k l a t n (b:Int) ok (j:Int)=Dq.J3 L1 k (ok||Yv x t b ((l.take i).drop j))
 |0,j,b,ok,h1,h2,h3=>by omega
 |n+1,j,b,ok,h1,h2,h3=>by
  unfold Dq.C2 Dq.L2;by_cases o:j<i
  . have m:j<(l.take i).length:=(by simp;omega);have g:=λ(d:Nat) ok' h=>reads.L2 L1 i k l a t x hi hi' f n (j+1) d ok' (by omega) (by omega) h;unfold Dq.J1 Dq.J2;rw[BC (by omega),CU (by omega),AAO,E6 m,Ao (i:=j) (by omega),Ao (i:=b) (by omega),f,AAO,Yv];simp only[List.getElem_take,g (b+1) _ (by omega),g b _ (by omega),show((b:Int)+1)=((b+1:Nat):Int)from rfl];unfold rF;by_cases c:l[j].Thread=t
    . have e:(l[j].Thread != t)=false:=(by simp[c]);rw[e,AAY c];cases ok<;>cases(((b:Int)==x))<;>cases(l[j].Kind==3)<;>simp
    . have e:(l[j].Thread != t)=true:=(by simpa using c);rw[e,AAX c];rfl
  . rw[Ac (by omega),List.drop_eq_nil_of_le (by simp;omega)];simp[Yv]
def Hg (wv:AD):List AH->AB->List AH->Int×Int
 |_,_,[]=>(0,0)
 |pre,s,x::r=>if(Kf wv s x&&RG pre x)=true then Hg wv (pre++[x]) (GL wv s x) r else((pre.length:Int),12)
def Io (t:Az):Int×Int:=if t.AF.length>400 then(0,2)else if Ck t.World=true then Hg t.World [] (Gg t.World) t.AF else(0,1)
theorem Pc {wv:AD} {s:AB} {x:AH} (h:Kf wv s x=true):Ee x.Thread wv.AA.length=true:=by unfold Kf at h;simp only[AAP]at h;exact h.2.1
theorem NF (l:List AH) (x:AH) (t:Int):OB (l++[x]) t=if x.Thread=t then OB l t++[rF x]else OB l t:=by unfold OB;rw[List.filter_append,AA9];by_cases h:x.Thread=t<;>simp[h]
theorem Ly (l:List AH) (t:Int):(OB l t).length≤l.length:=by unfold OB;rw[AAo];exact List.length_filter_le _ _
theorem Zx (t:Az) (l:Small t.World) (g:∀e∈t.AF,S7 e) (p:t.AF.length≤400):∀(n i:Nat) (s:AB) (R:List (List Bool)),i≤t.AF.length->t.AF.length<n+i->RB i s.Sync->R.length=t.World.AA.length->(∀u:Nat,u<R.length->R[u]? =some (OB (t.AF.take i) (u:Int)))->
 CE.Aa t n s R (i:Int)=some (Hg t.World (t.AF.take i) s (t.AF.drop i))
 |0,i,s,R,h1,h2,_,_,_=>by omega
 |n+1,i,s,R,h1,h2,h3,h4,h5=>by
  unfold CE.Aa CE.L1;by_cases hi:i<t.AF.length
  . have j:=g _ (AAi hi);rw[BC (by omega),CU hi,AAO,qZ t.World l s (h3.mono (by omega)) _ j,AAO,E6 hi,Hg,List.length_take_of_le (by omega)];unfold XV;cases hp:Kf t.World s t.AF[i]with
    |false=>rfl
    |true=>
     rw[AAY rfl,AAX (c:=(!true)=true) (by simp),AA0];have q:=Pc hp;obtain⟨m,w⟩:=B9.1 q;have r:t.AF[i].Thread.toNat<R.length:=(by omega);have h:gt R t.AF[i].Thread=some (OB (t.AF.take i) t.AF[i].Thread):=(by unfold gt;rw[AAY m,h5 _ r];congr 2;omega);have o:=Ly (t.AF.take i) t.AF[i].Thread;rw[List.length_take_of_le (by omega)]at o;rw[h,AAO,rA _ _ j,AAO];unfold CE.J1;show(if(!(RG (t.AF.take i) t.AF[i]))=true then _ else _)=_
     cases RG (t.AF.take i) t.AF[i]with
     |false=>rfl
     |true=>
      rw[AAX (c:=(!true)=true) (by simp),AAY rfl,h,AAO,BL (by omega),BL (by omega)];unfold CE.J2;have k:∀b,b=rF t.AF[i]->CE.Aa t n (GL t.World s t.AF[i]) (R.set t.AF[i].Thread.toNat (OB (t.AF.take i) t.AF[i].Thread++[b])) (Ap ((i:Int)+1))=some (Hg t.World (t.AF.take i++[t.AF[i]]) (GL t.World s t.AF[i]) (t.AF.drop (i+1))):=by
       rintro b rfl;rw[Ao (by omega),AAk hi];refine Zx t l g p n (i+1) _ _ (by omega) (by omega) ?_ (by simpa using h4) ?_
       . exact h3.apply _ _ _ _ _
       . intro u v;rw[← AAk hi,NF];have a:u<R.length:=(by simpa using v);by_cases d:t.AF[i].Thread=(u:Int)
         . have:t.AF[i].Thread.toNat=u:=(by omega);rw[AAY d,this,AAS a,d]
         . have:t.AF[i].Thread.toNat≠u:=(by omega);rw[AAX d,AAV this,h5 u a]
      by_cases f:t.AF[i].Kind=3
      . rw[AAY (by simp[f])];exact k _ (by simp[rF,f])
      . rw[AAX (by simpa using f)];exact k _ (by simp[rF,show(t.AF[i].Kind==3)=false by simpa using f])
  . rw[Ac (by omega),GM hi];rfl
theorem Check_eq (t:Az) (f:∀e∈t.AF,S7 e):CE t=some (Io t):=by
 unfold CE Io;by_cases b:t.AF.length>400
 . rw[BC (by omega),AAY b]
 . rw[Ac (by omega),AAX b,Xa,AAO];cases hv:Ck t.World with
   |false=>rfl
   |true=>
    have a:=EC hv;have g:=a.t;rw[AAX (c:=(!true)=true) (by simp),MN _ a,AAO,AAY ⟨by omega,by omega,DK (by omega)⟩,AAY rfl]
    have:=Zx t a f (by omega) BT 0 (Gg t.World) (List.replicate t.World.AA.length []) (by omega) (by have:=B1;omega) (RB.start _) (by simp) (by intro u d;simp at d;simp[d,OB]);rw[List.take_zero,AAq]at this;exact this
end Go.Abs
