/- What the typed programs give, in plain Lean. -/
import Derived.Test.YtdadohkcmclilaaGreatDoorWalkR
import Derived.Lib.SlicesCompact
import Derived.Shelf.Slices.SearchI
set_option linter.unusedSimpArgs false
set_option linter.unusedVariables false
namespace Go.Abs
theorem CC {n:Int} (h: -9223372036854775808≤n) (a:n<9223372036854775808):Aq n=n:=by simp only[Aq,IntKind.wrap,IntKind.bits,IntKind.signed];simp;omega
theorem Ai {i:Nat} (h:i<9223372036854775807):Aq ((i:Int)+1)=((i+1:Nat):Int):=by rw[CC (by omega) (by omega)];rfl
theorem JJ {a:Type} (l:List a) (i:Nat):gt l (i:Int)=l[i]? :=by simp[gt]
theorem B8 {a:Type} {l:List a} {i:Nat} (h:i<l.length):gt l (i:Int)=some l[i]:=by rw[JJ];simp[h]
def ED (i:Int) (n:Nat):Bool:=decide (0≤i)&&decide (i<(n:Int))
def ix {α:Type} [Inhabited α] (l:List α) (i:Int):α:=(l[i.toNat]?).getD default
theorem Bh {i:Int} {n:Nat}:ED i n=true↔0≤i/\i<n:=by simp[ED]
theorem Cd {a:Type} [Inhabited a] {l:List a} {i:Int} (h:ED i l.length=true):gt l i=some (ix l i):=by
 obtain⟨b,c⟩:=Bh.1 h;have:i.toNat<l.length:=by omega
 simp[gt,ix,b,this]
theorem Oo {a:Type} [Inhabited a] {l:List a} {i:Nat} (h:i<l.length):ix l (i:Int)=l[i]:=by simp[ix,h]
theorem B9 {n b:Nat} (h:n*b≤70368744177664):Ap n b=true:=by simp[Ap,h]
theorem BO {a:Type} {n b:Nat} {x y:a} (h:n*b≤70368744177664):(if Ap n b=true then x else y)=x:=AAP (B9 h)
theorem A2 {a:Type} {p:Prop} [Decidable p] {x y:a} (h:p):(if decide p=true then x else y)=x:=by rw[AAP (by simpa using h)]
theorem Ad {a:Type} {p:Prop} [Decidable p] {x y:a} (h:¬p):(if decide p=true then x else y)=y:=by rw[AAO (by simpa using h)]
theorem Ej {a:Type} {l:List a} {i:Nat} (h:i<l.length):l.drop i=l[i]::l.drop (i+1):=ABD h
theorem Fe {a:Type} {l:List a} {i:Nat} (h:¬i<l.length):l.drop i=[]:=List.drop_eq_nil_of_le (by omega)
theorem Bn:Bg=18446744073709551616:=rfl
theorem kinds {P:Int->Prop} (N:P 1) (O:P 2) (Q:P 3) (R:P 4) (S:P 5) (T:P 6) (U:P 7) (V:P 8) (W:P 9) (a:P 10) (b:P 11) (c:P 12) (d:P 13) (e:P 14) (f:P 15) (g:P 16) (h:P 17) (i:P 18) (j:P 19) (l:P 20) (m:P 21) (n:P 22) (o:P 23)
 (X:∀k,k≠1->k≠2->k≠3->k≠4->k≠5->k≠6->k≠7->k≠8->k≠9->k≠10->k≠11->k≠12->k≠13->k≠14->k≠15->k≠16->k≠17->k≠18->k≠19->k≠20->k≠21->k≠22->k≠23->P k) (k:Int):P k:=by
 by_cases q:k=1;· exact q▸N
 by_cases r:k=2;· exact r▸O
 by_cases s:k=3;· exact s▸Q
 by_cases t:k=4;· exact t▸R
 by_cases u:k=5;· exact u▸S
 by_cases v:k=6;· exact v▸T
 by_cases w:k=7;· exact w▸U
 by_cases x:k=8;· exact x▸V
 by_cases y:k=9;· exact y▸W
 by_cases G:k=10;· exact G▸a
 by_cases H:k=11;· exact H▸b
 by_cases B:k=12;· exact B▸c
 by_cases I:k=13;· exact I▸d
 by_cases D:k=14;· exact D▸e
 by_cases E:k=15;· exact E▸f
 by_cases z:k=16;· exact z▸g
 by_cases F:k=17;· exact F▸h
 by_cases J:k=18;· exact J▸i
 by_cases K:k=19;· exact K▸j
 by_cases p:k=20;· exact p▸l
 by_cases L:k=21;· exact L▸m
 by_cases C:k=22;· exact C▸n
 by_cases M:k=23;· exact M▸o
 exact X k q r s t u v w x y G H B I D E z F J K p L C M
theorem Zs {a b:List Int} (d:a.Pairwise (· < ·)) (f:b.Pairwise (· < ·)) (h:∀x,x∈a↔x∈b):a=b:=by
 induction a generalizing b with
 |nil=>
  cases b with
  |nil=>rfl
  |cons y b=>have:=(h y).2 (by simp);simp at this
 |cons x a ih=>
  cases b with
  |nil=>have:=(h x).1 (by simp);simp at this
  |cons y b=>
   rw[List.pairwise_cons]at d f;have j:x=y:=by
    have g:=(h x).1 (by simp);have i:=(h y).2 (by simp);rcases AAg.1 g with e|g
    . exact e
    . rcases AAg.1 i with e|i
      . exact e.symm
      . have:=f.1 x g;have:=d.1 y i;omega
   subst j;congr 1;refine ih d.2 f.2 λz=> ?_;have k:=h z;simp only[AAg]at k;constructor
   . intro c
     have:=d.1 z c;rcases k.1 (.inr c)with e|e
     . omega
     . exact e
   . intro c
     have:=f.1 z c;rcases k.2 (.inr c)with e|e
     . omega
     . exact e
theorem Qo (d:Array Int) (hd:∀i j,i≤j->j<d.size->d[i]! ≤d[j]!):∀m,m≤d.size->(∀x,x∈Lib.compactUpTo d m↔∃i,i<m/\d[i]! =x)/\(Lib.compactUpTo d m).Pairwise (· < ·):=by
 intro m;induction m with
 |zero=>intro _;exact⟨λx=>by simp[Lib.compactUpTo],by simp[Lib.compactUpTo]⟩
 |succ m ih=>
  intro q;obtain⟨f,g⟩:=ih (by omega);rw[Lib.compactUpTo_succ];by_cases c:Lib.keeps d m=true
  . rw[AAP c];refine⟨λx=> ?_,?_⟩
    . rw[AAa,f x,AAh];constructor
      . rintro(⟨i,hi,e⟩|e)
        . exact⟨i,by omega,e⟩
        . exact⟨m,by omega,e.symm⟩
      . rintro⟨i,hi,e⟩;by_cases a:i=m
        . exact .inr (by rw[← e,a])
        . exact .inl ⟨i,by omega,e⟩
    . rw[List.pairwise_append];refine⟨g,by simp,λx n y h=> ?_⟩;rw[AAh]at h;subst h;obtain⟨i,hi,e⟩:=(f x).1 n;have b:m=0∨d[m]! ≠d[m-1]! :=(by simpa[Lib.keeps]using c);have o:=hd i (m-1) (by omega) (by omega);have p:=hd (m-1) m (by omega) (by omega);rcases b with k|k
      . omega
      . rw[← e];omega
  . rw[AAO c,ABV];refine⟨λx=> ?_,g⟩;have b:¬(m=0∨d[m]! ≠d[m-1]!):=(by simpa[Lib.keeps]using c);rw[not_or]at b;have l:d[m]! =d[m-1]! :=(by have:=b.2;simpa using this);rw[f x];constructor
    . rintro⟨i,hi,e⟩;exact⟨i,by omega,e⟩
    . rintro⟨i,hi,e⟩;by_cases a:i=m
      . exact⟨m-1,by omega,by rw[← l,← a,e]⟩
      . exact⟨i,by omega,e⟩
def Qb (l:List Int):List Int:=l.mergeSort λx y=>decide (x≤y)
def Uc (l:List Int):List Int:=Lib.compact (Qb l)
theorem SQ (l:List Int):(Qb l).length=l.length:=by simp[Qb]
theorem sR (l:List Int) (x:Int):x∈Qb l↔x∈l:=by simp[Qb]
theorem SS (l:List Int):(Qb l).Pairwise (· ≤ ·):=by have:=List.pairwise_mergeSort (le:=λx y:Int=>decide (x≤y)) (by simp;omega) (by simp;omega) l;simpa[Qb]using this
theorem QQ (l:List Int) (h:l.Pairwise (· ≤ ·)):(∀x,x∈Lib.compact l↔x∈l)/\(Lib.compact l).Pairwise (· < ·):=by
 have hd:∀i j,i≤j->j<l.toArray.size->l.toArray[i]! ≤l.toArray[j]! :=by
  intro i j c f;have b:j<l.length:=by simpa using f
  rcases Nat.lt_or_eq_of_le c with a|rfl
  . have:=List.pairwise_iff_getElem.1 h i j (by omega) b a;rw[getElem!_pos l.toArray i (by simp;omega),getElem!_pos l.toArray j (by simpa using b)];simpa using this
  . exact Int.le_refl _
 obtain⟨a,d⟩:=Qo l.toArray hd l.length (by simp);refine⟨λx=> ?_,d⟩;show x∈Lib.compactUpTo l.toArray l.length↔_;rw[a x,List.mem_iff_getElem];constructor
 . rintro⟨i,hi,e⟩;rw[getElem!_pos l.toArray i (by simpa using hi)]at e;exact⟨i,hi,by simpa using e⟩
 . rintro⟨i,hi,e⟩;exact⟨i,hi,by rw[getElem!_pos l.toArray i (by simpa using hi)];simpa using e⟩
theorem kC (l:List Int):(Lib.compact l).length≤l.length:=by unfold Lib.compact Lib.compactUpTo;rw[AAn];exact ABF (List.length_filter_le _ _) (by simp)
theorem Pj (l:List Int) (x:Int):x∈Uc l↔x∈l:=by unfold Uc;rw[(QQ _ (SS l)).1,sR]
theorem NY (l:List Int):(Uc l).Pairwise (· < ·):=(QQ _ (SS l)).2
theorem aJ (l:List Int):(Uc l).length≤l.length:=by have:=kC (Qb l);rw[SQ]at this;exact this
def Gh (out:List Int) (x:Int):Nat:=(out.takeWhile λy=>decide (y<x)).length
def ins (out:List Int) (x:Int):List Int:=if out[Gh out x]? =some x then out else out.take (Gh out x)++x::out.drop (Gh out x)
theorem Y0 (out:List Int) (x:Int) (i:Nat) (hi:i≤out.length) (b:∀(k:Nat) (d:k<out.length),k<i->out[k]<x) (c:∀(e:i<out.length),¬out[i]<x):Gh out x=i:=by
 unfold Gh;induction out generalizing i with
 |nil=>simp at hi;simp[hi]
 |cons y out ih=>
  by_cases a:y<x
  . cases i with
    |zero=>exact absurd a (c (by simp))
    |succ i=>rw[List.takeWhile_cons_of_pos (by simpa using a),AAx];rw[ih i (by simpa using hi) (λk d f=>by have:=b (k+1) (by simpa using d) (by omega);simpa using this) (λe=>by have:=c (by simpa using e);simpa using this)]
  . cases i with
    |zero=>rw[List.takeWhile_cons_of_neg (by simpa using a)];rfl
    |succ i=>have:=b 0 (by simp) (by omega);simp at this;exact absurd this a
theorem Wg (out:List Int) (x:Int):(ins out x).length≤out.length+1:=by
 unfold ins;split
 . omega
 . simp;omega
def insAll (l:List Int):List Int:=l.foldl ins []
theorem sA (out:List Int) (x:Int) (h:out.Pairwise (· < ·)):(ins out x).Pairwise (· < ·)/\∀z,z∈ins out x↔z∈out∨z=x:=by
 have key:∀(out:List Int),out.Pairwise (· < ·)->(∀(k:Nat) (b:k<out.length),k<Gh out x->out[k]<x)/\(∀(k:Nat) (b:k<out.length),Gh out x≤k->x≤out[k])/\Gh out x≤out.length:=by
  intro out;induction out with
  |nil=>intro _;simp[Gh]
  |cons y out ih=>
   intro l;rw[List.pairwise_cons]at l;obtain⟨j,c,p⟩:=ih l.2;by_cases g:y<x
   . have e:Gh (y::out) x=Gh out x+1:=(by unfold Gh;rw[List.takeWhile_cons_of_pos (by simpa using g)];rfl);rw[e];refine⟨λk b f=> ?_,λk b f=> ?_,by simp;omega⟩
     . cases k with
       |zero=>simpa using g
       |succ k=>have:=j k (by simpa using b) (by omega);simpa using this
     . cases k with
       |zero=>omega
       |succ k=>have:=c k (by simpa using b) (by omega);simpa using this
   . have e:Gh (y::out) x=0:=(by unfold Gh;rw[List.takeWhile_cons_of_neg (by simpa using g)];rfl);rw[e];refine⟨λk b f=>by omega,λk b _=> ?_,by simp⟩;cases k with
     |zero=>simp;omega
     |succ k=>
      have i:k<out.length:=by simpa using b
      have:=l.1 out[k] (AAW i);simp;omega
 obtain⟨j,c,p⟩:=key out h;unfold ins;split
 . rename_i d;obtain⟨r,d⟩:=AAI.1 d;refine⟨h,λz=>⟨.inl,?_⟩⟩;rintro(a|rfl)
   . exact a
   . rw[← d];exact AAW r
 . rename_i d;have m:out=out.take (Gh out x)++out.drop (Gh out x):=(ABY _ _).symm;refine⟨?_,λz=> ?_⟩
   . rw[List.pairwise_append,List.pairwise_cons];refine⟨h.sublist (List.take_sublist _ _),⟨λz a=> ?_,h.sublist (List.drop_sublist _ _)⟩,λy g z a=> ?_⟩
     . obtain⟨k,b,rfl⟩:=List.mem_iff_getElem.1 a;rw[List.getElem_drop];rw[List.length_drop]at b;have n:=c (Gh out x+k) (by omega) (by omega);by_cases o:k=0
       . subst o;have:out[Gh out x+0]≠x:=λe=>d (by rw[AAL (by omega)];simpa using e);omega
       . have q:=c (Gh out x) (by omega) (by omega);have t:=List.pairwise_iff_getElem.1 h (Gh out x) (Gh out x+k) (by omega) (by omega) (by omega);omega
     . obtain⟨k,b,rfl⟩:=List.mem_iff_getElem.1 g;rw[List.getElem_take];rw[List.length_take]at b;have n:=j k (by omega) (by omega);rcases AAg.1 a with rfl|a
       . exact n
       . obtain⟨s,i,rfl⟩:=List.mem_iff_getElem.1 a;rw[List.getElem_drop];rw[List.length_drop]at i;have q:=c (Gh out x+s) (by omega) (by omega);omega
   . rw[AAa,AAg];constructor
     . rintro(a|rfl|a)
       . exact .inl (ABa a)
       . exact .inr rfl
       . exact .inl (List.mem_of_mem_drop a)
     . rintro(a|rfl)
       . rw[m,AAa]at a;exact a.imp id .inr
       . exact .inr (.inl rfl)
theorem r9 (l:List Int):insAll l=Uc l:=by
 have key:∀(l a:List Int),a.Pairwise (· < ·)->(l.foldl ins a).Pairwise (· < ·)/\∀z,z∈l.foldl ins a↔z∈a∨z∈l:=by
  intro l;induction l with
  |nil=>intro a h;exact⟨h,by simp⟩
  |cons x l ih=>
   intro a h;obtain⟨b,c⟩:=sA a x h;obtain⟨d,e⟩:=ih (ins a x) b;refine⟨d,λz=> ?_⟩;rw[List.foldl_cons,e z,c z,AAg];constructor
   . rintro((h|h)|h)
     . exact .inl h
     . exact .inr (.inl h)
     . exact .inr (.inr h)
   . rintro(h|h|h)
     . exact .inl (.inl h)
     . exact .inl (.inr h)
     . exact .inr h
 obtain⟨b,c⟩:=key l [] (by simp);exact Zs b (NY l) λz=>by rw[Pj];have:=c z;simpa[insAll]using this
def HP (c:Int):Bool:=(decide (97≤c)&&decide (c≤122))||(decide (65≤c)&&decide (c≤90))
def MM (c:Int):Bool:=HP c||((decide (48≤c)&&decide (c≤57))||c==95)
def Ir (s:ABi) (i:Nat):Int:=((s.get! i).toNat:Int)
def Nq (s:ABi) (i:Nat):Bool:=HP (Ir s i)||(decide (0<i)&&((decide (48≤Ir s i)&&decide (Ir s i≤57))||Ir s i==95))
theorem Zm (s:ABi) (i:Nat) (h:(s.get! i).toNat<128):Utf8.decode s i=((s.get! i).toNat,1):=by unfold Utf8.decode;simp[h]
theorem kG (s:ABi) (i:Nat) (h:¬(s.get! i).toNat<128):128≤(Utf8.decode s i).1:=by
 unfold Utf8.decode;simp only[Nat.add_zero,h,AAY];have b:128≤Utf8.runeError:=by decide
 split
 . split
   . assumption
   . exact b
 . split
   . split
     . rename_i a;simp only[AAH,AAZ]at a;exact ABF (by decide) a.1
     . exact b
   . split
     . split
       . rename_i a;simp only[AAH,AAZ]at a;exact ABF (by decide) a.1
       . exact b
     . exact b
def nP (c:Int) (pos:Nat):Bool:=HP c||(decide (0<pos)&&((decide (48≤c)&&decide (c≤57))||c==95))
theorem TR (s:ABi) (L:Nat->ABh Bool) (pos:Nat) (a:pos<s.size):
 Cs.L1 s L pos=if nP ((Utf8.decode s pos).1:Int) pos=true then L (pos+(Utf8.decode s pos).2)else some false:=by
 unfold Cs.L1;rw[A2 a];unfold Cs.J2 Cs.J3 nP HP;generalize ((Utf8.decode s pos).1:Int)=c;have e:decide ((pos:Int)>0)=decide (0<pos):=by simp
 rw[e];generalize decide (97≤c)=b1;generalize decide (c≤122)=b2;generalize decide (65≤c)=b3;generalize decide (c≤90)=b4;generalize decide (48≤c)=b5;generalize decide (c≤57)=b6;generalize decide (0<pos)=b7;generalize (c==95)=b8;cases b1<;>cases b2<;>cases b3<;>cases b4<;>cases b5<;>cases b6<;>cases b7<;>cases b8<;>rfl
theorem MD (s:ABi):∀(n pos:Nat),pos≤s.size->s.size<n+pos->Cs.AZ s n pos=some ((List.range' pos (s.size-pos)).all (Nq s))
 |0,pos,h1,h2=>by omega
 |n+1,pos,h1,h2=>by
  unfold Cs.AZ;by_cases b:pos<s.size
  . rw[TR s _ pos b];have c:List.range' pos (s.size-pos)=pos::List.range' (pos+1) (s.size-(pos+1)):=(by rw[show s.size-pos=(s.size-(pos+1))+1 from by omega,List.range'_succ]);rw[c,AA6];by_cases a:(s.get! pos).toNat<128
    . rw[Zm s pos a,MD s n (pos+1) (by omega) (by omega)];show(if Nq s pos=true then _ else _)=_
      cases Nq s pos<;>simp
    . have f:=kG s pos a;have e:Nq s pos=false:=(by unfold Nq HP Ir;simp;omega);have d:nP ((Utf8.decode s pos).1:Int) pos=false:=(by unfold nP HP;simp;omega);rw[e,d,Bool.false_and];rfl
  . unfold Cs.L1;rw[Ad b];have:s.size-pos=0:=(by omega);simp[Cs.J4,this]
theorem oW {s:ABi} {i:Nat} (h:i<s.size):sgt s (i:Int)=some (s.get! i):=by
 unfold sgt;rw[AAP (by omega)];simp only[AA4];rw[getElem?_pos s i h];congr 1;have e:s.get! i=s[i]:=by simp[ByteArray.get!,getElem!_pos,h];rfl
 exact e.symm
theorem Nu (c:Int):FO c=some (HP c):=by unfold FO FO.J1 HP;simp only[ge_iff_le];generalize decide (97≤c)=b1;generalize decide (c≤122)=b2;generalize decide (65≤c)=b3;generalize decide (c≤90)=b4;cases b1<;>cases b2<;>cases b3<;>cases b4<;>rfl
theorem W8 (c:Int):Gs c=some (MM c):=by unfold Gs HI;rw[Nu,AAF];unfold Gs.J1 HI.J1 MM;simp only[ge_iff_le];generalize HP c=b1;generalize decide (48≤c)=b5;generalize decide (c≤57)=b6;generalize (c==95)=b8;cases b1<;>cases b5<;>cases b6<;>cases b8<;>rfl
theorem Lw (s:ABi) (c:s.size≤12):∀(n i:Nat),i≤s.size->s.size<n+i->B1.AZ s n i=some ((List.range' i (s.size-i)).all λk=>MM (Ir s k))
 |0,pos,h1,h2=>by omega
 |n+1,i,h1,h2=>by
  unfold B1.AZ B1.L1;by_cases b:i<s.size
  . rw[A2 (by omega),oW b,AAF,W8,AAF,Ai (by omega),Lw s c n (i+1) (by omega) (by omega)];have a:List.range' i (s.size-i)=i::List.range' (i+1) (s.size-(i+1)):=(by rw[show s.size-i=(s.size-(i+1))+1 from by omega,List.range'_succ]);rw[a,AA6];show(if(!(MM (Ir s i)))=true then _ else _)=_
    cases MM (Ir s i)<;>simp
  . rw[Ad (by omega)];have:s.size-i=0:=(by omega);simp[B1.J2,this]
theorem Ol (s:ABi):∀(n i:Nat),i≤22->22<n+i->De.AZ s n i=some ((Km.drop i).any λx=>s.toList==x.toList)
 |0,pos,h1,h2=>by omega
 |n+1,i,h1,h2=>by
  have b:Km.length=22:=rfl;unfold De.AZ De.L1;by_cases c:i<22
  . have a:i<Km.length:=(by omega);rw[A2 (by omega),AAP (by omega),B8 a,AAF,Ai (by omega),Ol s n (i+1) (by omega) (by omega),Ej a,List.any_cons];cases(s.toList==Km[i].toList)<;>simp
  . rw[Ad (by omega)];have:Km.drop i=[]:=List.drop_eq_nil_of_le (by omega);simp[De.J1,this]
def sC (s:ABi):Bool:=Km.any λx=>s.toList==x.toList
theorem RP (s:ABi):De s=some (sC s):=Ol s Bg 0 (by omega) (by decide)
theorem Sm:JY=some Km:=rfl
theorem KV (s:ABi) (v:List ABi) (b:v.length≤100):∀(n i:Nat),i≤v.length->v.length<n+i->DD.AZ s v n i=some ((v.drop i).any λx=>x.toList==s.toList)
 |0,pos,h1,h2=>by omega
 |n+1,i,h1,h2=>by
  unfold DD.AZ DD.L1;by_cases a:i<v.length
  . rw[A2 (by omega),B8 a,AAF,Ai (by omega),KV s v b n (i+1) (by omega) (by omega),Ej a,List.any_cons];cases(v[i].toList==s.toList)<;>simp
  . rw[Ad (by omega)];have:v.drop i=[]:=List.drop_eq_nil_of_le (by omega);simp[DD.J1,this]
theorem RA (s:ABi):DD s=some (sC s):=by unfold DD;rw[Sm,AAF];refine(KV s Km (by decide) Bg 0 (by omega) (by decide)).trans ?_;rw[AAe];congr 1;unfold sC;congr 1;funext x;exact Bool.beq_comm
def O1 (s:ABi):Bool:=decide (1≤s.size)&&decide (s.size≤12)&& !sC s&&(List.range' 0 s.size).all (Nq s)
theorem VN (s:ABi):Cs s=some (O1 s):=by
 unfold Cs;by_cases c:s.size<1
 . rw[A2 (by omega)];simp[Cs.J1,O1];omega
 . rw[Ad (by omega)];by_cases d:s.size>12
   . rw[A2 (by omega)];simp[Cs.J1,O1];omega
   . rw[Ad (by omega),RP,AAF];unfold Cs.J1;rw[MD s Bg 0 (by omega) (by have:Bg=18446744073709551616:=rfl;omega)];have a:1≤s.size:=(by omega);have b:s.size≤12:=(by omega);simp only[O1,a,b,decide_true,AAd,Nat.sub_zero];cases sC s<;>simp
theorem lG (s:ABi) (h:0<s.size):(HP (Ir s 0)&&(List.range' 0 s.size).all λk=>MM (Ir s k))=(List.range' 0 s.size).all (Nq s):=by
 have f:List.range' 0 s.size=0::List.range' 1 (s.size-1):=by rw[show s.size=(s.size-1)+1 from by omega,List.range'_succ];simp
 rw[f,AA6,AA6];have b:Nq s 0=HP (Ir s 0):=by simp[Nq]
 have c:MM (Ir s 0)=(HP (Ir s 0)||((decide (48≤Ir s 0)&&decide (Ir s 0≤57))||Ir s 0==95)):=rfl;have d:(List.range' 1 (s.size-1)).all (Nq s)=(List.range' 1 (s.size-1)).all λk=>MM (Ir s k):=by
  rw[Bool.eq_iff_iff,AAN,AAN];have e:∀k∈List.range' 1 (s.size-1),Nq s k=MM (Ir s k):=λk a=>by have:0<k:=(by have:=List.mem_range'_1.1 a;omega);simp[Nq,MM,this]
  exact⟨λh k a=>e k a▸h k a,λh k a=>(e k a).symm▸h k a⟩
 rw[b,c,d];cases HP (Ir s 0)<;>simp
theorem Nt (s:ABi):B1 s=some (O1 s):=by
 unfold B1;by_cases c:s.size<1
 . rw[A2 (by omega)];simp[B1.J1,O1];omega
 . rw[Ad (by omega)];by_cases d:s.size>12
   . rw[A2 (by omega)];simp[B1.J1,O1];omega
   . rw[Ad (by omega),show(0:Int)=((0:Nat):Int)from rfl,oW (by omega),AAF,Nu,AAF,RA,AAF];unfold B1.J1;rw[show(0:Int)=((0:Nat):Int)from rfl,Lw s (by omega) Bg 0 (by omega) (by have:Bg=18446744073709551616:=rfl;omega)];have a:1≤s.size:=(by omega);have b:s.size≤12:=(by omega);simp only[O1,a,b,decide_true,AAd,Nat.sub_zero];rw[← lG s (by omega)];show(if(!HP (Ir s 0))=true then _ else _)=_
     cases sC s<;>cases HP (Ir s 0)<;>simp
instance:Inhabited I6:=⟨⟨⟨#[]⟩,false⟩⟩
theorem ba_beq (a b:ABi):(a==b)=(a.data==b.data):=by cases a;cases b;rfl
theorem qM (a b:ABi):(a.toList==b.toList)=(a==b):=by rw[ba_beq,Bool.eq_iff_iff,AAV,AAV,ByteArray.toList_eq,ByteArray.toList_eq];exact Array.toList_inj
theorem UC (wv:AD) (L1:List ABi->Int->ABh (List ABi×Bool)) (L1':List ABi->Int->ABh (List ABi×Bool)) (F:List ABi×Bool->ABh (List ABi×Bool))
 (e:F ([],false)=some ([],false)) (f:∀a b,L1 a b=(L1' a b).bind F) (i:Int) (l:List ABi) (x:DR):
 ∀(m:Nat) (k:Int) (c:DR),c.Name=x.Name->c.CG=x.CG->c.G4=false->c.Init=x.Init->
  BR.DI L1 i l wv x m k=(AW.DI L1' i wv.Cells l x m c k).bind F
 |0,k,c,_,_,_,_=>rfl
 |m+1,k,c,e1,e2,e3,e4=>by
  have o:=λp=>UC wv L1 L1' F e f i l x m p ⟨c.Name,k,c.CG,c.G4,c.Init⟩ e1 e2 e3 e4;unfold BR.DI AW.DI BR.L2 AW.L2;by_cases d:k<x.CG
  . rw[A2 d,A2 d];cases gt wv.Cells (Aq (i+k))with
    |none=>rfl
    |some y=>simp only[AAF,BR.J2,o,e1,e2,e3,e4];by_cases g:y.Index=k<;>by_cases h:y.Name.toList=x.Name.toList<;>by_cases j:y.CG=x.CG<;>by_cases n:y.Init=x.Init<;>cases a5:y.G4<;>simp[g,h,j,n,e]
  . rw[Ad d,Ad d];simp only[BR.J3,AW.J2,f,e2]
def MG (wv:AD):List ABi×Bool->ABh (List ABi×Bool):=λv=>if v.2=true then BR.J4 wv v.1 else some ([],false)
theorem Yl (wv:AD) (m:wv.Cells.length≤12):∀(n:Nat) (names:List ABi) (i:Int),
 BR.AZ wv n names i=(AW.AZ wv.Cells n names i).bind (MG wv)
 |0,_,_=>rfl
 |n+1,names,i=>by
  have j:=Yl wv m n;unfold BR.AZ AW.AZ BR.L1 AW.L1;by_cases hi:i<(wv.Cells.length:Int)
  . rw[A2 hi,A2 hi];cases hx:gt wv.Cells i with
    |none=>rfl
    |some x=>
     simp only[AAF];by_cases d:Ap (names.length+1) 16=true
     . rw[AAP d,AAP d];by_cases e:x.CG=0
       . simp only[e,AA5,AAo,j];by_cases c:x.Index=0<;>simp[c,MG]
       . simp only[e,AAV,AAY,BR.J1,AW.J1];by_cases c:x.CG<1
         . simp[c,MG]
         . by_cases f:x.CG>4
           . simp[c,f,MG]
           . simp only[c,f,decide_false,AAQ,AAY];have k:=UC wv _ _ (MG wv) rfl (λa b=>j a b) i names x Bg 0 x rfl rfl;by_cases g:x.CG>Aq ((wv.Cells.length:Int)-i)
             . cases x.G4<;>simp[g,MG]
             . simp only[g,decide_false,AAQ,AAY];cases hv:x.G4 with
               |false=>simp only[AAQ,AAY];exact k hv rfl
               |true=>
                simp only[AAo];have o:0≤i:=by
                 unfold gt at hx;by_cases h:0≤i
                 . exact h
                 . simp[h]at hx
                show BR.DI _ _ _ _ _ Bg 0=_;rw[show Bg=18446744073709551615+1 from rfl];unfold BR.DI BR.L2;rw[A2 (by omega),CC (by omega) (by omega),Int.add_zero,hx];simp only[AAF,BR.J2,hv];by_cases l:x.Index=0<;>simp[l,MG]
     . rw[AAO d,AAO d];rfl
  . rw[Ad hi,Ad hi];simp[AW.J3,MG]
theorem Li (l:List DR) (j:l.length≤12) (L1:List ABi->Int->ABh (List ABi×Bool)) (names:List ABi) (x:DR) (i:Nat) (f:1≤x.CG) (g:x.CG≤4) (n:x.CG≤(l.length:Int)-i) (Q:List ABi×Bool->Prop) (c:Q ([],false))
 (b:∃v,L1 (names++[x.Name]) ((i+x.CG.toNat:Nat):Int)=some v/\Q v):
 ∀(m k:Nat) (a:DR),a.CG=x.CG->k≤x.CG->x.CG<(m+k:Nat)->∃v,AW.DI L1 (i:Int) l names x m a (k:Int)=some v/\Q v
 |0,k,a,e,h,h'=>by omega
 |m+1,k,a,e,h,h'=>by
  unfold AW.DI AW.L2;by_cases d:(k:Int)<x.CG
  . rw[A2 d,CC (by omega) (by omega),show(i:Int)+(k:Int)=((i+k:Nat):Int)from by omega,B8 (by omega),AAF,Ai (by omega)];split
    . exact⟨_,rfl,c⟩
    . exact Li l j L1 names x i f g n Q c b m (k+1) _ e (by omega) (by omega)
  . rw[Ad d];unfold AW.J2;rw[e,CC (by omega) (by omega),show(i:Int)+x.CG=((i+x.CG.toNat:Nat):Int)from by omega];exact b
theorem Lj (l:List DR) (d:l.length≤12):∀(n i:Nat) (names:List ABi),i≤l.length->l.length<n+i->names.length≤i->∃v,AW.AZ l n names (i:Int)=some v/\v.1.length≤l.length
 |0,i,names,a,b,c=>by omega
 |n+1,i,names,a,b,c=>by
  unfold AW.AZ AW.L1;by_cases hi:i<l.length
  . rw[A2 (by omega),B8 hi,AAF,BO (by omega)];have g:∃v,some (([],false):List ABi×Bool)=some v/\v.1.length≤l.length:=⟨_,rfl,by simp⟩;generalize l[i]=x;by_cases e:x.CG=0
    . simp only[e,AA5,AAo];rw[Ai (by omega)];split
      . exact g
      . exact Lj l d n (i+1) _ (by omega) (by omega) (by simp;omega)
    . simp only[e,AAV,AAY,AW.J1];rw[CC (n:=(l.length:Int)-i) (by omega) (by omega)];by_cases a:x.CG<1
      . simp[a]
      . by_cases b:x.CG>4
        . simp[a,b]
        . by_cases c:x.G4=true
          . simp[a,b,c]
          . by_cases f:x.CG>(l.length:Int)-i
            . simp[a,b,c,f]
            . simp only[a,b,c,f,decide_false,AAQ,AAY];refine Li l d _ names x i (by omega) (by omega) (by omega) _ (by simp) ?_ Bg 0 x rfl (by omega) (by have:=Bn;omega);exact Lj l d n (i+x.CG.toNat) _ (by omega) (by omega) (by simp;omega)
  . rw[Ad (by omega)];exact⟨_,rfl,by simp;omega⟩
def KG (wv:AD):List ABi:=wv.AG.map (·.Name)++(wv.Af.map (·.Name)++(wv.AH++wv.AA))
def Ri:List ABi->List ABi->Bool
 |_,[]=>true
 |seen,x::r=>O1 x&& !(seen.any λy=>y==x)&&Ri (seen++[x]) r
structure Small (wv:AD):Prop where
 c:wv.Cells.length≤12
 l:wv.AG.length≤4
 d:wv.Af.length≤2
 f:wv.AH.length≤2
 t:wv.AA.length≤4
 s:wv.BL.length≤60
theorem names.L3 (wv:AD) (a:List ABi) (c:(a++wv.AH++wv.AA).length≤1000):∀(n i:Nat) (b:List ABi),i≤(a++wv.AH++wv.AA).length->(a++wv.AH++wv.AA).length<n+i->
 BE.GL a wv n (i:Int) b=some (Ri b ((a++wv.AH++wv.AA).drop i))
 |0,i,b,h1,h2=>by omega
 |n+1,i,b,h1,h2=>by
  unfold BE.GL BE.L3;by_cases hi:i<(a++wv.AH++wv.AA).length
  . rw[A2 (by omega),B8 hi,AAF,VN,AAF,Ej hi];unfold BE.J3;rw[Ai (by omega),names.L3 wv a c n (i+1) _ (by omega) (by omega)];generalize (a++wv.AH++wv.AA)[i]=x;rw[Ri];cases O1 x<;>cases hs:(b.any λy=>y==x)<;>simp
  . rw[Ad (by omega),Fe hi];rfl
theorem names.J2 (wv:AD) (b:Small wv) (a:List ABi) (c:a.length≤100):BE.J2 wv a=some (Ri [] (a++(wv.AH++wv.AA))):=by
 have:=b.f;have:=b.t;have d:=Bn;unfold BE.J2;rw[BO (by omega),BO (by simp;omega)]
 have:=names.L3 wv a (by simp;omega) Bg 0 [] (by omega) (by simp;omega);rw[AAe,AA0]at this;exact this
theorem names.L2 (wv:AD) (b:Small wv):∀(n i:Nat) (a:List ABi),i≤wv.Af.length->wv.Af.length<n+i->a.length≤50+i->BE.DI wv n a (i:Int)=some (Ri [] (a++((wv.Af.drop i).map (·.Name)++(wv.AH++wv.AA))))
 |0,i,a,h1,h2,h3=>by omega
 |n+1,i,a,h1,h2,h3=>by
  have:=b.d;unfold BE.DI BE.L2;by_cases hi:i<wv.Af.length
  . rw[A2 (by omega),B8 hi,AAF,BO (by omega),Ai (by omega),names.L2 wv b n (i+1) _ (by omega) (by omega) (by simp;omega),Ej hi];simp only[AAb,AA0,AAz,ABB]
  . rw[Ad (by omega),Fe hi,names.J2 wv b a (by omega)];simp
theorem names.L1 (wv:AD) (b:Small wv):∀(n i:Nat) (a:List ABi),i≤wv.AG.length->wv.AG.length<n+i->a.length≤20+i->BE.AZ wv n a (i:Int)=some (Ri [] (a++((wv.AG.drop i).map (·.Name)++(wv.Af.map (·.Name)++(wv.AH++wv.AA)))))
 |0,i,a,h1,h2,h3=>by omega
 |n+1,i,a,h1,h2,h3=>by
  have:=b.l;have:=b.d;have c:=Bn;unfold BE.AZ BE.L1;by_cases hi:i<wv.AG.length
  . rw[A2 (by omega),B8 hi,AAF,BO (by omega),Ai (by omega),names.L1 wv b n (i+1) _ (by omega) (by omega) (by simp;omega),Ej hi];simp only[AAb,AA0,AAz,ABB]
  . rw[Ad (by omega),Fe hi];unfold BE.J1
    have:=names.L2 wv b Bg 0 a (by omega) (by omega) (by omega);rw[AAe]at this;simpa using this
theorem names_eq (wv:AD) (b:Small wv) (a:List ABi) (d:a.length≤12):BE wv a=some (Ri [] (a++KG wv)):=by
 have:=b.l;have c:=Bn;unfold BE;rw[BO (by omega)]
 have:=names.L1 wv b Bg 0 a (by omega) (by omega) (by omega);rw[AAe]at this;exact this
theorem NX.J6 (wv:AD) (b:Small wv) (a:List ABi) (c:a.length≤100):BR.J6 wv a=some (a++(wv.AH++wv.AA),true):=by have:=b.f;have:=b.t;unfold BR.J6;rw[BO (by omega),BO (by simp;omega),AA0]
theorem NX.L4 (wv:AD) (b:Small wv):∀(n i:Nat) (a:List ABi),i≤wv.Af.length->wv.Af.length<n+i->a.length≤50+i->BR.L4r wv n a (i:Int)=some (a++((wv.Af.drop i).map (·.Name)++(wv.AH++wv.AA)),true)
 |0,i,a,h1,h2,h3=>by omega
 |n+1,i,a,h1,h2,h3=>by
  have:=b.d;unfold BR.L4r BR.L4;by_cases hi:i<wv.Af.length
  . rw[A2 (by omega),B8 hi,AAF,BO (by omega),Ai (by omega),NX.L4 wv b n (i+1) _ (by omega) (by omega) (by simp;omega),Ej hi];simp only[AAb,AA0,AAz,ABB]
  . rw[Ad (by omega),Fe hi,NX.J6 wv b a (by omega)];simp
theorem NX.L3 (wv:AD) (b:Small wv):∀(n i:Nat) (a:List ABi),i≤wv.AG.length->wv.AG.length<n+i->a.length≤20+i->BR.GL wv n a (i:Int)=some (a++((wv.AG.drop i).map (·.Name)++(wv.Af.map (·.Name)++(wv.AH++wv.AA))),true)
 |0,i,a,h1,h2,h3=>by omega
 |n+1,i,a,h1,h2,h3=>by
  have:=b.l;have:=b.d;have c:=Bn;unfold BR.GL BR.L3;by_cases hi:i<wv.AG.length
  . rw[A2 (by omega),B8 hi,AAF,BO (by omega),Ai (by omega),NX.L3 wv b n (i+1) _ (by omega) (by omega) (by simp;omega),Ej hi];simp only[AAb,AA0,AAz,ABB]
  . rw[Ad (by omega),Fe hi];unfold BR.J5
    have:=NX.L4 wv b Bg 0 a (by omega) (by omega) (by omega);rw[AAe]at this;simpa using this
theorem NX.J4 (wv:AD) (b:Small wv) (a:List ABi) (c:a.length≤12):BR.J4 wv a=some (a++KG wv,true):=by
 have:=b.l;have d:=Bn;unfold BR.J4
 have:=NX.L3 wv b Bg 0 a (by omega) (by omega) (by omega);rw[AAe]at this;exact this
theorem mZ (l:List ABi) (x:ABi) (b:l.length≤1000):∀(n i:Nat),i≤l.length->l.length<n+i->∃r,CN.AZ l x n (i:Int)=some r/\(0≤r↔((l.drop i).any λy=>y==x)=true)
 |0,i,h1,h2=>by omega
 |n+1,i,h1,h2=>by
  unfold CN.AZ CN.L1;by_cases hi:i<l.length
  . rw[A2 (by omega),B8 hi,AAF,Ai (by omega),Ej hi,qM,List.any_cons];obtain⟨r,c,a⟩:=mZ l x b n (i+1) (by omega) (by omega);cases hx:(l[i]==x)with
    |true=>exact⟨_,rfl,by simp⟩
    |false=>exact⟨r,by simpa using c,by simpa using a⟩
  . rw[Ad (by omega),Fe hi];exact⟨-1,rfl,by simp⟩
theorem at_eq (l:List ABi) (x:ABi) (c:l.length≤1000):∃r,CN l x=some r/\decide (r≥0)=(l.any λy=>y==x):=by
 obtain⟨r,b,a⟩:=mZ l x c Bg 0 (by omega) (by have:=Bn;omega);rw[AAe]at a;refine⟨r,b,?_⟩;cases h:(l.any λy=>y==x)with
 |true=>simpa using a.2 h
 |false=>simp only[decide_eq_false_iff_not,ge_iff_le];intro d;rw[a.1 d]at h;cases h
theorem UZ (wv:AD) (v:List ABi×Bool) (d:v.1.length≤1000):∀(n i:Nat),i≤v.1.length->v.1.length<n+i->
 An.AZ v wv n (i:Int)=if Ri (v.1.take i) (v.1.drop i)=true then An.J3 wv else some false
 |0,i,h1,h2=>by omega
 |n+1,i,h1,h2=>by
  unfold An.AZ An.L1;by_cases hi:i<v.1.length
  . rw[A2 (by omega),B8 hi,AAF,Nt,AAF,Ej hi,AAP (c:=0≤(i:Int)/\(i:Int).toNat≤v.1.length) (by simp;omega),AA4];obtain⟨r,a,b⟩:=at_eq (v.1.take i) v.1[i] (by simp;omega);rw[a,AAF,b];unfold An.J2;rw[Ai (by omega),UZ wv v d n (i+1) (by omega) (by omega),Ri,AAX hi];cases O1 v.1[i]<;>cases((v.1.take i).any λy=>y==v.1[i])<;>simp
  . rw[Ad (by omega),Fe hi];rfl
def GY (nt:Nat):Int->Int->List DS->Bool
 |_,_,[]=>true
 |t,n,x::r=>if x.Thread<t∨x.Thread≥nt then false else if x.Thread>t then x.Stmt==0&&GY nt x.Thread 1 r else x.Stmt==n&&GY nt t (n+1) r
theorem RM (wv:AD) (e:Small wv):∀(n i:Nat) (t:Int) (a:Nat),i≤wv.BL.length->wv.BL.length<n+i->a≤i->CW.AZ wv n t (a:Int) (i:Int)=some (GY wv.AA.length t a (wv.BL.drop i))
 |0,i,t,a,h1,h2,h3=>by omega
 |n+1,i,t,a,h1,h2,h3=>by
  have:=e.s;unfold CW.AZ CW.L1;by_cases hi:i<wv.BL.length
  . rw[A2 (by omega),B8 hi,AAF,Ej hi];simp only[CW.J1,CW.J2];rw[Ai (i:=i) (by omega),Ai (i:=a) (by omega),show Aq (0+1)=((1:Nat):Int)from rfl];rw[RM wv e n (i+1) _ (a+1) (by omega) (by omega) (by omega),RM wv e n (i+1) _ 1 (by omega) (by omega) (by omega)];generalize wv.BL[i]=x;rw[GY];by_cases b:x.Thread<t
    . simp[b]
    . by_cases c:x.Thread≥(wv.AA.length:Int)
      . simp[b,c]
      . by_cases f:x.Thread>t
        . by_cases d:x.Stmt=0<;>simp[b,c,f,d]
        . by_cases d:x.Stmt=(a:Int)<;>simp[b,c,f,d]
  . rw[Ad (by omega),Fe hi];rfl
theorem Ua (wv:AD) (q:Small wv):∀(n i:Nat) (t:Int) (f:Nat),i≤wv.BL.length->wv.BL.length<n+i->f≤i->(∀(h:0<i) (D:i-1<wv.BL.length),t=wv.BL[i-1].Thread/\(f:Int)=wv.BL[i-1].Stmt+1)->(i=0->t=0/\f=0)->0≤t->
 An.GL wv n (i:Int)=some (GY wv.AA.length t f (wv.BL.drop i))
 |0,i,t,f,h1,h2,h3,_,_,_=>by omega
 |n+1,i,t,f,h1,h2,h3,h4,h5,h6=>by
  have:=q.s;unfold An.GL An.L3;by_cases hi:i<wv.BL.length
  . rw[A2 (by omega),B8 hi,AAF,Ej hi];have m:∀(j:Int) (e:Nat),e≤i+1->(j=wv.BL[i].Thread/\(e:Int)=wv.BL[i].Stmt+1)->0≤j->An.GL wv n ((i+1:Nat):Int)=some (GY wv.AA.length j e (wv.BL.drop (i+1))):=
     λj e a b c=>Ua wv q n (i+1) j e (by omega) (by omega) a (λ_ _=>b) (by omega) c
    simp only[An.J6,An.J7,An.J8,An.J9];rw[Ai (i:=i) (by omega)];rw[GY];by_cases a0:wv.BL[i].Thread<0
    . have:wv.BL[i].Thread<t:=(by omega);simp[a0,this]
    . by_cases o:wv.BL[i].Thread≥(wv.AA.length:Int)
      . simp[a0,o]
      . simp only[a0,o,decide_false,ABQ,AAQ,AAY];by_cases B:i=0
        . subst B;obtain⟨rfl,rfl⟩:=h5 rfl;simp only[Int.natCast_zero,AA5,AAo,a0,AAY,Int.lt_irrefl,gt_iff_lt,decide_false,AAQ];by_cases d:wv.BL[0].Stmt=0
          . simp only[d,bne_self_eq_false,AAQ,AAY,AA5,AAd];rw[m wv.BL[0].Thread 1 (by omega) ⟨rfl,by simp[d]⟩ (by omega)];split
            . rfl
            . rw[show wv.BL[0].Thread=0 from by omega];rfl
          . simp[d]
        . have x:((i:Int)==0)=false:=(by simp;omega);have l:gt wv.BL (Aq ((i:Int)-1))=some wv.BL[i-1]:=(by rw[CC (by omega) (by omega),show(i:Int)-1=((i-1:Nat):Int)from by omega,B8 (by omega)]);obtain⟨v,w⟩:=h4 (by omega) (by omega);have z:Aq (wv.BL[i-1].Stmt+1)=(f:Int):=(by rw[← w];exact CC (by omega) (by omega));have y:decide ((i:Int)>0)=true:=(by simp;omega);simp only[x,l,AAF,AAQ,AAY,z,← v,y,AAo];by_cases p:t=wv.BL[i].Thread
          . have C:¬wv.BL[i].Thread<t:=(by omega);have k:¬wv.BL[i].Thread>t:=(by omega);simp only[p,bne_self_eq_false,AAQ,AAY,Int.lt_irrefl,gt_iff_lt];by_cases d:wv.BL[i].Stmt=(f:Int)
            . simp only[d,bne_self_eq_false,AAQ,AAY,AA5,AAd];rw[m wv.BL[i].Thread (f+1) (by omega) ⟨rfl,by omega⟩ (by omega)];rfl
            . simp[d]
          . have r:(t != wv.BL[i].Thread)=true:=(by simpa using p);simp only[r,AAo];by_cases d:wv.BL[i].Stmt=0
            . by_cases g:wv.BL[i].Thread<t
              . simp[d,g]
              . have k:wv.BL[i].Thread>t:=(by omega);have u:¬t>wv.BL[i].Thread:=(by omega);simp only[d,g,k,u,bne_self_eq_false,AAQ,AAY,decide_false,AAo,AA5,AAd];rw[m wv.BL[i].Thread 1 (by omega) ⟨rfl,by simp[d]⟩ (by omega)];rfl
            . by_cases g:wv.BL[i].Thread<t
              . simp[d,g]
              . have k:wv.BL[i].Thread>t:=(by omega);simp[d,g,k]
  . rw[Ad (by omega),Fe hi];rfl
theorem sites_eq (wv:AD) (a:Small wv):CW wv=some (GY wv.AA.length 0 0 wv.BL):=by have:=RM wv a Bg 0 0 0 (by omega) (by have:=a.s;have:=Bn;omega) (by omega);rw[AAe]at this;exact this
theorem tQ (wv:AD) (a:Small wv):An.J5 wv=some (GY wv.AA.length 0 0 wv.BL):=by have:=Ua wv a Bg 0 0 0 (by omega) (by have:=a.s;have:=Bn;omega) (by omega) (by omega) (by simp) (by omega);rw[AAe]at this;exact this
def Nn (wv:AD) (c:Nj):Bool:=ED c.Mutex wv.AG.length&& !(ix wv.AG c.Mutex).RW
theorem Pr (i:Int) (n:Nat):Es i (n:Int)=some (ED i n):=by unfold Es Es.J1 ED;simp only[ge_iff_le];cases decide (0≤i)<;>rfl
theorem WE (wv:AD) (a:Small wv):∀(n i:Nat),i≤wv.Af.length->wv.Af.length<n+i->Bf.AZ wv n (i:Int)=if(wv.Af.drop i).all (Nn wv)=true then some (GY wv.AA.length 0 0 wv.BL)else some false
 |0,i,h1,h2=>by omega
 |n+1,i,h1,h2=>by
  have:=a.d;unfold Bf.AZ Bf.L1;by_cases hi:i<wv.Af.length
  . rw[A2 (by omega),B8 hi,AAF,Ej hi,Ai (by omega),WE wv a n (i+1) (by omega) (by omega),AA6];generalize wv.Af[i]=c;unfold FV;rw[Pr,AAF];unfold Nn FV.J1;cases h:ED c.Mutex wv.AG.length with
    |false=>simp
    |true=>rw[AAP rfl,Cd h,AAF,AAF];cases(ix wv.AG c.Mutex).RW<;>simp
  . rw[Ad (by omega),Fe hi];unfold Bf.J4;rw[sites_eq wv a];rfl
theorem UU (wv:AD) (b:Small wv):∀(n i:Nat),i≤wv.Af.length->wv.Af.length<n+i->An.DI wv n (i:Int)=if(wv.Af.drop i).all (Nn wv)=true then some (GY wv.AA.length 0 0 wv.BL)else some false
 |0,i,h1,h2=>by omega
 |n+1,i,h1,h2=>by
  have:=b.d;unfold An.DI An.L2;by_cases hi:i<wv.Af.length
  . unfold An.J4;rw[A2 (by omega),B8 hi,AAF,Ej hi,Ai (by omega),UU wv b n (i+1) (by omega) (by omega),AA6];generalize wv.Af[i]=c;unfold Nn;by_cases a:c.Mutex<0
    . have:ED c.Mutex wv.AG.length=false:=(by simp[ED];omega);simp[a,this]
    . by_cases e:c.Mutex≥(wv.AG.length:Int)
      . have:ED c.Mutex wv.AG.length=false:=(by simp[ED];omega);simp[a,e,this]
      . have h:ED c.Mutex wv.AG.length=true:=(by simp[ED];omega);rw[Ad a,Ad e,Cd h,AAF,h];cases(ix wv.AG c.Mutex).RW<;>simp
  . rw[Ad (by omega),Fe hi];exact tQ wv b
def Ct (wv:AD):Bool:=decide (wv.Cells.length≤12)&&decide (wv.AG.length≤4)&&decide (wv.Af.length≤2)&&decide (wv.AH.length≤2)&&decide (1≤wv.AA.length)&&decide (wv.AA.length≤4)&&decide (wv.BL.length≤60)&&
 (match AW wv.Cells with
 |some v=>v.2&&Ri [] (v.1++KG wv)&&wv.Af.all (Nn wv)&&GY wv.AA.length 0 0 wv.BL
 |none=>false)
theorem QO (wv:AD):Bf wv=some (Ct wv):=by
 unfold Bf Bf.J1;by_cases a:wv.Cells.length≤12
 . by_cases b:wv.AG.length≤4
   . by_cases c:wv.Af.length≤2
     . by_cases d:wv.AH.length≤2
       . by_cases e:wv.BL.length≤60
         . rw[Ad (by omega),Ad (by omega),Ad (by omega),Ad (by omega),AAO (by simp;omega)];unfold Bf.J2;by_cases g:1≤wv.AA.length
           . by_cases f:wv.AA.length≤4
             . have j:Small wv:=⟨a,b,c,d,f,e⟩;obtain⟨v,l,m⟩:=Lj wv.Cells a Bg 0 [] (by omega) (by have:=Bn;omega) (by simp);have h:AW wv.Cells=some v:=l;rw[Ad (by omega),AAO (by simp;omega),h,AAF];have k:Ct wv=(v.2&&Ri [] (v.1++KG wv)&&wv.Af.all (Nn wv)&&GY wv.AA.length 0 0 wv.BL):=(by unfold Ct;rw[h];simp[a,b,c,d,e,g,f]);rw[k,names_eq wv j v.1 (by omega),AAF];unfold Bf.J3;have i:=WE wv j Bg 0 (by omega) (by have:=Bn;omega);rw[AAe]at i;rw[show(0:Int)=((0:Nat):Int)from rfl,i];cases v.2<;>cases Ri [] (v.1++KG wv)<;>cases wv.Af.all (Nn wv)<;>simp
             . rw[Ad (by omega),AAP (by simp;omega)];simp[Ct,f]
           . rw[A2 (by omega),AAP rfl];simp[Ct,g]
         . rw[Ad (by omega),Ad (by omega),Ad (by omega),Ad (by omega),AAP (by simp;omega)];simp[Ct,e]
       . rw[Ad (by omega),Ad (by omega),Ad (by omega),A2 (by omega),AAP rfl];simp[Ct,d]
     . rw[Ad (by omega),Ad (by omega),A2 (by omega),AAP rfl];simp[Ct,c]
   . rw[Ad (by omega),A2 (by omega),AAP rfl];simp[Ct,b]
 . rw[A2 (by omega),AAP rfl];simp[Ct,a]
theorem LP (wv:AD):An wv=some (Ct wv):=by
 unfold An An.J1;by_cases a:wv.Cells.length≤12
 . by_cases c:wv.AG.length≤4
   . by_cases d:wv.Af.length≤2
     . by_cases e:wv.AH.length≤2
       . by_cases h:1≤wv.AA.length
         . by_cases g:wv.AA.length≤4
           . by_cases f:wv.BL.length≤60
             . have l:Small wv:=⟨a,c,d,e,g,f⟩;obtain⟨v,k,o⟩:=Lj wv.Cells a Bg 0 [] (by omega) (by have:=Bn;omega) (by simp);have m:AW wv.Cells=some v:=k;rw[Ad (by omega),Ad (by omega),Ad (by omega),Ad (by omega),Ad (by omega),Ad (by omega),AAO (by simp;omega)];have n:Ct wv=(v.2&&Ri [] (v.1++KG wv)&&wv.Af.all (Nn wv)&&GY wv.AA.length 0 0 wv.BL):=(by unfold Ct;rw[m];simp[a,c,d,e,f,h,g]);have hn:BR wv=MG wv v:=(by have:=Yl wv a Bg [] 0;rw[show(0:Int)=((0:Nat):Int)from rfl,k]at this;exact this);rw[hn,n];unfold MG;have i:=UU wv l Bg 0 (by omega) (by have:=Bn;omega);rw[AAe]at i;cases gR:v.2 with
               |false=>simp
               |true=>rw[AAP rfl,NX.J4 wv l v.1 (by omega),AAF,AAO (by simp)];have b:(v.1++KG wv).length≤1000:=(by simp[KG];omega);have j:=UZ wv (v.1++KG wv,true) b Bg 0 (by omega) (by have:=Bn;simp only;omega);rw[List.take_zero,AAe]at j;rw[show(0:Int)=((0:Nat):Int)from rfl,j];unfold An.J3;rw[show(0:Int)=((0:Nat):Int)from rfl,i];cases Ri [] (v.1++KG wv)<;>cases wv.Af.all (Nn wv)<;>simp
             . rw[Ad (by omega),Ad (by omega),Ad (by omega),Ad (by omega),Ad (by omega),Ad (by omega),AAP (by simp;omega)];simp[Ct,f]
           . rw[Ad (by omega),Ad (by omega),Ad (by omega),Ad (by omega),Ad (by omega),A2 (by omega),AAP rfl];simp[Ct,g]
         . rw[Ad (by omega),Ad (by omega),Ad (by omega),Ad (by omega),A2 (by omega),AAP rfl];simp[Ct,h]
       . rw[Ad (by omega),Ad (by omega),Ad (by omega),A2 (by omega),AAP rfl];simp[Ct,e]
     . rw[Ad (by omega),Ad (by omega),A2 (by omega),AAP rfl];simp[Ct,d]
   . rw[Ad (by omega),A2 (by omega),AAP rfl];simp[Ct,c]
 . rw[A2 (by omega),AAP rfl];simp[Ct,a]
theorem DB {wv:AD} (h:Ct wv=true):Small wv:=by unfold Ct at h;simp only[AAH,AAZ]at h;obtain⟨⟨⟨⟨⟨⟨⟨a,b⟩,c⟩,d⟩,g⟩,e⟩,f⟩,i⟩:=h;exact⟨a,b,c,d,e,f⟩
instance:Inhabited Nj:=⟨⟨⟨#[]⟩,0⟩⟩
instance:Inhabited DR:=⟨⟨⟨#[]⟩,0,0,false,0⟩⟩
instance:Inhabited DS:=⟨⟨0,0,0⟩⟩
instance:Inhabited AX:=⟨⟨0,[]⟩⟩
instance:Inhabited AF:=⟨⟨0,0,false⟩⟩
def Jh (wv:AD):AQ:=⟨List.replicate wv.AG.length ⟨-1,[]⟩, -1,List.replicate wv.AH.length false,(List.replicate wv.AA.length ⟨0,0,false⟩).set 0 ⟨1,0,false⟩⟩
theorem start.L1 (wv:AD) (a:Small wv) (D:List Bool) (T:List AF) (tx:Int):∀(n i:Nat),i≤wv.AG.length->wv.AG.length<n+i->
 Dn.AZ wv n ⟨List.replicate i ⟨-1,[]⟩++List.replicate (wv.AG.length-i) ⟨0,[]⟩,tx,D,T⟩ (i:Int)=Dn.J1 ⟨List.replicate wv.AG.length ⟨-1,[]⟩,tx,D,T⟩
 |0,i,h1,h2=>by omega
 |n+1,i,h1,h2=>by
  have:=a.l;unfold Dn.AZ Dn.L1;by_cases hi:i<wv.AG.length
  . rw[A2 (by simp;omega)];have e:List.replicate (wv.AG.length-i) (AX.mk 0 [])=AX.mk 0 []::List.replicate (wv.AG.length-(i+1)) (AX.mk 0 []):=(by rw[show wv.AG.length-i=(wv.AG.length-(i+1))+1 from by omega,List.replicate_succ]);have b:gt (List.replicate i (AX.mk (-1) [])++List.replicate (wv.AG.length-i) (AX.mk 0 [])) (i:Int)=some ⟨0,[]⟩:=(by rw[JJ,e,AAl (by simp)];simp);have c:(List.replicate i (AX.mk (-1) [])++List.replicate (wv.AG.length-i) (AX.mk 0 [])).set i (AX.mk (-1) [])=List.replicate (i+1) (AX.mk (-1) [])++List.replicate (wv.AG.length-(i+1)) (AX.mk 0 []):=(by rw[e,List.set_append_right _ _ (by simp)];simp only[List.length_replicate,Nat.sub_self,List.set_cons_zero];rw[List.replicate_succ'];simp);simp only[b,AAF,AA4,c];rw[Ai (by omega)];exact start.L1 wv a D T tx n (i+1) (by omega) (by omega)
  . rw[Ad (by simp;omega)];have:i=wv.AG.length:=(by omega);subst this;simp
theorem Uw (wv:AD) (a:Small wv):Dn wv=some (Jh wv):=by
 have c:=a.l;have d:=a.f;have e:=a.t;have g:=Bn;unfold Dn;rw[AAP ⟨by omega,by omega,B9 (by omega)⟩,AAP ⟨by omega,by omega,B9 (by omega)⟩,AAP ⟨by omega,by omega,B9 (by omega)⟩]
 have:=start.L1 wv a (List.replicate wv.AH.length false) (List.replicate wv.AA.length (AF.mk 0 0 false)) (-1) Bg 0 (by omega) (by omega);simp only[List.replicate_zero,ABB,Nat.sub_zero,Int.natCast_zero]at this;rw[this];unfold Dn.J1 Dn.J2 Jh;simp only[List.length_replicate];by_cases h:wv.AA.length=0
 . simp[h]
 . have b:0<wv.AA.length:=(by omega);rw[A2 (by omega)];have:gt (List.replicate wv.AA.length (AF.mk 0 0 false)) 0=some ⟨0,0,false⟩:=(by show gt _ ((0:Nat):Int)=_;rw[JJ];simp[b]);rw[this];rfl
theorem PL.L3 (wv:AD) (a:Small wv) (L:List AX) (D:List Bool) (tx:Int):∀(n i:Nat),i≤wv.AA.length->wv.AA.length<n+i->
 CP.GL wv n ⟨L,tx,D,(List.replicate i ⟨0,0,false⟩).set 0 ⟨1,0,false⟩⟩ (i:Int)=some ⟨L,tx,D,(List.replicate wv.AA.length ⟨0,0,false⟩).set 0 ⟨1,0,false⟩⟩
 |0,i,h1,h2=>by omega
 |n+1,i,h1,h2=>by
  have:=a.t;unfold CP.GL CP.L3;by_cases hi:i<wv.AA.length
  . unfold CP.J3;rw[A2 (by omega)];simp only[List.length_set,List.length_replicate];rw[BO (by omega),BO (by omega),Ai (by omega)];have e:∀x,(if((i:Int)==0)=true then CP.GL wv n ⟨L,tx,D,(List.replicate i ⟨0,0,false⟩).set 0 ⟨1,0,false⟩++[⟨1,0,false⟩]⟩ x else CP.GL wv n ⟨L,tx,D,(List.replicate i ⟨0,0,false⟩).set 0 ⟨1,0,false⟩++[⟨0,0,false⟩]⟩ x)=CP.GL wv n ⟨L,tx,D,(List.replicate (i+1) ⟨0,0,false⟩).set 0 ⟨1,0,false⟩⟩ x:=by
     intro x;cases i with
     |zero=>rfl
     |succ i=>rw[AAO (by simp;omega),List.replicate_succ' (n:=i+1),List.set_append_left _ _ (by simp)]
    rw[e];exact PL.L3 wv a L D tx n (i+1) (by omega) (by omega)
  . rw[Ad (by omega)];have:i=wv.AA.length:=(by omega);subst this;rfl
theorem PL.L2 (wv:AD) (a:Small wv) (L:List AX) (tx:Int):∀(n i:Nat),i≤wv.AH.length->wv.AH.length<n+i->
 CP.DI wv n ⟨L,tx,List.replicate i false,[]⟩ (i:Int)=some ⟨L,tx,List.replicate wv.AH.length false,(List.replicate wv.AA.length ⟨0,0,false⟩).set 0 ⟨1,0,false⟩⟩
 |0,i,h1,h2=>by omega
 |n+1,i,h1,h2=>by
  have:=a.f;unfold CP.DI CP.L2;by_cases hi:i<wv.AH.length
  . rw[A2 (by omega)];simp only[List.length_replicate];rw[BO (by omega),Ai (by omega),← List.replicate_succ'];exact PL.L2 wv a L tx n (i+1) (by omega) (by omega)
  . rw[Ad (by omega)];have:i=wv.AH.length:=(by omega);subst this;unfold CP.J2;exact PL.L3 wv a L _ tx Bg 0 (by omega) (by have:=a.t;have:=Bn;omega)
theorem PL.L1 (wv:AD) (a:Small wv):∀(n i:Nat),i≤wv.AG.length->wv.AG.length<n+i->
 CP.AZ wv n ⟨List.replicate i ⟨-1,[]⟩, -1,[],[]⟩ (i:Int)=some (Jh wv)
 |0,i,h1,h2=>by omega
 |n+1,i,h1,h2=>by
  have:=a.l;unfold CP.AZ CP.L1;by_cases hi:i<wv.AG.length
  . rw[A2 (by omega)];simp only[List.length_replicate];rw[BO (by omega),Ai (by omega),← List.replicate_succ'];exact PL.L1 wv a n (i+1) (by omega) (by omega)
  . rw[Ad (by omega)];have:i=wv.AG.length:=(by omega);subst this;unfold CP.J1;exact PL.L2 wv a _ (-1) Bg 0 (by omega) (by have:=a.f;have:=Bn;omega)
theorem S6 (wv:AD) (a:Small wv):CP wv=some (Jh wv):=PL.L1 wv a Bg 0 (by omega) (by have:=a.l;have:=Bn;omega)
def Ft (wv:AD):AB:=⟨Jh wv,wv.Cells.map (·.Init),List.replicate wv.AH.length 0,List.replicate wv.AA.length 0⟩
theorem wstart.L1 (wv:AD) (a:Small wv) (S:AQ) (F C:List Int):∀(n i:Nat),i≤wv.Cells.length->wv.Cells.length<n+i->
 Cx.AZ wv n ⟨S,(wv.Cells.take i).map (·.Init),F,C⟩ (i:Int)=some ⟨S,wv.Cells.map (·.Init),F,C⟩
 |0,i,h1,h2=>by omega
 |n+1,i,h1,h2=>by
  have:=a.c;unfold Cx.AZ Cx.L1;by_cases hi:i<wv.Cells.length
  . rw[A2 (by omega),B8 hi,AAF];simp only;rw[BO (by simp;omega),Ai (by omega)];have e:(wv.Cells.take i).map (·.Init)++[wv.Cells[i].Init]=(wv.Cells.take (i+1)).map (·.Init):=(by rw[← AAX hi,AAv];rfl);rw[e];exact wstart.L1 wv a S F C n (i+1) (by omega) (by omega)
  . rw[Ad (by omega),AAs (by omega)];rfl
theorem rwstart.L1 (wv:AD) (a:Small wv) (S:AQ) (F C:List Int):∀(n i:Nat),i≤wv.Cells.length->wv.Cells.length<n+i->
 Ga.AZ wv n ⟨S,(wv.Cells.take i).map (·.Init),F,C⟩ (i:Int)=some ⟨S,wv.Cells.map (·.Init),F,C⟩
 |0,i,h1,h2=>by omega
 |n+1,i,h1,h2=>by
  have:=a.c;unfold Ga.AZ Ga.L1;by_cases hi:i<wv.Cells.length
  . rw[A2 (by omega),B8 hi,AAF];simp only;rw[BO (by simp;omega),Ai (by omega)];have e:(wv.Cells.take i).map (·.Init)++[wv.Cells[i].Init]=(wv.Cells.take (i+1)).map (·.Init):=(by rw[← AAX hi,AAv];rfl);rw[e];exact rwstart.L1 wv a S F C n (i+1) (by omega) (by omega)
  . rw[Ad (by omega),AAs (by omega)];rfl
theorem Me (wv:AD) (a:Small wv):Cx wv=some (Ft wv):=by have b:=a.c;have d:=a.f;have e:=a.t;have g:=Bn;unfold Cx;rw[Uw wv a,AAF,AAP ⟨by omega,by omega,B9 (by omega)⟩,AAP ⟨by omega,by omega,B9 (by omega)⟩,AAP ⟨by omega,by omega,B9 (by omega)⟩];exact wstart.L1 wv a (Jh wv) _ _ Bg 0 (by omega) (by omega)
theorem eR (wv:AD) (a:Small wv):Ga wv=some (Ft wv):=by have b:=a.c;have d:=a.f;have e:=a.t;have g:=Bn;unfold Ga;rw[S6 wv a,AAF,AAP ⟨by omega,by omega,B9 (by omega)⟩,AAP ⟨by omega,by omega,B9 (by omega)⟩];exact rwstart.L1 wv a (Jh wv) _ _ Bg 0 (by omega) (by omega)
end Go.Abs
namespace Go.Abs
set_option maxHeartbeats 4000000
theorem Jy (i:Int) (n:Nat):DJ i (n:Int)=some (ED i n):=Pr i n
theorem eQ (i:Int) (n:Nat):HA i (n:Int)=some (ED i n):=Pr i n
theorem uQ (i:Int) (n:Nat):Kn i (n:Int)=some (ED i n):=Pr i n
def HD (wv:AD) (s:AQ):Bool:=wv.Af.all (λc=>ED c.Mutex wv.AG.length)&&(s.AG.length==wv.AG.length&&(s.B4.length==wv.AH.length&&s.AA.length==wv.AA.length))
theorem OG (a b:Nat):((a:Int)==(b:Int))=(a==b):=by rw[Bool.eq_iff_iff,AAV,AAV];omega
theorem lL (a b:Nat):((a:Int) != (b:Int))= !(a==b):=by rw[← OG];rfl
theorem Mn (wv:AD) (a:Small wv):∀(n i:Nat),i≤wv.Af.length->wv.Af.length<n+i->ER.AZ wv n (i:Int)=some ((wv.Af.drop i).all λc=>ED c.Mutex wv.AG.length)
 |0,i,h1,h2=>by omega
 |n+1,i,h1,h2=>by
  have:=a.d;unfold ER.AZ ER.L1;by_cases hi:i<wv.Af.length
  . rw[A2 (by omega),B8 hi,AAF,Ej hi,Ai (by omega),Mn wv a n (i+1) (by omega) (by omega),AA6,Jy,AAF];cases ED wv.Af[i].Mutex wv.AG.length<;>simp
  . rw[Ad (by omega),Fe hi];rfl
theorem O3 (wv:AD) (b:Small wv) (s:AQ):ER wv s=some (HD wv s):=by have a:=Mn wv b Bg 0 (by omega) (by have:=b.d;have:=Bn;omega);rw[AAe]at a;unfold ER ER.J1 HD;rw[lL,lL,lL,show(0:Int)=((0:Nat):Int)from rfl,a];cases(s.AG.length==wv.AG.length)<;>cases(s.B4.length==wv.AH.length)<;>cases(s.AA.length==wv.AA.length)<;>simp
theorem N5 (wv:AD) (e:Small wv) (s:AQ):∀(n i:Nat),i≤wv.Af.length->wv.Af.length<n+i->Ee.AZ s wv n (i:Int)=some (((wv.Af.drop i).all λc=>ED c.Mutex wv.AG.length)&&(s.AG.length==wv.AG.length&&(s.B4.length==wv.AH.length&&s.AA.length==wv.AA.length)))
 |0,i,h1,h2=>by omega
 |n+1,i,h1,h2=>by
  have:=e.d;unfold Ee.AZ Ee.L1;by_cases hi:i<wv.Af.length
  . unfold Ee.J1;rw[A2 (by omega),B8 hi,AAF,Ej hi,Ai (by omega),N5 wv e s n (i+1) (by omega) (by omega),AA6];generalize wv.Af[i]=c;by_cases a:c.Mutex<0
    . have:ED c.Mutex wv.AG.length=false:=(by simp[ED];omega);simp[a,this]
    . by_cases b:c.Mutex≥(wv.AG.length:Int)
      . have:ED c.Mutex wv.AG.length=false:=(by simp[ED];omega);simp[a,b,this]
      . have h:ED c.Mutex wv.AG.length=true:=(by simp[ED];omega);rw[Ad a,AAO (by simpa using b),h,AAd]
  . rw[Ad (by omega),Fe hi];unfold Ee.J2 Ee.J3;rw[OG,OG,OG];cases(s.AG.length==wv.AG.length)<;>cases(s.B4.length==wv.AH.length)<;>simp
theorem N9 (wv:AD) (b:Small wv) (s:AQ):Ee wv s=some (HD wv s):=by have a:=N5 wv b s Bg 0 (by omega) (by have:=b.d;have:=Bn;omega);rw[AAe]at a;exact a
def Kl (wv:AD) (s:AB):Bool:=HD wv s.Sync&&(s.Cells.length==wv.Cells.length&&(s.AH.length==wv.AH.length&&s.Count.length==wv.AA.length))
theorem LU (wv:AD) (a:Small wv) (s:AB):Eb wv s=some (Kl wv s):=by unfold Eb Eb.J1 Kl;rw[O3 wv a,AAF,OG,OG,OG];cases HD wv s.Sync<;>cases(s.Cells.length==wv.Cells.length)<;>cases(s.AH.length==wv.AH.length)<;>simp
theorem gS (wv:AD) (a:Small wv) (s:AB):Hb wv s=some (Kl wv s):=by unfold Hb Hb.J1 Kl;rw[N9 wv a,AAF,OG,OG,OG];cases HD wv s.Sync<;>cases(s.Cells.length==wv.Cells.length)<;>cases(s.AH.length==wv.AH.length)<;>simp
def Cm (wv:AD) (k o:Int):Bool:=
 if k=1∨k=2∨k=5∨k=12∨k=13∨k=14∨k=15 then o== -1
 else if k=3∨k=4 then ED o wv.Cells.length
 else if k=6∨k=7 then ED o wv.AG.length&& !(ix wv.AG o).RW
 else if k=8∨k=9∨k=10∨k=11 then ED o wv.AG.length&&(ix wv.AG o).RW
 else if k=16∨k=17∨k=18∨k=19 then ED o wv.Af.length
 else if k=20∨k=21 then ED o wv.AA.length
 else if k=22∨k=23 then ED o wv.AH.length
 else false
theorem lockRW {c:Type} (l:List I6) (o:Int) (f g:Bool->ABh c) (y:ABh c) (d:∀b,f b=g b) (hn:y=g false) (a:I6->Bool):(if ED o l.length=true then(gt l o).bind λx=>f (a x)else y)=g (ED o l.length&&a (ix l o)):=by
 cases h:ED o l.length with
 |false=>simp[hn]
 |true=>rw[AAP rfl,Cd h,AAF,d];simp
theorem Lu (wv:AD) (o:Int):∀k,CM wv k o=some (Cm wv k o):=by
 refine kinds ?_ ?_ ?_ ?_ ?_ ?_ ?_ ?_ ?_ ?_ ?_ ?_ ?_ ?_ ?_ ?_ ?_ ?_ ?_ ?_ ?_ ?_ ?_ (λk b c d e f g h i j s t m u p q l r v w a y n z=> ?_)
 all_goals
  unfold CM CM.J1;simp(decide:=true)only[Cm,CM.J2,CM.J3,CM.J4,CM.J5,CM.J6,CM.J7,CM.J8,CM.J9,Jy,AAF,AA5,AAo,AAY,AAV,ABQ,or_true,true_or,false_or,AAQ]
 all_goals first
  |done
  | (simp only[b,c,d,e,f,g,h,i,j,s,t,m,u,p,q,l,r,v,w,a,y,n,z,AAY,or_self];done)
  |exact lockRW wv.AG o some some (some false) (λ_=>rfl) rfl (λx=> !x.RW)
  |exact lockRW wv.AG o some some (some false) (λ_=>rfl) rfl (λx=>x.RW)
theorem XN (wv:AD) (k o:Int):Hu wv k o=some (Cm wv k o):=Lu wv o k
theorem Vq (l:List Int) (v:Int) (c:l.length≤1000000000):∀(n i:Nat),i≤l.length->l.length<n+i->∃r,FQ.AZ l v n (i:Int)=some r/\(0≤r↔v∈l.drop i)
 |0,i,h1,h2=>by omega
 |n+1,i,h1,h2=>by
  unfold FQ.AZ FQ.L1;by_cases hi:i<l.length
  . rw[A2 (by omega),B8 hi,AAF,Ai (by omega),Ej hi];obtain⟨r,d,b⟩:=Vq l v c n (i+1) (by omega) (by omega);generalize l.drop (i+1)=rest at b ⊢;by_cases a:v=l[i]
    . exact⟨i,by simp[a],by simp[a]⟩
    . exact⟨r,by simpa[a]using d,by simpa[a]using b⟩
  . rw[Ad (by omega),Fe hi];exact⟨-1,rfl,by simp⟩
theorem bN (l:List Int) (v:Int) (c:l.length≤1000000000):Gk l v=some (l.contains v):=by obtain⟨r,b,a⟩:=Vq l v c Bg 0 (by omega) (by have:=Bn;omega);rw[AAe]at a;unfold Gk FQ;rw[show(0:Int)=((0:Nat):Int)from rfl,b,AAF];congr 1;rw[Bool.eq_iff_iff,decide_eq_true_iff,AAq];exact a
theorem bR (l:List Int) (v:Int) (b:l.length≤1000000000):∀(n i:Nat),i≤l.length->l.length<n+i->GQ.AZ l v n (i:Int)=some ((l.drop i).contains v)
 |0,i,h1,h2=>by omega
 |n+1,i,h1,h2=>by
  unfold GQ.AZ GQ.L1;by_cases hi:i<l.length
  . rw[A2 (by omega),B8 hi,AAF,Ai (by omega),Ej hi,bR l v b n (i+1) (by omega) (by omega)];generalize l.drop (i+1)=rest;by_cases a:l[i]=v
    . simp[a]
    . have:¬v=l[i]:=λh=>a h.symm;simp[a,this]
  . rw[Ad (by omega),Fe hi];rfl
theorem pK (l:List Int) (v:Int) (a:l.length≤1000000000):GQ l v=some (l.contains v):=bR l v a Bg 0 (by omega) (by have:=Bn;omega)
def RB (N:Nat) (s:AQ):Prop:=∀x∈s.AG,x.Aj.length≤N
theorem RB.ix {N:Nat} {s:AQ} (h:RB N s) (i:Int):(ix s.AG i).Aj.length≤N:=by
 unfold Abs.ix;cases hx:s.AG[i.toNat]? with
 |none=>exact Nat.zero_le _
 |some x=>exact h x (AAS hx)
def Kh (wv:AD) (s:AQ) (t k o:Int):Bool:=
 let me:=ix s.AA t
 if k=1 then me.Status==1
 else if k=17 then me.Status==4&&(me.DC==o&&(ix s.AG (ix wv.Af o).Mutex).CS== -1)
 else me.Status==2&&(
  if k=6 then(ix s.AG o).CS== -1
  else if k=10 then(ix s.AG o).CS== -1&&((ix s.AG o).Aj.length:Int)==0
  else if k=8 then(ix s.AG o).CS== -1&& !(ix s.AG o).Aj.contains t
  else if k=7∨k=11 then(ix s.AG o).CS==t
  else if k=9 then(ix s.AG o).Aj.contains t
  else if k=12 then s.Tx== -1
  else if k=13 then s.Tx==t
  else if k=14 then !me.Atomic
  else if k=15 then me.Atomic
  else if k=16∨k=18∨k=19 then(ix s.AG (ix wv.Af o).Mutex).CS==t
  else if k=20 then o != t&&(ix s.AA o).Status==0
  else if k=21 then o != t&&(ix s.AA o).Status==5
  else if k=22 then !ix s.B4 o
  else if k=23 then ix s.B4 o
  else true)
def Da (wv:AD) (s:AQ) (t k o:Int):Bool:=HD wv s&&(ED t wv.AA.length&&(Cm wv k o&&Kh wv s t k o))
theorem Em {wv:AD} {s:AQ} (h:HD wv s=true):s.AG.length=wv.AG.length/\s.B4.length=wv.AH.length/\s.AA.length=wv.AA.length:=by unfold HD at h;simp only[AAH,AAV]at h;exact h.2
theorem HH {wv:AD} {s:AQ} (h:HD wv s=true) {o:Int} (b:ED o wv.Af.length=true):ED (ix wv.Af o).Mutex wv.AG.length=true:=by
 unfold HD at h;simp only[AAH,AAN]at h;obtain⟨c,d⟩:=Bh.1 b;have a:o.toNat<wv.Af.length:=by omega
 refine h.1 _ ?_;unfold ix;rw[AAL a];exact AAW a
theorem Ls (wv:AD) (B:Small wv) (s:AQ) (g:RB 1000000000 s) (t o:Int):∀k,Dc wv s t k o=some (Da wv s t k o):=by
 intro k;unfold Dc Da;rw[O3 wv B,AAF];cases hf:HD wv s with
 |false=>rfl
 |true=>
  rw[Jy,AAF];cases ht:ED t wv.AA.length with
  |false=>rfl
  |true=>
   rw[Lu,AAF];cases b:Cm wv k o with
   |false=>rfl
   |true=>
    obtain⟨e,E,h⟩:=Em hf;have f:gt s.AA t=some (ix s.AA t):=Cd (by rw[h];exact ht);unfold Dc.J1;simp only[Bool.not_true,AAQ,AAY,AAd];rw[f,AAF];revert b;have P:=g.ix o;have d:=bN (ix s.AG o).Aj t (g.ix o);revert k;refine kinds ?_ ?_ ?_ ?_ ?_ ?_ ?_ ?_ ?_ ?_ ?_ ?_ ?_ ?_ ?_ ?_ ?_ ?_ ?_ ?_ ?_ ?_ ?_ (λk j m n p q r u v w I J C K F G z H L M i N D O=> ?_)
    all_goals
     intro b;unfold Kh;simp(decide:=true)only[Cm,ABQ,or_true,true_or,false_or,AAo,AAY,AAH]at b;simp(decide:=true)only[Dc.J2,Dc.J3,EF,EF.J1,EF.J2,EF.J3,EF.J4,EF.J5,EF.J6,AA5,AAV,AAo,AAY,ABQ,or_true,true_or,false_or,AAQ]
    all_goals first
     |done
     | (rw[Cd (l:=wv.Af) b,AAF,Cd (l:=s.AG) (by rw[e];exact HH hf b)];simp only[AAF];generalize (ix s.AA t).Status=x;generalize (ix s.AA t).DC=y;by_cases a:x=4<;>by_cases c:y=o<;>simp[a,c];done)
     | (rw[Cd (l:=wv.Af) b,AAF,Cd (l:=s.AG) (by rw[e];exact HH hf b)];simp only[AAF];generalize (ix s.AA t).Status=x;by_cases a:x=2<;>simp[a];done)
     | (rw[Cd (l:=s.AG) (by rw[e];exact b.1)];simp only[AAF,d];generalize (ix s.AA t).Status=x;by_cases a:x=2<;>by_cases c:(ix s.AG o).CS= -1<;>simp[a,c];done)
     | (rw[Cd (l:=s.AA) (by rw[h];exact b)];simp only[AAF];generalize (ix s.AA t).Status=x;by_cases a:x=2<;>by_cases c:o=t<;>simp[a,c];done)
     | (rw[Cd (l:=s.B4) (by rw[E];exact b)];simp only[AAF];generalize (ix s.AA t).Status=x;by_cases a:x=2<;>simp[a];done)
     | (generalize (ix s.AA t).Status=x;by_cases a:x=2<;>simp[a];done)
     | (simp only[f,AAF];generalize (ix s.AA t).Status=x;by_cases a:x=2<;>simp[a];done)
     | (exfalso;revert b;simp only[j,m,n,p,q,r,u,v,w,I,J,C,K,F,G,z,H,L,M,i,N,D,O,AAY,or_self,AAQ,imp_self];done)
     |skip
theorem Pn (wv:AD) (B:Small wv) (s:AQ) (g:RB 1000000000 s) (t o:Int):∀k,Cf wv s t k o=some (Da wv s t k o):=by
 intro k;unfold Cf Da;rw[N9 wv B,AAF];cases hf:HD wv s with
 |false=>rfl
 |true=>
  rw[eQ,AAF];cases ht:ED t wv.AA.length with
  |false=>rfl
  |true=>
   rw[XN,AAF];cases b:Cm wv k o with
   |false=>rfl
   |true=>
    obtain⟨e,E,h⟩:=Em hf;have f:gt s.AA t=some (ix s.AA t):=Cd (by rw[h];exact ht);unfold Cf.J1;simp only[Bool.not_true,AAQ,AAY,AAd];rw[f,AAF];revert b;have P:=g.ix o;have d:=pK (ix s.AG o).Aj t (g.ix o);revert k;refine kinds ?_ ?_ ?_ ?_ ?_ ?_ ?_ ?_ ?_ ?_ ?_ ?_ ?_ ?_ ?_ ?_ ?_ ?_ ?_ ?_ ?_ ?_ ?_ (λk j m n p q r u v w I J C K F G z H L M i N D O=> ?_)
    all_goals
     intro b;unfold Kh;simp(decide:=true)only[Cm,ABQ,or_true,true_or,false_or,AAo,AAY,AAH]at b;simp(decide:=true)only[Cf.J2,Cf.J3,Cf.J4,Cf.J5,Cf.J6,Cf.J7,Cf.J8,AA5,AAV,AAo,AAY,ABQ,or_true,true_or,false_or,AAQ]
    all_goals first
     |done
     | (rw[Cd (l:=wv.Af) b,AAF,Cd (l:=s.AG) (by rw[e];exact HH hf b)];simp only[AAF];generalize (ix s.AA t).Status=x;generalize (ix s.AA t).DC=y;by_cases a:x=4<;>by_cases c:y=o<;>simp[a,c];done)
     | (rw[Cd (l:=wv.Af) b,AAF,Cd (l:=s.AG) (by rw[e];exact HH hf b)];simp only[AAF];generalize (ix s.AA t).Status=x;by_cases a:x=2<;>simp[a];done)
     | (rw[Cd (l:=s.AG) (by rw[e];exact b.1)];simp only[AAF,d];generalize (ix s.AA t).Status=x;by_cases a:x=2<;>by_cases c:(ix s.AG o).CS= -1<;>simp[a,c];done)
     | (rw[Cd (l:=s.AA) (by rw[h];exact b)];simp only[AAF];generalize (ix s.AA t).Status=x;by_cases a:x=2<;>by_cases c:o=t<;>simp[a,c];done)
     | (rw[Cd (l:=s.B4) (by rw[E];exact b)];simp only[AAF];generalize (ix s.AA t).Status=x;by_cases a:x=2<;>simp[a];done)
     | (generalize (ix s.AA t).Status=x;by_cases a:x=2<;>simp[a];done)
     | (simp only[f,AAF];generalize (ix s.AA t).Status=x;by_cases a:x=2<;>simp[a];done)
     | (exfalso;revert b;simp only[j,m,n,p,q,r,u,v,w,I,J,C,K,F,G,z,H,L,M,i,N,D,O,AAY,or_self,AAQ,imp_self];done)
     |skip
theorem bU (l:List Int) (x:Int) (o:l.length≤1000000000):∀(n i:Nat),i≤l.length->l.length<n+i->(∀(k:Nat) (f:k<l.length),k<i->l[k]<x)->ET.AZ l x n (i:Int)=some (ins l x)
 |0,i,h1,h2,_=>by omega
 |n+1,i,h1,h2,h3=>by
  unfold ET.AZ ET.L1;have step:∀(b:Bool),(∀(hi:i<l.length),b=decide (l[i]<x))->(¬i<l.length->b=false)->ET.J1 (ET.AZ l x n) (i:Int) l x b=some (ins l x):=by
   intro b j g;unfold ET.J1;by_cases hi:i<l.length
   . rw[j hi];by_cases c:l[i]<x
     . rw[A2 c,Ai (by omega)];refine bU l x o n (i+1) (by omega) (by omega) λk f m=> ?_;by_cases e:k=i
       . subst e;exact c
       . exact h3 k f (by omega)
     . rw[Ad c];have d:=Y0 l x i h1 h3 (λ_=>c);unfold ET.J2 ET.J3 ins;rw[A2 (by omega),B8 hi,AAF,d,AAL hi];by_cases e:l[i]=x
       . simp[e]
       . have:(l[i]==x)=false:=(by simpa using e);rw[this,AAO (by simp),AA4,AAP ⟨by omega,by omega⟩,BO (by simp;omega),BO (by simp;omega),AAP ⟨by omega,by omega⟩,BO (by simp;omega),AAO (by simpa using e)];have p:(l.drop i).take (l.length-i)=l.drop i:=AAs (by rw[List.length_drop];omega);rw[p];simp
   . rw[g hi,AAO (by simp)];have d:=Y0 l x i h1 h3 (λh=>absurd h hi);have a:i=l.length:=(by omega);unfold ET.J2 ET.J3 ins;rw[Ad (by omega),AAO (by simp),d,AA4,AAP ⟨by omega,by omega⟩,BO (by simp;omega),BO (by simp;omega),AAP ⟨by omega,by omega⟩,BO (by simp;omega),AAO (by simp[a])];congr 1;simp[a]
  by_cases hi:i<l.length
  . rw[A2 (by omega),B8 hi,AAF];exact step _ (λ_=>rfl) (λh=>absurd hi h)
  . rw[Ad (by omega)];exact step _ (λh=>absurd h hi) (λ_=>rfl)
theorem wT (l:List Int) (x:Int) (a:l.length≤1000000000):ET l x=some (ins l x):=bU l x a Bg 0 (by omega) (by have:=Bn;omega) (λk b h=>by omega)
theorem Union.L2 (b:List Int):∀(n i:Nat) (out:List Int),i≤b.length->b.length<n+i->out.length+b.length≤1000000000+i->b.length≤1000000000->D4.DI b n out (i:Int)=some ((b.drop i).foldl ins out)
 |0,i,out,h1,h2,h3,h4=>by omega
 |n+1,i,out,h1,h2,h3,h4=>by
  unfold D4.DI D4.L2;by_cases hi:i<b.length
  . have a:=Wg out b[i];rw[A2 (by omega),B8 hi,AAF,wT _ _ (by omega),AAF,Ai (by omega),Union.L2 b n (i+1) _ (by omega) (by omega) (by omega) h4,Ej hi,List.foldl_cons]
  . rw[Ad (by omega),Fe hi];rfl
theorem Union.L1 (a b:List Int) (c:a.length+b.length≤1000000000):∀(n i:Nat) (out:List Int),i≤a.length->a.length<n+i->out.length≤i->D4.AZ a b n out (i:Int)=some (b.foldl ins ((a.drop i).foldl ins out))
 |0,i,out,h1,h2,h3=>by omega
 |n+1,i,out,h1,h2,h3=>by
  unfold D4.AZ D4.L1;by_cases hi:i<a.length
  . have d:=Wg out a[i];rw[A2 (by omega),B8 hi,AAF,wT _ _ (by omega),AAF,Ai (by omega),Union.L1 a b c n (i+1) _ (by omega) (by omega) (by omega),Ej hi,List.foldl_cons]
  . rw[Ad (by omega),Fe hi];unfold D4.J1
    have:=Union.L2 b Bg 0 out (by omega) (by have:=Bn;omega) (by omega) (by omega);rw[AAe]at this;exact this
theorem bY (a b:List Int) (c:a.length+b.length≤1000000000):D4 a b=some (Uc (a++b)):=by have:=Union.L1 a b c Bg 0 [] (by omega) (by have:=Bn;omega) (by simp);rw[AAe,← List.foldl_append]at this;refine Eq.trans this ?_;rw[← r9];rfl
theorem Ni (l:List Int) (x:Int) (c:l.length≤1000000000):∀(n i:Nat) (out:List Int),i≤l.length->l.length<n+i->out.length≤i->D5.AZ l x n out (i:Int)=some (out++(l.drop i).filter λy=> !(y==x))
 |0,i,out,h1,h2,h3=>by omega
 |n+1,i,out,h1,h2,h3=>by
  unfold D5.AZ D5.L1;by_cases hi:i<l.length
  . unfold D5.J1;rw[A2 (by omega),B8 hi,AAF,Ej hi,List.filter_cons,Ai (by omega)];by_cases e:l[i]=x
    . have a:(l[i] != x)=false:=(by simp[e]);have b:(!(l[i]==x))=false:=(by simp[e]);rw[a,b,AAO (by simp),AAO (by simp)];exact Ni l x c n (i+1) out (by omega) (by omega) (by omega)
    . have a:(l[i] != x)=true:=(by simpa using e);have b:(!(l[i]==x))=true:=(by simpa using e);rw[a,b,AAP rfl,AAP rfl,BO (by omega),Ni l x c n (i+1) _ (by omega) (by omega) (by simp;omega)];simp
  . rw[Ad (by omega),Fe hi];simp[D5.J2]
theorem mL (l:List Int) (x:Int) (a:l.length≤1000000000):D5 l x=some (l.filter λy=> !(y==x)):=by have:=Ni l x a Bg 0 [] (by omega) (by have:=Bn;omega) (by simp);rw[AAe]at this;exact this
def Ih (x:AF) (o:Int):Bool:=x.Status==3&&x.DC==o
def CD (o:Int):Nat->List AF->List Int
 |_,[]=>[]
 |i,x::r=>if Ih x o=true then(i:Int)::CD o (i+1) r else CD o (i+1) r
theorem Vj (o:Int) (T:List AF):∀i,(CD o i T).length≤T.length:=by
 induction T with
 |nil=>intro i;simp[CD]
 |cons x r ih=>
  intro i
  have:=ih (i+1);unfold CD;split<;>simp<;>omega
theorem II (o:Int) (T:List AF):∀(i:Nat) (u:Int),u∈CD o i T->(i:Int)≤u/\u<((i+T.length:Nat):Int):=by
 induction T with
 |nil=>intro i u h;simp[CD]at h
 |cons x r ih=>
  intro i u h;unfold CD at h;split at h
  . rcases AAg.1 h with rfl|h
    . simp;omega
    . have:=ih (i+1) u h;simp at this ⊢;omega
  . have:=ih (i+1) u h;simp at this ⊢;omega
theorem fS (x:AF) (o:Int):FN x o=some (Ih x o):=by unfold FN FN.J1 Ih;cases(x.Status==3)<;>simp
theorem NB (s:AQ) (o:Int) (a:s.AA.length≤1000):∀(n i:Nat) (l:List Int),i≤s.AA.length->s.AA.length<n+i->l.length≤i->Cz.AZ o s n l (i:Int)=some (l++CD o i (s.AA.drop i))
 |0,i,l,h1,h2,h3=>by omega
 |n+1,i,l,h1,h2,h3=>by
  unfold Cz.AZ Cz.L1;by_cases hi:i<s.AA.length
  . unfold Cz.J1 Cz.J2;rw[A2 (by omega),B8 hi,AAF,Ej hi,CD,Ai (by omega),BO (by omega)];have b:=NB s o a n (i+1) (l++[(i:Int)]) (by omega) (by omega) (by simp;omega);have c:=NB s o a n (i+1) l (by omega) (by omega) (by omega);unfold Ih;rw[b,c];cases(s.AA[i].Status==3)<;>cases(s.AA[i].DC==o)<;>simp
  . rw[Ad (by omega),Fe hi];simp[Cz.J3,CD]
theorem Zc (s:AQ) (o:Int) (a:s.AA.length≤1000):Cz s o=some (CD o 0 s.AA):=by have:=NB s o a Bg 0 [] (by omega) (by have:=Bn;omega) (by simp);rw[AAe]at this;exact this
def Lk (wake:Int):Int->List Int->Int
 |c,[]=>c
 |c,w::r=>Lk wake (if c<0∨w=wake then w else c) r
theorem cW (wake:Int) (W:List Int) (a:∀w∈W,0≤w):∀c,0≤c->Lk wake c W=if W.contains wake=true then wake else c:=by
 induction W with
 |nil=>intro c _;simp[Lk]
 |cons w r ih=>
  intro c f;have b:=ih (λw h=>a w (List.mem_cons_of_mem _ h));unfold Lk;by_cases e:w=wake
  . rw[AAP (.inr e),b w (a w (AA9 ..))];subst e;simp
  . have d:¬wake=w:=λh=>e h.symm;rw[AAO (by simp[e];omega),b c f];simp[d]
def D6 (wake:Int) (W:List Int):Int:=if W=[]then -1 else if W.contains wake=true then wake else W.headD 0
theorem kA (wake:Int) (W:List Int) (b:∀w∈W,0≤w):Lk wake (-1) W=D6 wake W:=by
 cases W with
 |nil=>rfl
 |cons w r=>
  unfold Lk D6;rw[AAP (.inl (by omega)),cW wake r (λw h=>b w (List.mem_cons_of_mem _ h)) w (b w (AA9 ..)),AAO (c:=w::r=[]) (by simp)];by_cases e:wake=w
  . subst e;have a:(wake::r).contains wake=true:=(by simp);rw[a,AAP rfl];split<;>rfl
  . have a:(w::r).contains wake=r.contains wake:=(by simp[e]);rw[a];rfl
theorem UR (T:List AF) (o wake:Int) (b:T.length≤1000):∀(n i:Nat) (c:Int),i≤T.length->T.length<n+i->C9.AZ o T wake n c (i:Int)=C9.J3 T (Lk wake c (CD o i (T.drop i)))
 |0,i,c,h1,h2=>by omega
 |n+1,i,c,h1,h2=>by
  unfold C9.AZ C9.L1;by_cases hi:i<T.length
  . unfold C9.J1 C9.J2;rw[A2 (by omega),B8 hi,AAF,fS,AAF,Ej hi,CD,Ai (by omega)];have e:=λc=>UR T o wake b n (i+1) c (by omega) (by omega);simp only[e];cases Ih T[i] o with
    |false=>simp
    |true=>
     simp only[AAo,Lk];by_cases a:c<0
     . simp[a]
     . by_cases d:(i:Int)=wake<;>simp[a,d]
  . rw[Ad (by omega),Fe hi];rfl
def Hk (x:AF):AF:=⟨4,x.DC,x.Atomic⟩
def IW (o:Int) (x:AF):AF:=if Ih x o=true then Hk x else x
theorem sT (tx:Int) (T:List AF) (o wake:Int) (b:T.length≤1000):C9 tx T o wake=some (D6 wake (CD o 0 T),if CD o 0 T=[]then T else T.set (D6 wake (CD o 0 T)).toNat (Hk (ix T (D6 wake (CD o 0 T))))):=by
 have h:=UR T o wake b Bg 0 (-1) (by omega) (by have:=Bn;omega);rw[AAe,kA _ _ (λw d=>(II o T 0 w d).1)]at h;refine Eq.trans h ?_;unfold C9.J3 C9.J4;by_cases e:CD o 0 T=[]
 . rw[e];simp[D6]
 . have c:D6 wake (CD o 0 T)∈CD o 0 T:=by
    unfold D6;rw[AAO e];split
    . rename_i h;simpa using h
    . cases hW:CD o 0 T with
      |nil=>exact absurd hW e
      |cons w r=>simp
   have a:=II o T 0 _ c;rw[AAO e,A2 (by omega),Cd (Bh.2 (by simpa using a))];rfl
theorem LM (T:List AF) (o:Int) (d:T.length≤1000):∀(n i:Nat) (c:Nat),i≤T.length->T.length<n+i->c≤i->
 C6.AZ o T n ((T.take i).map (IW o)++T.drop i) (c:Int) (i:Int)=some (((c+(CD o i (T.drop i)).length:Nat):Int),T.map (IW o))
 |0,i,c,h1,h2,_=>by omega
 |n+1,i,c,h1,h2,h3=>by
  unfold C6.AZ C6.L1;by_cases hi:i<T.length
  . have a:((T.take i).map (IW o)).length=i:=(by simp;omega);have f:gt ((T.take i).map (IW o)++T.drop i) (i:Int)=some T[i]:=(by rw[JJ,AAl (by omega),a,Nat.sub_self,Ej hi];rfl);unfold C6.J1;rw[A2 (by omega),f,AAF,fS,AAF,Ai (i:=i) (by omega),Ai (i:=c) (by omega),AA4];have b:∀y,y=IW o T[i]->(T.take i).map (IW o)++y::T.drop (i+1)=(T.take (i+1)).map (IW o)++T.drop (i+1):=(by rintro y rfl;rw[← AAX hi,AAv];simp);have g:((T.take i).map (IW o)++T.drop i).set i (AF.mk 4 T[i].DC T[i].Atomic)=(T.take i).map (IW o)++AF.mk 4 T[i].DC T[i].Atomic::T.drop (i+1):=(by rw[List.set_append_right _ _ (by omega),a,Nat.sub_self,Ej hi];rfl);have e:(T.take i).map (IW o)++T.drop i=(T.take i).map (IW o)++T[i]::T.drop (i+1):=(by rw[← Ej hi]);rw[g,e,Ej hi,CD];cases hw:Ih T[i] o with
    |true=>rw[AAP rfl,AAP rfl,b _ (by simp[IW,hw,Hk]),LM T o d n (i+1) (c+1) (by omega) (by omega) (by omega)];congr 3;simp;omega
    |false=>rw[AAO (by simp),AAO (by simp),b _ (by simp[IW,hw]),LM T o d n (i+1) c (by omega) (by omega) (by omega)]
  . rw[Ad (by omega),Fe hi,AAs (by omega)];simp[C6.J2,CD]
theorem Z4 (tx:Int) (T:List AF) (o:Int) (a:T.length≤1000):C6 tx T o=some (((CD o 0 T).length:Int),T.map (IW o)):=by have:=LM T o a Bg 0 0 (by omega) (by have:=Bn;omega) (by omega);simp only[List.take_zero,AAy,AAe,ABB,ABN]at this;exact this
structure T9 (s:AQ):Prop where
 l:s.AG.length≤1000
 d:s.B4.length≤1000
 t:s.AA.length≤1000
 r:RB 1000000 s
theorem WB (s:AQ) (b:T9 s):∀(n i:Nat),i≤s.AG.length->s.AG.length<n+i->
 EE.AZ s n (s.AG.take i++List.replicate (s.AG.length-i) ⟨0,[]⟩) (i:Int)=some s
 |0,i,h1,h2=>by omega
 |n+1,i,h1,h2=>by
  have:=b.l;have:=b.d;have:=b.t;unfold EE.AZ EE.L1;by_cases hi:i<s.AG.length
  . have a:(s.AG.take i).length=i:=(by simp;omega);have e:List.replicate (s.AG.length-i) (AX.mk 0 [])=AX.mk 0 []::List.replicate (s.AG.length-(i+1)) (AX.mk 0 []):=(by rw[show s.AG.length-i=(s.AG.length-(i+1))+1 from by omega,List.replicate_succ]);have c:gt (s.AG.take i++List.replicate (s.AG.length-i) (AX.mk 0 [])) (i:Int)=some ⟨0,[]⟩:=(by rw[JJ,e,AAl (by omega),a];simp);have f:(s.AG.take i++List.replicate (s.AG.length-i) (AX.mk 0 [])).set i s.AG[i]=s.AG.take (i+1)++List.replicate (s.AG.length-(i+1)) (AX.mk 0 []):=(by rw[e,List.set_append_right _ _ (by omega),a,Nat.sub_self,List.set_cons_zero,← AAX hi,AA0];rfl);have g:=b.r _ (AAW hi);unfold slices_Clone_int;rw[A2 (by omega),B8 hi,AAF,BO (by omega),AAF,c,AAF,Ai (by omega),AA4];show EE.AZ s n ((s.AG.take i++List.replicate (s.AG.length-i) (AX.mk 0 [])).set i s.AG[i]) _=_;rw[f];exact WB s b n (i+1) (by omega) (by omega)
  . rw[Ad (by omega),AAs (by omega),show s.AG.length-i=0 from by omega];unfold EE.J1 HE EL;rw[BO (by omega),AAF,BO (by omega),AAF];simp
theorem yN (s:AQ) (a:T9 s):EE s=some s:=by have:=a.l;unfold EE;rw[AAP ⟨by omega,by omega,B9 (by omega)⟩];have h:=WB s a Bg 0 (by omega) (by have:=Bn;omega);rw[List.take_zero,ABB]at h;exact h
theorem YY (s:AQ) (a:T9 s) (tx:Int) (D:List Bool) (T:List AF):∀(n i:Nat),i≤s.AG.length->s.AG.length<n+i->
 Fp.AZ s n ⟨s.AG.take i,tx,D,T⟩ (i:Int)=some ⟨s.AG,tx,D,T⟩
 |0,i,h1,h2=>by omega
 |n+1,i,h1,h2=>by
  have:=a.l;unfold Fp.AZ Fp.L1;by_cases hi:i<s.AG.length
  . have b:=a.r _ (AAW hi);rw[A2 (by omega),B8 hi,AAF,BO (by omega),BO (by simp;omega),Ai (by omega)];simp only[AAX hi];exact YY s a tx D T n (i+1) (by omega) (by omega)
  . rw[Ad (by omega),AAs (by omega)];rfl
theorem mQ (s:AQ) (a:T9 s):Fp s=some s:=by have:=a.l;have:=a.d;have:=a.t;unfold Fp;rw[BO (by omega),BO (by omega)];exact YY s a s.Tx s.B4 s.AA Bg 0 (by omega) (by have:=Bn;omega)
def K2 (s:AQ) (i:Int) (f:AF->AF):AQ:=⟨s.AG,s.Tx,s.B4,s.AA.set i.toNat (f (ix s.AA i))⟩
def Ki (s:AQ) (i:Int) (f:AX->AX):AQ:=⟨s.AG.set i.toNat (f (ix s.AG i)),s.Tx,s.B4,s.AA⟩
def EA (wv:AD) (s:AQ) (t k o wake:Int):AQ×Int:=
 if k=1 then(K2 s t λx=>⟨2,x.DC,x.Atomic⟩,0)
 else if k=2 then(K2 s t λx=>⟨5,x.DC,x.Atomic⟩,0)
 else if k=6∨k=10 then(Ki s o λx=>⟨t,x.Aj⟩,0)
 else if k=7∨k=11 then(Ki s o λx=>⟨-1,x.Aj⟩,0)
 else if k=8 then(Ki s o λx=>⟨x.CS,Uc (x.Aj++[t])⟩,0)
 else if k=9 then(Ki s o λx=>⟨x.CS,x.Aj.filter λy=> !(y==t)⟩,0)
 else if k=12 then(⟨s.AG,t,s.B4,s.AA⟩,0)
 else if k=13 then(⟨s.AG, -1,s.B4,s.AA⟩,0)
 else if k=14 then(K2 s t λx=>⟨x.Status,x.DC,true⟩,0)
 else if k=15 then(K2 s t λx=>⟨x.Status,x.DC,false⟩,0)
 else if k=16 then(K2 (Ki s (ix wv.Af o).Mutex λx=>⟨-1,x.Aj⟩) t λx=>⟨3,o,x.Atomic⟩,0)
 else if k=17 then(K2 (Ki s (ix wv.Af o).Mutex λx=>⟨t,x.Aj⟩) t λx=>⟨2,0,x.Atomic⟩,0)
 else if k=18 then(if CD o 0 s.AA=[]then s else K2 s (D6 wake (CD o 0 s.AA)) Hk,D6 wake (CD o 0 s.AA))
 else if k=19 then(⟨s.AG,s.Tx,s.B4,s.AA.map (IW o)⟩,((CD o 0 s.AA).length:Int))
 else if k=20 then(K2 s o λx=>⟨1,x.DC,x.Atomic⟩,0)
 else if k=22 then(⟨s.AG,s.Tx,s.B4.set o.toNat true,s.AA⟩,0)
 else(s,0)
def kK:AQ:=⟨[],0,[],[]⟩
def K4 (wv:AD) (s:AQ) (t k o wake:Int):AQ×Int×Bool:=if Da wv s t k o=true then((EA wv s t k o wake).1,(EA wv s t k o wake).2,true)else(kK,0,false)
theorem Xe {l:List AF} {t:Int} (c:ED t l.length=true) (a:AF):gt (l.set t.toNat a) t=some a:=by
 obtain⟨b,d⟩:=Bh.1 c;have:t.toNat<l.length:=by omega
 unfold gt;rw[AAP b,AAK this]
theorem T9.of {wv:AD} (a:Small wv) {s:AQ} (b:HD wv s=true) (c:RB 1000000 s):T9 s:=by
 obtain⟨d,e,g⟩:=Em b
 have:=a.l;have:=a.f;have:=a.t;exact⟨by omega,by omega,by omega,c⟩
theorem RB.mono {N M:Nat} {s:AQ} (h:RB N s) (a:N≤M):RB M s:=λx b=>ABF (h x b) a
theorem Sort_eq (l:List Int) (a:l.length≤1000000000):MB l=some (Qb l):=by unfold MB;rw[AAP (by omega)];rfl
theorem gW (l:List Int) (a:l.length≤1000000000):slices_Compact l=some (Lib.compact l):=by unfold slices_Compact;rw[AAP (by omega)]
theorem Uu (wv:AD) (p:Small wv) (s:AQ) (i:RB 1000000 s) (t o wake:Int):∀k,Ez wv s t k o wake=some (K4 wv s t k o wake):=by
  intro k;unfold Ez K4;rw[Ls wv p s (i.mono (by omega)),AAF];cases he:Da wv s t k o with
  |false=>rfl
  |true=>
    have b:=he;unfold Da at b;simp only[AAH]at b;obtain⟨g,K,a,e⟩:=b;obtain⟨d,N,q⟩:=Em g;have c:=T9.of p g i;have m:ED t s.AA.length=true:=(by rw[q];exact K);have n:gt s.AA t=some (ix s.AA t):=Cd m;have f:=Xe m;have J:=i.ix o;have j:(Qb ((ix s.AG o).Aj++[t])).length≤1000000000:=(by rw[SQ];simp;omega);have H:=sT s.Tx s.AA o wake c.t;have G:=Z4 s.Tx s.AA o c.t;rw[yN s c,AAF,AAO (by simp)];clear he;revert a e;revert k;refine kinds ?_ ?_ ?_ ?_ ?_ ?_ ?_ ?_ ?_ ?_ ?_ ?_ ?_ ?_ ?_ ?_ ?_ ?_ ?_ ?_ ?_ ?_ ?_ (λk v w x y z B C D E R S L T O P F Q U V u W M X=> ?_)
    all_goals
      intro a e;unfold EA;simp(decide:=true)only[Cm,ABQ,or_true,true_or,false_or,AAo,AAY,AAH]at a;simp(decide:=true)only[Ez.J1,Ez.J2,Ez.J3,AA5,AAV,AAo,AAY,ABQ,or_true,true_or,false_or,AAQ]
    all_goals first
      |done
      | (rw[n,AAF];rfl)
      | (rw[Cd (l:=s.AG) (by rw[d];exact a.1),AAF];rfl)
      | (rw[Cd (l:=s.AG) (by rw[d];exact a.1),AAF,BO (by omega),Sort_eq _ (by simp;omega),AAF,gW _ j,AAF];rfl)
      | (rw[Cd (l:=s.AG) (by rw[d];exact a.1),AAF]
         unfold Hw;have r:(ix s.AG o).Aj≠[]:=(by intro h;simp(decide:=true)only[Kh,AAo,AAY,ABQ,or_true,true_or,false_or,h,List.contains_nil,Bool.and_false,AAQ]at e);rw[AAP ⟨r,by omega⟩,AAF];rfl)
      | (rw[Cd (l:=wv.Af) a,AAF,Cd (l:=s.AG) (by rw[d];exact HH g a),AAF,n,AAF,f,AAF];simp only[List.set_set];rfl)
      | (rw[H,AAF];simp only;by_cases I:CD o 0 s.AA=[]<;>simp only[I,AAo,AAY]<;>rfl)
      | (rw[G,AAF];done)
      | (rw[Cd (l:=s.AA) (by rw[q];exact a),AAF];rfl)
      | (rw[Cd (l:=s.B4) (by rw[N];exact a),AAF];done)
      |rfl
      | (exfalso;revert a;simp only[v,w,x,y,z,B,C,D,E,R,S,L,T,O,P,F,Q,U,V,u,W,M,X,AAY,or_self,AAQ,imp_self];done)
      |skip
theorem setAll (o:Int) (b:List AF):∀(a:List AF),(CD o a.length b).foldl (λT (u:Int)=>T.set u.toNat (Hk (ix T u))) (a++b)=a++b.map (IW o):=by
 induction b with
 |nil=>intro a;simp[CD]
 |cons x r ih=>
  intro a;unfold CD;have d:ix (a++x::r) ((a.length:Nat):Int)=x:=by unfold ix;rw[AA4,AAl (AAr _)];simp
  have c:=λy=>ih (a++[y]);simp only[AAu,AAx,ABA,ABN,AA0,List.singleton_append]at c;cases hw:Ih x o with
  |true=>rw[AAP rfl,List.foldl_cons,d,AA4,List.set_append_right _ _ (AAr _),Nat.sub_self,List.set_cons_zero,c];simp[IW,hw]
  |false=>rw[AAO (by simp),c];simp[IW,hw]
theorem UT (W:List Int) (a:W.length≤1000000):∀(n i:Nat) (s:AQ),i≤W.length->W.length<n+i->(∀u∈W,ED u s.AA.length=true)->
 DM.AZ W n s (i:Int)=some (⟨s.AG,s.Tx,s.B4,(W.drop i).foldl (λT (u:Int)=>T.set u.toNat (Hk (ix T u))) s.AA⟩,(W.length:Int),true)
 |0,i,s,h1,h2,_=>by omega
 |n+1,i,s,h1,h2,h3=>by
  unfold DM.AZ DM.L1;by_cases hi:i<W.length
  . rw[A2 (by omega),B8 hi,AAF,Cd (h3 _ (AAW hi)),AAF,Ai (by omega),UT W a n (i+1) _ (by omega) (by omega) (by simpa using h3),Ej hi,List.foldl_cons];rfl
  . rw[Ad (by omega),Fe hi];rfl
theorem Ms (wv:AD) (z:Small wv) (s:AQ) (i:RB 1000000 s) (t o wake:Int):∀k,DM wv s t k o wake=some (K4 wv s t k o wake):=by
 intro k;unfold DM K4;rw[Pn wv z s (i.mono (by omega)),AAF];cases he:Da wv s t k o with
 |false=>rfl
 |true=>
  have b:=he;unfold Da at b;simp only[AAH]at b;obtain⟨h,R,a,m⟩:=b;obtain⟨f,U,B⟩:=Em h;have d:=T9.of z h i;have n:ED t s.AA.length=true:=by rw[B];exact R
  have p:gt s.AA t=some (ix s.AA t):=Cd n;have g:=Xe n;have Q:=i.ix o;have x:=Zc s o d.t;have O:=Vj o s.AA 0;have P:=d.t;rw[mQ s d,AAF,AAO (by simp)];clear he;revert a m;revert k;refine kinds ?_ ?_ ?_ ?_ ?_ ?_ ?_ ?_ ?_ ?_ ?_ ?_ ?_ ?_ ?_ ?_ ?_ ?_ ?_ ?_ ?_ ?_ ?_ (λk D E F G H I J K L Z uY S uZ V W M X vA vB C vD T vE=> ?_)
  all_goals
   intro a m;unfold EA;simp(decide:=true)only[Cm,ABQ,or_true,true_or,false_or,AAo,AAY,AAH]at a;simp(decide:=true)only[DM.J1,DM.J2,DM.J5,AA5,AAV,AAo,AAY,ABQ,or_true,true_or,false_or,AAQ]
  all_goals first
   |done
   | (rw[p,AAF];rfl)
   | (rw[Cd (l:=s.AG) (by rw[f];exact a.1),AAF];rfl)
   | (rw[Cd (l:=s.AG) (by rw[f];exact a.1),AAF,bY _ _ (by simp;omega),AAF];rfl)
   | (rw[Cd (l:=s.AG) (by rw[f];exact a.1),AAF,mL _ _ (by omega),AAF];rfl)
   | (rw[Cd (l:=wv.Af) a,AAF,Cd (l:=s.AG) (by rw[f];exact HH h a),AAF,p,AAF,g,AAF];simp only[List.set_set];rfl)
   | (rw[Cd (l:=s.AA) (by rw[B];exact a),AAF];rfl)
   | (rw[Cd (l:=s.B4) (by rw[U];exact a),AAF];done)
   |rfl
   | (exfalso;revert a;simp only[D,E,F,G,H,I,J,K,L,Z,uY,S,uZ,V,W,M,X,vA,vB,C,vD,T,vE,AAY,or_self,AAQ,imp_self];done)
   |skip
  . -- a notification
    rw[x,AAF];cases hWW:CD o 0 s.AA with
    |nil=>rfl
    |cons w r=>
     have y:(w::r).length≤1000:=(by rw[← hWW];omega);have e:∀u,u∈w::r->ED u s.AA.length=true:=λu j=>(by have:=II o s.AA 0 u (by rw[hWW];exact j);exact Bh.2 (by simpa using this));have N:gt (w::r) 0=some w:=rfl;rw[A2 (by simp only[AAx];omega),N,AAF,pK _ _ (by omega),AAF];unfold DM.J3 DM.J5 D6;rw[AAO (c:=w::r=[]) (by simp),AAO (c:=w::r=[]) (by simp)];cases hc:(w::r).contains wake with
     |true=>rw[AAP rfl,Cd (e wake (by simpa using hc)),AAF];rfl
     |false=>rw[AAO (by simp),Cd (e w (AA9 ..)),AAF];rfl
  . -- of all
    have e:∀u,u∈CD o 0 s.AA->ED u s.AA.length=true:=λu j=>(by have:=II o s.AA 0 u j;exact Bh.2 (by simpa using this));have q:=UT (CD o 0 s.AA) (by omega) Bg 0 s (by omega) (by have:=Bn;omega) e;have v:=setAll o s.AA [];simp only[ABA,ABB]at v;rw[AAe,v]at q;rw[x,AAF];exact q
instance:Inhabited AQ:=⟨kK⟩
def Qq:AB:=⟨kK,[],[],[]⟩
def OO (ev:AK):Prop:=ev.EI.length<4611686018427387904/\ev.Dr.length<4611686018427387904
def NT (wv:AD) (ev:AK):Bool:=if ev.Kind=1∨ev.Kind=2 then ev.Site== -1 else ED ev.Site wv.BL.length&&(ix wv.BL ev.Site).Thread==ev.Thread
def Gp (c:Int):Int->List Int->Bool
 |_,[]=>true
 |last,x::r=>decide (last<x)&&(decide (x<c)&&Gp c x r)
def Rp (wv:AD) (ev:AK):Bool:=if ev.Kind=3∨ev.Kind=4 then(ix wv.Cells ev.Obj).CG != 0 else false
def FE (wv:AD) (s:AB) (ev:AK):Bool:=
 ((ev.EI.isEmpty||(ev.Kind==5||Rp wv ev))&&Gp (ix s.Count ev.Thread) 0 ev.EI)&&((ev.Dr.isEmpty||(ev.Kind==4||ev.Kind==22))&&Gp (ix s.Count ev.Thread) 0 ev.Dr)
def JG (s:AB) (ev:AK):Bool:=
 if ev.Kind=3 then ev.Value==ix s.Cells ev.Obj
 else if ev.Kind=23 then ev.Value==ix s.AH ev.Obj
 else if ev.Kind=5 then ev.Value==0||ev.Value==1
 else if ev.Kind=4∨ev.Kind=22 then true
 else if ev.Kind=18 then(CD ev.Obj 0 s.Sync.AA).contains ev.Value||((CD ev.Obj 0 s.Sync.AA).isEmpty&&ev.Value== -1)
 else if ev.Kind=19 then ev.Value==((CD ev.Obj 0 s.Sync.AA).length:Int)
 else ev.Value==0
theorem sZ (wv:AD) (ev:AK):DK wv ev=some (NT wv ev):=by
 unfold DK DK.J1 NT;by_cases d:ev.Kind=1
 . simp[d]
 . by_cases e:ev.Kind=2
   . simp[e]
   . have f:(ev.Kind==1)=false:=(by simpa using d);have g:(ev.Kind==2)=false:=(by simpa using e);rw[f,g,AAO (c:=ev.Kind=1∨ev.Kind=2) (by simp[d,e])];simp only[AAQ,AAY];unfold DK.J2;by_cases a:ev.Site≥0
     . by_cases b:ev.Site<(wv.BL.length:Int)
       . have hi:ED ev.Site wv.BL.length=true:=Bh.2 ⟨a,b⟩;rw[A2 a,A2 b,Cd hi,AAF,hi];rfl
       . have:ED ev.Site wv.BL.length=false:=(by simp[ED];omega);rw[A2 a,Ad b,this];rfl
     . have:ED ev.Site wv.BL.length=false:=(by simp[ED];omega);rw[Ad a,this];rfl
theorem dec.L2 (L1:Int->ABh Bool) (ev:AK) (l:List Int) (s:AB) (t:Int) (e:gt s.Count ev.Thread=some (ix s.Count ev.Thread)) (f:l.length<4611686018427387904):∀(n i:Nat) (a:Int),i≤l.length->l.length<n+i->
 Aa.DI L1 ev l s t n a (i:Int)=if Gp (ix s.Count ev.Thread) a (l.drop i)=true then Aa.J6 L1 t else some false
 |0,i,a,h1,h2=>by omega
 |n+1,i,a,h1,h2=>by
  unfold Aa.DI Aa.L2;by_cases hi:i<l.length
  . unfold Aa.J5;rw[A2 (by omega),B8 hi,AAF,e,Ej hi,Ai (by omega),dec.L2 L1 ev l s t e f n (i+1) _ (by omega) (by omega)];generalize l[i]=x;rw[Gp];by_cases b:x≤a
    . have:¬a<x:=(by omega);simp[b,this]
    . have d:a<x:=(by omega);by_cases c:x≥ix s.Count ev.Thread
      . have:¬x<ix s.Count ev.Thread:=(by omega);simp[b,d,c,this]
      . have:x<ix s.Count ev.Thread:=(by omega);simp[b,d,c,this]
  . rw[Ad (by omega),Fe hi];simp[Gp]
theorem V5:Bg=(Bg-3)+3:=rfl
theorem det.J4 (L1:Int->ABh Bool) (ev:AK) (l:List Int) (s:AB) (t:Int) (a:gt s.Count ev.Thread=some (ix s.Count ev.Thread)) (c:l.length<4611686018427387904) (b:Bool):
 Aa.J4 L1 ev l s t b=if(!b&&Gp (ix s.Count ev.Thread) 0 l)=true then Aa.J6 L1 t else some false:=by
 unfold Aa.J4;cases b with
 |true=>simp
 |false=>have:=dec.L2 L1 ev l s t a c Bg 0 0 (by omega) (by have:=Bn;omega);rw[AAe]at this;simpa using this
theorem det.J2 (wv:AD) (s:AB) (ev:AK) (g:OO ev) (e:gt s.Count ev.Thread=some (ix s.Count ev.Thread)) (a b:Bool):
 Aa.J2 ev s a b=some (((ev.EI.isEmpty||a)&&Gp (ix s.Count ev.Thread) 0 ev.EI)&&((ev.Dr.isEmpty||b)&&Gp (ix s.Count ev.Thread) 0 ev.Dr)):=by
 unfold Aa.J2;rw[V5];generalize Bg-3=m;have j:Aa.AZ a b ev s (m+1) 2=some true:=by unfold Aa.AZ Aa.L1;rfl
 have d:∀(L1:Int->ABh Bool) (t:Int) (l:List Int) (c:Bool),l.length<4611686018427387904->(t=0/\c=a∨t=1/\c=b)->Aa.J3 L1 a b ev s t l=if((l.isEmpty||c)&&Gp (ix s.Count ev.Thread) 0 l)=true then Aa.J6 L1 t else some false:=by
  intro L1 t l c f h;unfold Aa.J3;rw[det.J4 _ _ _ _ _ e f,det.J4 _ _ _ _ _ e f,det.J4 _ _ _ _ _ e f];cases l with
  |nil=>simp
  |cons x r=>rw[A2 (by simp only[AAx];omega)];rcases h with⟨rfl,rfl⟩|⟨rfl,rfl⟩<;>simp
 have i:Aa.AZ a b ev s (m+2) 1=some ((ev.Dr.isEmpty||b)&&Gp (ix s.Count ev.Thread) 0 ev.Dr):=by unfold Aa.AZ Aa.L1;rw[A2 (by decide),AAO (by decide),AAP (by decide),d _ 1 ev.Dr b g.2 (.inr ⟨rfl,rfl⟩)];unfold Aa.J6;rw[show Aq (1+1)=2 from rfl,j];cases((ev.Dr.isEmpty||b)&&Gp (ix s.Count ev.Thread) 0 ev.Dr)<;>rfl
 unfold Aa.AZ Aa.L1;rw[A2 (by decide),AAP (by decide),d _ 0 ev.EI a g.1 (.inl ⟨rfl,rfl⟩)];unfold Aa.J6;rw[show Aq (0+1)=1 from rfl,i];cases((ev.EI.isEmpty||a)&&Gp (ix s.Count ev.Thread) 0 ev.EI)<;>simp
theorem X7 (wv:AD) (s:AB) (ev:AK) (f:OO ev) (d:gt s.Count ev.Thread=some (ix s.Count ev.Thread)) (g:ev.Kind=3∨ev.Kind=4->ED ev.Obj wv.Cells.length=true):Aa wv s ev=some (FE wv s ev):=by
 have b:∀e,e=Rp wv ev->Aa.J1 ev s e=some (FE wv s ev):=by
  intro e h;unfold Aa.J1 FE;rw[det.J2 wv s ev f d,det.J2 wv s ev f d,det.J2 wv s ev f d,det.J2 wv s ev f d,h];by_cases i:ev.Kind=5
  . simp[i]
  . by_cases a:ev.Kind=4
    . simp[a]
    . have k:(ev.Kind==5)=false:=(by simpa using i);have j:(ev.Kind==4)=false:=(by simpa using a);simp[k,j]
 unfold Aa;by_cases c:ev.Kind=3
 . rw[AAP (by simp[c]),Cd (g (.inl c)),AAF];exact b _ (by simp[Rp,c])
 . rw[AAO (by simpa using c)];by_cases a:ev.Kind=4
   . rw[AAP (by simp[a]),Cd (g (.inr a)),AAF];exact b _ (by simp[Rp,a])
   . rw[AAO (by simpa using a)];exact b _ (by simp[Rp,c,a])
theorem Xn.L1 (ev:AK) (s:AB) (f:s.Sync.AA.length≤1000):∀(n i w:Nat) (b:Bool),i≤s.Sync.AA.length->s.Sync.AA.length<n+i->w≤i->
 A3.AZ ev s n (w:Int) b (i:Int)=some ((b||(CD ev.Obj i (s.Sync.AA.drop i)).contains ev.Value)||((w+(CD ev.Obj i (s.Sync.AA.drop i)).length==0)&&ev.Value== -1))
 |0,i,w,b,h1,h2,h3=>by omega
 |n+1,i,w,b,h1,h2,h3=>by
  unfold A3.AZ A3.L1;by_cases hi:i<s.Sync.AA.length
  . unfold A3.J3 A3.J4;rw[A2 (by omega),B8 hi,AAF,Ej hi,CD,Ai (i:=i) (by omega),Ai (i:=w) (by omega)];have a:=λ(w':Nat) b' h=>Xn.L1 ev s f n (i+1) w' b' (by omega) (by omega) h;rw[a (w+1) true (by omega),a (w+1) (ev.Value==(i:Int)) (by omega),a w b (by omega)];unfold Ih;have c:∀m:Nat,(w+1+m==0)=false:=λm=>(by simp);have d:∀m:Nat,(w+(m+1)==0)=false:=λm=>(by simp);have e:(ev.Value==(i:Int))=decide (ev.Value=(i:Int)):=rfl;cases(s.Sync.AA[i].Status==3)<;>cases(s.Sync.AA[i].DC==ev.Obj)<;>cases b<;>simp[c,d,e]
  . rw[Ad (by omega),Fe hi];unfold A3.J5 A3.J6;have:((w:Int)==0)=(w==0):=(by rw[Bool.eq_iff_iff,AAV,AAV];omega);rw[this];simp only[CD,List.contains_nil,ABA,Nat.add_zero,Bool.or_false];cases b<;>cases(w==0)<;>simp
theorem Xn.L2 (ev:AK) (s:AB) (c:s.Sync.AA.length≤1000):∀(n i w:Nat),i≤s.Sync.AA.length->s.Sync.AA.length<n+i->w≤i->
 A3.DI ev s n (w:Int) (i:Int)=some (ev.Value==((w+(CD ev.Obj i (s.Sync.AA.drop i)).length:Nat):Int))
 |0,i,w,h1,h2,h3=>by omega
 |n+1,i,w,h1,h2,h3=>by
  unfold A3.DI A3.L2;by_cases hi:i<s.Sync.AA.length
  . unfold A3.J7 A3.J8;rw[A2 (by omega),B8 hi,AAF,Ej hi,CD,Ai (i:=i) (by omega),Ai (i:=w) (by omega)];have a:=λ(w':Nat) h=>Xn.L2 ev s c n (i+1) w' (by omega) (by omega) h;rw[a (w+1) (by omega),a w (by omega)];unfold Ih;have b:∀m:Nat,w+1+m=w+(m+1):=λm=>(by omega);cases(s.Sync.AA[i].Status==3)<;>cases(s.Sync.AA[i].DC==ev.Obj)<;>simp[b]
  . rw[Ad (by omega),Fe hi];simp[A3.J9,CD]
theorem dV {a:Type} (l:List a):(0+l.length==0)=l.isEmpty:=by cases l<;>simp
theorem uG (s:AB) (ev:AK) (k:s.Sync.AA.length≤1000) (l:ev.Kind=3->ED ev.Obj s.Cells.length=true) (o:ev.Kind=23->ED ev.Obj s.AH.length=true):A3 s ev=some (JG s ev):=by
 have h:=Xn.L1 ev s k Bg 0 0 false (by omega) (by have:=Bn;omega) (by omega);have i:=Xn.L2 ev s k Bg 0 0 (by omega) (by have:=Bn;omega) (by omega);rw[AAe,dV]at h;rw[AAe,ABN]at i;simp only[Int.natCast_zero,Bool.false_or]at h i;unfold A3 A3.J1 A3.J2 A3.RX JG;by_cases a:ev.Kind=3
 . rw[AAP (by simp[a]),Cd (l a),AAF,AAP a]
 . rw[AAO (by simpa using a),AAO a];by_cases b:ev.Kind=23
   . rw[AAP (by simp[b]),Cd (o b),AAF,AAP b]
   . rw[AAO (by simpa using b),AAO b];by_cases e:ev.Kind=5
     . rw[AAP (by simp[e]),AAP e];cases(ev.Value==0)<;>rfl
     . rw[AAO (by simpa using e),AAO e];by_cases j:ev.Kind=4
       . simp[j]
       . have m:(ev.Kind==4)=false:=(by simpa using j);rw[m,AAO (by simp)];by_cases g:ev.Kind=22
         . simp[g]
         . have n:(ev.Kind==22)=false:=(by simpa using g);rw[n,AAO (c:=ev.Kind=4∨ev.Kind=22) (by simp[j,g])];simp only[AAQ,AAY];by_cases d:ev.Kind=18
           . rw[AAP (by simp[d]),AAP d];exact h
           . rw[AAO (by simpa using d),AAO d];by_cases f:ev.Kind=19
             . rw[AAP (by simp[f]),AAP f];exact i
             . rw[AAO (by simpa using f),AAO f]
def Fu (wv:AD) (s:AB) (ev:AK):AB:=
  ⟨(EA wv s.Sync ev.Thread ev.Kind ev.Obj (if ev.Kind=18 then ev.Value else -1)).1,
   if ev.Kind=4 then s.Cells.set ev.Obj.toNat ev.Value else s.Cells,
   if ev.Kind=22 then s.AH.set ev.Obj.toNat ev.Value else s.AH,
   s.Count.set ev.Thread.toNat (Aq (ix s.Count ev.Thread+1))⟩
def JL (wv:AD) (s:AB) (ev:AK):Bool:=
 Kl wv s&&(ED ev.Thread wv.AA.length&&(Da wv s.Sync ev.Thread ev.Kind ev.Obj&&(NT wv ev&&(FE wv s ev&&JG s ev))))
def Ud (wv:AD) (s:AB) (ev:AK):AB×Bool:=if JL wv s ev=true then(Fu wv s ev,true)else(Qq,false)
theorem Lc {wv:AD} {s:AB} (h:Kl wv s=true):HD wv s.Sync=true/\s.Cells.length=wv.Cells.length/\s.AH.length=wv.AH.length/\s.Count.length=wv.AA.length:=by unfold Kl at h;simpa only[AAH,AAV]using h
theorem VU {wv:AD} {k o:Int} (h:Cm wv k o=true):1≤k/\k≤23:=by
 unfold Cm at h
 repeat' split at h
 all_goals first|omega|cases h
theorem Zb (wv:AD) (d:Small wv) (s:AB) (u:RB 1000000 s.Sync) (ev:AK) (C:OO ev):Bm wv s ev=some (Ud wv s ev):=by
 have n:∀b,b=true->Bm.J1 ev s wv b=some (Qq,false):=by rintro b rfl;rfl
 have y:∀b,b=true->Bm.J2 ev s wv b=some (Qq,false):=by rintro b rfl;rfl
 unfold Bm Ud JL;rw[LU wv d,AAF];cases hf:Kl wv s with
 |false=>rfl
 |true=>
  rw[AAO (c:=(!true)=true) (by simp),AAd];cases ht:ED ev.Thread wv.AA.length with
  |false=>
   rw[Bool.false_and,AAO (c:=false=true) (by simp)];by_cases e:ev.Thread<0
   . rw[A2 e,n _ rfl]
   . rw[Ad e];by_cases i:ev.Thread≥(wv.AA.length:Int)
     . rw[A2 i,n _ rfl]
     . exfalso
       have:=Bh.2 ⟨Int.not_lt.1 e,Int.not_le.1 i⟩;rw[ht]at this;cases this
  |true=>
   obtain⟨G,H⟩:=Bh.1 ht;rw[Ad (by omega),Ad (by omega),AAd];obtain⟨r,v,w,B⟩:=Lc hf;have D:=d.c;have E:=d.f;have F:=d.t;have q:=T9.of d r u;have j:=Ls wv d s.Sync (u.mono (by omega)) ev.Thread ev.Obj ev.Kind;cases Xt:Da wv s.Sync ev.Thread ev.Kind ev.Obj with
   |false=>
    rw[Bool.false_and,AAO (c:=false=true) (by simp)];by_cases e:ev.Kind<1
    . rw[A2 e,n _ rfl]
    . rw[Ad e];unfold Bm.J1;by_cases i:ev.Kind>23
      . rw[AAP (by simpa using i)];rfl
      . rw[AAO (by simpa using i),j,Xt];rfl
   |true=>
    have a:=Xt;unfold Da at a;simp only[AAH]at a;obtain⟨_,_,p,_⟩:=a;obtain⟨I,J⟩:=VU p;have x:gt s.Count ev.Thread=some (ix s.Count ev.Thread):=Cd (by rw[B];exact ht);have o:ev.Kind=3∨ev.Kind=4->ED ev.Obj wv.Cells.length=true:=(by rintro(h|h)<;>simpa(decide:=true) [Cm,h]using p);have z:ev.Kind=22∨ev.Kind=23->ED ev.Obj wv.AH.length=true:=(by rintro(h|h)<;>simpa(decide:=true) [Cm,h]using p);rw[Ad (by omega)];unfold Bm.J1;rw[AAO (by simp;omega),j,Xt,AAF,AAO (c:=(!true)=true) (by simp),sZ,AAF,AAd];cases hp:NT wv ev with
    |false=>rfl
    |true=>
     rw[AAO (c:=(!true)=true) (by simp),X7 wv s ev C x o,AAF,AAd];cases hd:FE wv s ev with
     |false=>rfl
     |true=>
      rw[AAO (c:=(!true)=true) (by simp),uG s ev q.t (λh=>by rw[v];exact o (.inl h)) (λh=>by rw[w];exact z (.inr h)),AAF,AAd];cases hv:JG s ev with
      |false=>rfl
      |true=>
       rw[AAP rfl];unfold Bm.J2;have k:∀wake,wake=(if ev.Kind=18 then ev.Value else -1)->Bm.J3 ev s wv wake=some (Fu wv s ev,true):=by
        rintro wake rfl;unfold Bm.J3;rw[Uu wv d s.Sync u,AAF];unfold K4;rw[Xt,AAP rfl,AAO (by simp)];unfold E3 slices_Clone_int;rw[BO (by omega),AAF,BO (by omega),AAF,BO (by omega),AAF];unfold Bm.J4 Fu;simp only[x,AAF];by_cases l:ev.Kind=4
        . rw[AAP (by simp[l]),Cd (by rw[v];exact o (.inr l)),AAF];simp[l]
        . rw[AAO (by simpa using l)];by_cases g:ev.Kind=22
          . rw[AAP (by simp[g]),Cd (by rw[w];exact z (.inl g)),AAF];simp[g]
          . rw[AAO (by simpa using g)];simp[l,g]
       rw[AAO (by simp)];by_cases m:ev.Kind=18
       . rw[AAP (by simp[m])];exact k _ (by rw[AAP m])
       . rw[AAO (by simpa using m)];exact k _ (by rw[AAO m])
theorem oN (c:Int) (l:List Int) (j:l.length<4611686018427387904):∀(n i:Nat) (a:Int),i≤l.length->l.length<n+i->(∀(h:0<i) (p:i-1<l.length),a=l[i-1])->(i=0->a=0)->(0<i->1≤a)->
 Eo.AZ c l n (i:Int)=some (Gp c a (l.drop i))
 |0,i,a,h1,h2,_,_,_=>by omega
 |n+1,i,a,h1,h2,h3,h4,h5=>by
  unfold Eo.AZ Eo.L1;by_cases hi:i<l.length
  . have o:1≤l[i]->Eo.AZ c l n ((i+1:Nat):Int)=some (Gp c l[i] (l.drop (i+1))):=
     λm=>oN c l j n (i+1) l[i] (by omega) (by omega) (λ_ _=>rfl) (by omega) (λ_=>m)
    unfold Eo.J1;rw[A2 (by omega),B8 hi,AAF,Ej hi,Ai (by omega),Gp];by_cases d:l[i]<1
    . have:¬a<l[i]:=by
       by_cases b:i=0
       . rw[h4 b];omega
       . have:=h5 (by omega);omega
      simp[d,this]
    . rw[Ad d,o (by omega)];by_cases e:l[i]≥c
      . have:¬l[i]<c:=(by omega);simp[e,this]
      . have g:l[i]<c:=(by omega);rw[Ad e];by_cases b:i=0
        . have:a<l[i]:=(by rw[h4 b];omega);rw[Ad (by omega)];simp[this,g]
        . have k:=h3 (by omega) (by omega);rw[A2 (by omega),CC (by omega) (by omega),show(i:Int)-1=((i-1:Nat):Int)from by omega,B8 (by omega),AAF,← k];by_cases f:l[i]≤a
          . have:¬a<l[i]:=(by omega);simp[f,this]
          . have:a<l[i]:=(by omega);simp[f,this,g]
  . rw[Ad (by omega),Fe hi];rfl
theorem numbers_eq (c:Int) (l:List Int) (a:l.length<4611686018427387904):Eo l c=some (Gp c 0 l):=by have:=oN c l a Bg 0 0 (by omega) (by have:=Bn;omega) (by omega) (λ_=>rfl) (by omega);rw[AAe]at this;exact this
theorem value_eq (s:AB) (ev:AK) (p:s.Sync.AA.length≤1000) (k:ev.Kind=3->ED ev.Obj s.Cells.length=true) (t:ev.Kind=23->ED ev.Obj s.AH.length=true):G0 s ev=some (JG s ev):=by
 have o:=Zc s.Sync ev.Obj p;have h:=Vj ev.Obj s.Sync.AA 0;unfold G0 G0.J1 G0.J2 JG;rw[o,AAF,AAF];by_cases a:ev.Kind=3
 . rw[AAP (by simp[a]),Cd (k a),AAF,AAP a]
 . rw[AAO (by simpa using a),AAO a];by_cases b:ev.Kind=23
   . rw[AAP (by simp[b]),Cd (t b),AAF,AAP b]
   . rw[AAO (by simpa using b),AAO b];by_cases e:ev.Kind=5
     . rw[AAP (by simp[e]),AAP e];cases(ev.Value==0)<;>rfl
     . rw[AAO (by simpa using e),AAO e];by_cases i:ev.Kind=4
       . simp[i]
       . have n:(ev.Kind==4)=false:=(by simpa using i);rw[n];by_cases g:ev.Kind=22
         . simp[g]
         . have q:(ev.Kind==22)=false:=(by simpa using g);rw[q,AAO (c:=ev.Kind=4∨ev.Kind=22) (by simp[i,g])];simp only[AAQ,AAY];by_cases d:ev.Kind=18
           . rw[AAP (by simp[d]),AAP d];have j:=II ev.Obj s.Sync.AA 0;cases hWW:CD ev.Obj 0 s.Sync.AA with
             |nil=>simp
             |cons w r=>
              rw[hWW]at h j;unfold G0.J3;rw[AAO (by simp;omega),pK _ _ (by omega),AAF];cases hc:(w::r).contains ev.Value with
              |true=>have:=j ev.Value (by simpa using hc);rw[A2 (by omega),A2 (by omega)];rfl
              |false=>by_cases l:ev.Value≥0<;>by_cases m:ev.Value<(s.Sync.AA.length:Int)<;>simp[l,m]
           . rw[AAO (by simpa using d),AAO d];by_cases f:ev.Kind=19
             . rw[AAP (by simp[f]),AAP f]
             . rw[AAO (by simpa using f),AAO f]
theorem rStep_eq (wv:AD) (hw:Small wv) (s:AB) (hr:RB 1000000 s.Sync) (ev:AK) (he:OO ev):Dd wv s ev=some (Ud wv s ev):=by
  unfold Dd Ud JL;rw[gS wv hw,AAF];cases hf:Kl wv s with
  |false=>rfl
  |true=>
    rw[AAO (c:=(!true)=true) (by simp),uQ,AAF,AAd];cases ht:ED ev.Thread wv.AA.length with
    |false=>rfl
    |true=>
      rw[AAO (c:=(!true)=true) (by simp),AAd];obtain⟨hfs,c1,c2,c3⟩:=Lc hf;have hw1:=hw.c;have hw2:=hw.f;have hw3:=hw.t;have hfi:=T9.of hw hfs hr;have hEn:=Pn wv hw s.Sync (hr.mono (by omega)) ev.Thread ev.Obj ev.Kind;cases Xt:Da wv s.Sync ev.Thread ev.Kind ev.Obj with
      |false=>
        rw[Bool.false_and,AAO (c:=false=true) (by simp)];by_cases a1:ev.Kind<1
        . rw[A2 a1];rfl
        . rw[Ad a1];by_cases a2:ev.Kind>23
          . rw[A2 a2];rfl
          . rw[Ad a2,hEn,Xt];rfl
      |true=>
        have hen':=Xt;unfold Da at hen';simp only[AAH]at hen';obtain⟨_,_,ha,_⟩:=hen';obtain⟨k1,k2⟩:=VU ha;have hc:gt s.Count ev.Thread=some (ix s.Count ev.Thread):=Cd (by rw[c3];exact ht);have Uo:ev.Kind=3∨ev.Kind=4->ED ev.Obj wv.Cells.length=true:=(by rintro(h|h)<;>simpa(decide:=true) [Cm,h]using ha);have nX:ev.Kind=22∨ev.Kind=23->ED ev.Obj wv.AH.length=true:=(by rintro(h|h)<;>simpa(decide:=true) [Cm,h]using ha);rw[Ad (by omega),Ad (by omega),hEn,Xt,AAF,AAd];unfold Dd.J1;rw[AAO (c:=(!true)=true) (by simp)]
        -- the last part
        have hJ9:∀wake,wake=(if ev.Kind=18 then ev.Value else -1)->Dd.J9 ev s wv wake=some (Fu wv s ev,true):=by
          rintro wake rfl;unfold Dd.J9;rw[Ms wv hw s.Sync hr,AAF];unfold K4;rw[Xt,AAP rfl];unfold Dd.RX Dd.fV Fu;simp only[hc,AAF];by_cases k4:ev.Kind=4
          . rw[AAP (by simp[k4]),Cd (by rw[c1];exact Uo (.inr k4)),AAF];simp[k4]
          . rw[AAO (c:=(ev.Kind==4)=true) (by simpa using k4)];by_cases T8:ev.Kind=22
            . rw[AAP (by simp[T8]),Cd (by rw[c2];exact nX (.inl T8)),AAF];simp[T8]
            . rw[AAO (c:=(ev.Kind==22)=true) (by simpa using T8)];simp[k4,T8]
        have hJ8:∀b,Dd.J8 ev s wv b=if b=true then some (Qq,false)else some (Fu wv s ev,true):=by
          intro b;unfold Dd.J8;cases b with
          |true=>rfl
          |false=>
            rw[AAO (c:=false=true) (by simp),BO (by omega),BO (by omega),BO (by omega),AAO (c:=false=true) (by simp)];by_cases Ur:ev.Kind=18
            . rw[AAP (by simp[Ur])];exact hJ9 _ (by rw[AAP Ur])
            . rw[AAO (by simpa using Ur)];exact hJ9 _ (by rw[AAO Ur])
        have hJ7:∀b,Dd.J7 ev s wv b=if(!b&&(Gp (ix s.Count ev.Thread) 0 ev.EI&&(Gp (ix s.Count ev.Thread) 0 ev.Dr&&JG s ev)))=true then some (Fu wv s ev,true)else some (Qq,false):=by intro b;unfold Dd.J7;rw[hc,AAF,numbers_eq _ _ he.1,AAF,numbers_eq _ _ he.2,AAF,value_eq s ev hfi.t (λh=>by rw[c1];exact Uo (.inl h)) (λh=>by rw[c2];exact nX (.inr h)),AAF];simp only[hJ8];cases b<;>cases Gp (ix s.Count ev.Thread) 0 ev.EI<;>cases Gp (ix s.Count ev.Thread) 0 ev.Dr<;>cases JG s ev<;>rfl
        have hJ6:∀b,Dd.J6 ev s wv b=if(!b&&((ev.Dr.isEmpty||(ev.Kind==4||ev.Kind==22))&&(Gp (ix s.Count ev.Thread) 0 ev.EI&&(Gp (ix s.Count ev.Thread) 0 ev.Dr&&JG s ev))))=true then some (Fu wv s ev,true)else some (Qq,false):=by
          intro b;unfold Dd.J6;simp only[hJ7];cases b with
          |true=>rfl
          |false=>
            cases hF:ev.Dr with
            |nil=>simp
            |cons x r=>
              rw[A2 (by simp only[AAx];omega)];by_cases k4:ev.Kind=4
              . simp[k4]
              . by_cases T8:ev.Kind=22
                . simp[T8]
                . simp[k4,T8]
        have hJ5:∀b,b=(ev.Kind==3||ev.Kind==4)->Dd.J5 ev s wv b=if((ev.EI.isEmpty||(ev.Kind==5||Rp wv ev))&&((ev.Dr.isEmpty||(ev.Kind==4||ev.Kind==22))&&(Gp (ix s.Count ev.Thread) 0 ev.EI&&(Gp (ix s.Count ev.Thread) 0 ev.Dr&&JG s ev))))=true then some (Fu wv s ev,true)else some (Qq,false):=by
          rintro b rfl;unfold Dd.J5;simp only[hJ6];cases hD:ev.EI with
          |nil=>simp
          |cons x r=>
            rw[A2 (by simp only[AAx];omega)];by_cases k5:ev.Kind=5
            . simp[k5]
            . by_cases k3:ev.Kind=3
              . have hg:=Cd (l:=wv.Cells) (Uo (.inl k3));simp[k3,hg,Rp]
              . by_cases k4:ev.Kind=4
                . have hg:=Cd (l:=wv.Cells) (Uo (.inr k4));simp[k4,hg,Rp]
                . simp[k5,k3,k4,Rp]
        have hJ4:Dd.J4 ev s wv=if(FE wv s ev&&JG s ev)=true then some (Fu wv s ev,true)else some (Qq,false):=by
          have e:(FE wv s ev&&JG s ev)=((ev.EI.isEmpty||(ev.Kind==5||Rp wv ev))&&((ev.Dr.isEmpty||(ev.Kind==4||ev.Kind==22))&&(Gp (ix s.Count ev.Thread) 0 ev.EI&&(Gp (ix s.Count ev.Thread) 0 ev.Dr&&JG s ev)))):=(by unfold FE;generalize (ev.EI.isEmpty||(ev.Kind==5||Rp wv ev))=p;generalize (ev.Dr.isEmpty||(ev.Kind==4||ev.Kind==22))=q;cases p<;>cases q<;>cases Gp (ix s.Count ev.Thread) 0 ev.EI<;>cases Gp (ix s.Count ev.Thread) 0 ev.Dr<;>rfl);rw[e];unfold Dd.J4;by_cases k3:ev.Kind=3
          . rw[AAP (c:=(ev.Kind==3)=true) (by simp[k3])];exact hJ5 _ (by simp[k3])
          . rw[AAO (c:=(ev.Kind==3)=true) (by simpa using k3)];exact hJ5 _ (by have:(ev.Kind==3)=false:=(by simpa using k3);simp[this])
        have hJ2:∀b,b=(ev.Kind==1||ev.Kind==2)->Dd.J2 ev s wv b=if(NT wv ev&&(FE wv s ev&&JG s ev))=true then some (Fu wv s ev,true)else some (Qq,false):=by
          rintro b rfl;unfold Dd.J2 Dd.J3 NT;rw[hJ4,uQ,AAF];generalize (FE wv s ev&&JG s ev)=q;by_cases k:ev.Kind=1∨ev.Kind=2
          . have:(ev.Kind==1||ev.Kind==2)=true:=(by simpa using k);rw[this,AAP rfl,AAP k];by_cases hs:ev.Site= -1
            . simp[hs]
            . simp[hs];rfl
          . have:(ev.Kind==1||ev.Kind==2)=false:=(by simpa using k);rw[this,AAO (c:=false=true) (by simp),AAO k];cases hi:ED ev.Site wv.BL.length with
            |false=>rfl
            |true=>
              rw[AAO (c:=(!true)=true) (by simp),Cd hi,AAF];by_cases hs:(ix wv.BL ev.Site).Thread=ev.Thread
              . simp[hs]
              . simp[hs];rfl
        have hfin:∀q:Bool,(if q=true then some (Fu wv s ev,true)else some (Qq,false))=some (if q=true then(Fu wv s ev,true)else(Qq,false)):=λq=>by cases q<;>rfl
        rw[← hfin];by_cases k:ev.Kind=1
        . rw[AAP (c:=(ev.Kind==1)=true) (by simp[k])];exact hJ2 _ (by simp[k])
        . have e:(ev.Kind==1)=false:=(by simpa using k);rw[AAO (c:=(ev.Kind==1)=true) (by simpa using k)];exact hJ2 _ (by simp[e])
end Go.Abs
