/- What the typed programs give, in plain Lean. -/
import Derived.Test.YtdadohkcmclilaaGreatDoorWalkL
import Derived.Lib.SlicesCompact
import Derived.Shelf.Slices.SearchI
set_option linter.unusedSimpArgs false
set_option linter.unusedVariables false
namespace Go.Abs
theorem DR {n:Int} (h: -9223372036854775808≤n) (h2:n<9223372036854775808):Ap n=n:=by simp only[Ap,IntKind.wrap,IntKind.bits,IntKind.signed];simp;omega
theorem Ao {i:Nat} (h:i<9223372036854775807):Ap ((i:Int)+1)=((i+1:Nat):Int):=by rw[DR (by omega) (by omega)];rfl
theorem LG {α:Type} (l:List α) (i:Nat):gt l (i:Int)=l[i]? :=by simp[gt]
theorem CU {α:Type} {l:List α} {i:Nat} (h:i<l.length):gt l (i:Int)=some l[i]:=by rw[LG];simp[h]
def Ee (i:Int) (n:Nat):Bool:=decide (0≤i)&&decide (i<(n:Int))
def ix {α:Type} [Inhabited α] (l:List α) (i:Int):α:=(l[i.toNat]?).getD default
theorem B9 {i:Int} {n:Nat}:Ee i n=true↔0≤i/\i<n:=by simp[Ee]
theorem Cd {α:Type} [Inhabited α] {l:List α} {i:Int} (h:Ee i l.length=true):gt l i=some (ix l i):=by
 obtain⟨h0,h1⟩:=B9.1 h
 have:i.toNat<l.length:=by omega
 simp[gt,ix,h0,this]
theorem sA {α:Type} [Inhabited α] {l:List α} {i:Nat} (h:i<l.length):ix l (i:Int)=l[i]:=by simp[ix,h]
theorem DK {n b:Nat} (h:n*b≤70368744177664):Al n b=true:=by simp[Al,h]
theorem BL {α:Type} {n b:Nat} {x y:α} (h:n*b≤70368744177664):(if Al n b=true then x else y)=x:=AAY (DK h)
theorem BC {α:Type} {p:Prop} [Decidable p] {x y:α} (h:p):(if decide p=true then x else y)=x:=by rw[AAY (by simpa using h)]
theorem Ac {α:Type} {p:Prop} [Decidable p] {x y:α} (h:¬p):(if decide p=true then x else y)=y:=by rw[AAX (by simpa using h)]
theorem E6 {α:Type} {l:List α} {i:Nat} (h:i<l.length):l.drop i=l[i]::l.drop (i+1):=ABH h
theorem GM {α:Type} {l:List α} {i:Nat} (h:¬i<l.length):l.drop i=[]:=List.drop_eq_nil_of_le (by omega)
theorem B1:BT=18446744073709551616:=rfl
theorem kinds {P:Int->Prop} (h1:P 1) (h2:P 2) (h3:P 3) (h4:P 4) (h5:P 5) (h6:P 6) (h7:P 7) (h8:P 8) (h9:P 9) (h10:P 10) (h11:P 11) (h12:P 12) (h13:P 13) (h14:P 14) (h15:P 15) (h16:P 16) (h17:P 17) (h18:P 18) (h19:P 19) (h20:P 20) (h21:P 21) (h22:P 22) (h23:P 23)
 (ho:∀k,k≠1->k≠2->k≠3->k≠4->k≠5->k≠6->k≠7->k≠8->k≠9->k≠10->k≠11->k≠12->k≠13->k≠14->k≠15->k≠16->k≠17->k≠18->k≠19->k≠20->k≠21->k≠22->k≠23->P k) (k:Int):P k:=by
 by_cases e1:k=1;· exact e1▸h1
 by_cases e2:k=2;· exact e2▸h2
 by_cases e3:k=3;· exact e3▸h3
 by_cases e4:k=4;· exact e4▸h4
 by_cases e5:k=5;· exact e5▸h5
 by_cases e6:k=6;· exact e6▸h6
 by_cases e7:k=7;· exact e7▸h7
 by_cases e8:k=8;· exact e8▸h8
 by_cases e9:k=9;· exact e9▸h9
 by_cases rL:k=10;· exact rL▸h10
 by_cases rM:k=11;· exact rM▸h11
 by_cases fU:k=12;· exact fU▸h12
 by_cases rN:k=13;· exact rN▸h13
 by_cases rO:k=14;· exact rO▸h14
 by_cases rP:k=15;· exact rP▸h15
 by_cases dN:k=16;· exact dN▸h16
 by_cases rQ:k=17;· exact rQ▸h17
 by_cases rR:k=18;· exact rR▸h18
 by_cases rS:k=19;· exact rS▸h19
 by_cases aT:k=20;· exact aT▸h20
 by_cases rT:k=21;· exact rT▸h21
 by_cases fV:k=22;· exact fV▸h22
 by_cases rU:k=23;· exact rU▸h23
 exact ho k e1 e2 e3 e4 e5 e6 e7 e8 e9 rL rM fU rN rO rP dN rQ rR rS aT rT fV rU
theorem Y9 {a b:List Int} (ha:a.Pairwise (· < ·)) (hb:b.Pairwise (· < ·)) (h:∀x,x∈a↔x∈b):a=b:=by
 induction a generalizing b with
 |nil=>
  cases b with
  |nil=>rfl
  |cons y b=>have:=(h y).2 (by simp);simp at this
 |cons x a ih=>
  cases b with
  |nil=>have:=(h x).1 (by simp);simp at this
  |cons y b=>
   rw[List.pairwise_cons]at ha hb
   have hxy:x=y:=by
    have h1:=(h x).1 (by simp)
    have h2:=(h y).2 (by simp)
    rcases AAp.1 h1 with e|h1
    . exact e
    . rcases AAp.1 h2 with e|h2
      . exact e.symm
      . have:=hb.1 x h1;have:=ha.1 y h2;omega
   subst hxy
   congr 1
   refine ih ha.2 hb.2 λz=> ?_
   have hz:=h z
   simp only[AAp]at hz
   constructor
   . intro hm
     have:=ha.1 z hm
     rcases hz.1 (.inr hm)with e|e
     . omega
     . exact e
   . intro hm
     have:=hb.1 z hm
     rcases hz.2 (.inr hm)with e|e
     . omega
     . exact e
theorem QW (d:Array Int) (hd:∀i j,i≤j->j<d.size->d[i]! ≤d[j]!):∀m,m≤d.size->(∀x,x∈Lib.compactUpTo d m↔∃i,i<m/\d[i]! =x)/\(Lib.compactUpTo d m).Pairwise (· < ·):=by
 intro m
 induction m with
 |zero=>intro _;exact⟨λx=>by simp[Lib.compactUpTo],by simp[Lib.compactUpTo]⟩
 |succ m ih=>
  intro hm
  obtain⟨h1,h2⟩:=ih (by omega)
  rw[Lib.compactUpTo_succ]
  by_cases hk:Lib.keeps d m=true
  . rw[AAY hk]
    refine⟨λx=> ?_,?_⟩
    . rw[AAj,h1 x,AA4]
      constructor
      . rintro(⟨i,hi,e⟩|e)
        . exact⟨i,by omega,e⟩
        . exact⟨m,by omega,e.symm⟩
      . rintro⟨i,hi,e⟩
        by_cases him:i=m
        . exact .inr (by rw[← e,him])
        . exact .inl ⟨i,by omega,e⟩
    . rw[List.pairwise_append]
      refine⟨h2,by simp,λx hx y hy=> ?_⟩
      rw[AA4]at hy
      subst hy
      obtain⟨i,hi,e⟩:=(h1 x).1 hx
      have Xh:m=0∨d[m]! ≠d[m-1]! :=by simpa[Lib.keeps]using hk
      have h3:=hd i (m-1) (by omega) (by omega)
      have h4:=hd (m-1) m (by omega) (by omega)
      rcases Xh with h5|h5
      . omega
      . rw[← e];omega
  . rw[AAX hk,ABf]
    refine⟨λx=> ?_,h2⟩
    have Xh:¬(m=0∨d[m]! ≠d[m-1]!):=by simpa[Lib.keeps]using hk
    rw[not_or]at Xh
    have he:d[m]! =d[m-1]! :=by have:=Xh.2;simpa using this
    rw[h1 x]
    constructor
    . rintro⟨i,hi,e⟩;exact⟨i,by omega,e⟩
    . rintro⟨i,hi,e⟩
      by_cases him:i=m
      . exact⟨m-1,by omega,by rw[← he,← him,e]⟩
      . exact⟨i,by omega,e⟩
def QH (l:List Int):List Int:=l.mergeSort λx y=>decide (x≤y)
def UE (l:List Int):List Int:=Lib.compact (QH l)
theorem Rw (l:List Int):(QH l).length=l.length:=by simp[QH]
theorem pW (l:List Int) (x:Int):x∈QH l↔x∈l:=by simp[QH]
theorem Rx (l:List Int):(QH l).Pairwise (· ≤ ·):=by
 have:=List.pairwise_mergeSort (le:=λx y:Int=>decide (x≤y)) (by simp;omega) (by simp;omega) l
 simpa[QH]using this
theorem P8 (l:List Int) (h:l.Pairwise (· ≤ ·)):(∀x,x∈Lib.compact l↔x∈l)/\(Lib.compact l).Pairwise (· < ·):=by
 have hd:∀i j,i≤j->j<l.toArray.size->l.toArray[i]! ≤l.toArray[j]! :=by
  intro i j IV hj
  have wW:j<l.length:=by simpa using hj
  rcases Nat.lt_or_eq_of_le IV with h1|rfl
  . have:=List.pairwise_iff_getElem.1 h i j (by omega) wW h1
    rw[getElem!_pos l.toArray i (by simp;omega),getElem!_pos l.toArray j (by simpa using wW)]
    simpa using this
  . exact Int.le_refl _
 obtain⟨h1,h2⟩:=QW l.toArray hd l.length (by simp)
 refine⟨λx=> ?_,h2⟩
 show x∈Lib.compactUpTo l.toArray l.length↔_
 rw[h1 x,List.mem_iff_getElem]
 constructor
 . rintro⟨i,hi,e⟩
   rw[getElem!_pos l.toArray i (by simpa using hi)]at e
   exact⟨i,hi,by simpa using e⟩
 . rintro⟨i,hi,e⟩
   exact⟨i,hi,by rw[getElem!_pos l.toArray i (by simpa using hi)];simpa using e⟩
theorem fR (l:List Int):(Lib.compact l).length≤l.length:=by
 unfold Lib.compact Lib.compactUpTo
 rw[AAo]
 exact ABO (List.length_filter_le _ _) (by simp)
theorem Pb (l:List Int) (x:Int):x∈UE l↔x∈l:=by
 unfold UE;rw[(P8 _ (Rx l)).1,pW]
theorem NK (l:List Int):(UE l).Pairwise (· < ·):=(P8 _ (Rx l)).2
theorem ZZ (l:List Int):(UE l).length≤l.length:=by
 have:=fR (QH l);rw[Rw]at this;exact this
def GU (out:List Int) (x:Int):Nat:=(out.takeWhile λy=>decide (y<x)).length
def ins (out:List Int) (x:Int):List Int:=if out[GU out x]? =some x then out else out.take (GU out x)++x::out.drop (GU out x)
theorem YW (out:List Int) (x:Int) (i:Nat) (hi:i≤out.length) (h1:∀(k:Nat) (hk:k<out.length),k<i->out[k]<x) (h2:∀(hl:i<out.length),¬out[i]<x):GU out x=i:=by
 unfold GU
 induction out generalizing i with
 |nil=>simp at hi;simp[hi]
 |cons y out ih=>
  by_cases hy:y<x
  . cases i with
    |zero=>exact absurd hy (h2 (by simp))
    |succ i=>
     rw[List.takeWhile_cons_of_pos (by simpa using hy),AA7]
     rw[ih i (by simpa using hi) (λk hk hki=>by have:=h1 (k+1) (by simpa using hk) (by omega);simpa using this) (λhl=>by have:=h2 (by simpa using hl);simpa using this)]
  . cases i with
    |zero=>rw[List.takeWhile_cons_of_neg (by simpa using hy)];rfl
    |succ i=>have:=h1 0 (by simp) (by omega);simp at this;exact absurd this hy
theorem V5 (out:List Int) (x:Int):(ins out x).length≤out.length+1:=by
 unfold ins;split
 . omega
 . simp;omega
def xQ (l:List Int):List Int:=l.foldl ins []
theorem o4 (out:List Int) (x:Int) (h:out.Pairwise (· < ·)):(ins out x).Pairwise (· < ·)/\∀z,z∈ins out x↔z∈out∨z=x:=by
 have key:∀(out:List Int),out.Pairwise (· < ·)->(∀(k:Nat) (hk:k<out.length),k<GU out x->out[k]<x)/\(∀(k:Nat) (hk:k<out.length),GU out x≤k->x≤out[k])/\GU out x≤out.length:=by
  intro out
  induction out with
  |nil=>intro _;simp[GU]
  |cons y out ih=>
   intro hp
   rw[List.pairwise_cons]at hp
   obtain⟨g1,g2,g3⟩:=ih hp.2
   by_cases hy:y<x
   . have e:GU (y::out) x=GU out x+1:=by unfold GU;rw[List.takeWhile_cons_of_pos (by simpa using hy)];rfl
     rw[e]
     refine⟨λk hk hki=> ?_,λk hk hki=> ?_,by simp;omega⟩
     . cases k with
       |zero=>simpa using hy
       |succ k=>have:=g1 k (by simpa using hk) (by omega);simpa using this
     . cases k with
       |zero=>omega
       |succ k=>have:=g2 k (by simpa using hk) (by omega);simpa using this
   . have e:GU (y::out) x=0:=by unfold GU;rw[List.takeWhile_cons_of_neg (by simpa using hy)];rfl
     rw[e]
     refine⟨λk hk hki=>by omega,λk hk _=> ?_,by simp⟩
     cases k with
     |zero=>simp;omega
     |succ k=>
      have Xh:k<out.length:=by simpa using hk
      have:=hp.1 out[k] (AAi Xh)
      simp;omega
 obtain⟨g1,g2,g3⟩:=key out h
 unfold ins
 split
 . rename_i he
   obtain⟨hl,he⟩:=AAQ.1 he
   refine⟨h,λz=>⟨.inl,?_⟩⟩
   rintro(hz|rfl)
   . exact hz
   . rw[← he];exact AAi hl
 . rename_i he
   have htd:out=out.take (GU out x)++out.drop (GU out x):=(List.take_append_drop _ _).symm
   refine⟨?_,λz=> ?_⟩
   . rw[List.pairwise_append,List.pairwise_cons]
     refine⟨h.sublist (List.take_sublist _ _),⟨λz hz=> ?_,h.sublist (List.drop_sublist _ _)⟩,λy hy z hz=> ?_⟩
     . obtain⟨k,hk,rfl⟩:=List.mem_iff_getElem.1 hz
       rw[List.getElem_drop]
       rw[List.length_drop]at hk
       have h1:=g2 (GU out x+k) (by omega) (by omega)
       by_cases aZ:k=0
       . subst aZ
         have:out[GU out x+0]≠x:=λe=>he (by rw[AAT (by omega)];simpa using e)
         omega
       . have h2:=g2 (GU out x) (by omega) (by omega)
         have h3:=List.pairwise_iff_getElem.1 h (GU out x) (GU out x+k) (by omega) (by omega) (by omega)
         omega
     . obtain⟨k,hk,rfl⟩:=List.mem_iff_getElem.1 hy
       rw[List.getElem_take]
       rw[List.length_take]at hk
       have h1:=g1 k (by omega) (by omega)
       rcases AAp.1 hz with rfl|hz
       . exact h1
       . obtain⟨k',Xh,rfl⟩:=List.mem_iff_getElem.1 hz
         rw[List.getElem_drop]
         rw[List.length_drop]at Xh
         have h2:=g2 (GU out x+k') (by omega) (by omega)
         omega
   . rw[AAj,AAp]
     constructor
     . rintro(hz|rfl|hz)
       . exact .inl (ABc hz)
       . exact .inr rfl
       . exact .inl (List.mem_of_mem_drop hz)
     . rintro(hz|rfl)
       . rw[htd,AAj]at hz
         exact hz.imp id .inr
       . exact .inr (.inl rfl)
theorem o0 (l:List Int):xQ l=UE l:=by
 have key:∀(l acc:List Int),acc.Pairwise (· < ·)->(l.foldl ins acc).Pairwise (· < ·)/\∀z,z∈l.foldl ins acc↔z∈acc∨z∈l:=by
  intro l
  induction l with
  |nil=>intro acc h;exact⟨h,by simp⟩
  |cons x l ih=>
   intro acc h
   obtain⟨h1,h2⟩:=o4 acc x h
   obtain⟨h3,h4⟩:=ih (ins acc x) h1
   refine⟨h3,λz=> ?_⟩
   rw[List.foldl_cons,h4 z,h2 z,AAp]
   constructor
   . rintro((h|h)|h)
     . exact .inl h
     . exact .inr (.inl h)
     . exact .inr (.inr h)
   . rintro(h|h|h)
     . exact .inl (.inl h)
     . exact .inl (.inr h)
     . exact .inr h
 obtain⟨h1,h2⟩:=key l [] (by simp)
 exact Y9 h1 (NK l) λz=>by rw[Pb];have:=h2 z;simpa[xQ]using this
def HN (c:Int):Bool:=(decide (97≤c)&&decide (c≤122))||(decide (65≤c)&&decide (c≤90))
def Lv (c:Int):Bool:=HN c||((decide (48≤c)&&decide (c≤57))||c==95)
def Im (s:ABq) (i:Nat):Int:=((s.get! i).toNat:Int)
def NZ (s:ABq) (i:Nat):Bool:=HN (Im s i)||(decide (0<i)&&((decide (48≤Im s i)&&decide (Im s i≤57))||Im s i==95))
theorem Y4 (s:ABq) (i:Nat) (h:(s.get! i).toNat<128):Utf8.decode s i=((s.get! i).toNat,1):=by
 unfold Utf8.decode;simp[h]
theorem fT (s:ABq) (i:Nat) (h:¬(s.get! i).toNat<128):128≤(Utf8.decode s i).1:=by
 unfold Utf8.decode
 simp only[Nat.add_zero,h,AAe]
 have hr:128≤Utf8.runeError:=by decide
 split
 . split
   . assumption
   . exact hr
 . split
   . split
     . rename_i hx;simp only[AAP,AAf]at hx;exact ABO (by decide) hx.1
     . exact hr
   . split
     . split
       . rename_i hx;simp only[AAP,AAf]at hx;exact ABO (by decide) hx.1
       . exact hr
     . exact hr
def kM (c:Int) (pos:Nat):Bool:=HN c||(decide (0<pos)&&((decide (48≤c)&&decide (c≤57))||c==95))
theorem Sx (s:ABq) (L:Nat->ABp Bool) (pos:Nat) (hp:pos<s.size):
 CL.L1 s L pos=if kM ((Utf8.decode s pos).1:Int) pos=true then L (pos+(Utf8.decode s pos).2)else some false:=by
 unfold CL.L1
 rw[BC hp]
 unfold CL.J2 CL.J3 kM HN
 generalize ((Utf8.decode s pos).1:Int)=c
 have e:decide ((pos:Int)>0)=decide (0<pos):=by simp
 rw[e]
 generalize decide (97≤c)=b1
 generalize decide (c≤122)=b2
 generalize decide (65≤c)=b3
 generalize decide (c≤90)=b4
 generalize decide (48≤c)=b5
 generalize decide (c≤57)=b6
 generalize decide (0<pos)=b7
 generalize (c==95)=b8
 cases b1<;>cases b2<;>cases b3<;>cases b4<;>cases b5<;>cases b6<;>cases b7<;>cases b8<;>rfl
theorem Ln (s:ABq):∀(n pos:Nat),pos≤s.size->s.size<n+pos->CL.Aa s n pos=some ((List.range' pos (s.size-pos)).all (NZ s))
 |0,pos,h1,h2=>by omega
 |n+1,pos,h1,h2=>by
  unfold CL.Aa
  by_cases hp:pos<s.size
  . rw[Sx s _ pos hp]
    have hR:List.range' pos (s.size-pos)=pos::List.range' (pos+1) (s.size-(pos+1)):=by
     rw[show s.size-pos=(s.size-(pos+1))+1 from by omega,ABo]
    rw[hR,ABF]
    by_cases hb:(s.get! pos).toNat<128
    . rw[Y4 s pos hb,Ln s n (pos+1) (by omega) (by omega)]
      show(if NZ s pos=true then _ else _)=_
      cases NZ s pos<;>simp
    . have wG:=fT s pos hb
      have hg:NZ s pos=false:=by
       unfold NZ HN Im;simp;omega
      have hc:kM ((Utf8.decode s pos).1:Int) pos=false:=by
       unfold kM HN;simp;omega
      rw[hg,hc,Bool.false_and];rfl
  . unfold CL.L1
    rw[Ac hp]
    have:s.size-pos=0:=by omega
    simp[CL.J4,this]
theorem lV {s:ABq} {i:Nat} (h:i<s.size):sgt s (i:Int)=some (s.get! i):=by
 unfold sgt
 rw[AAY (by omega)]
 simp only[ABE]
 rw[getElem?_pos s i h]
 congr 1
 have e:s.get! i=s[i]:=by
  simp[ByteArray.get!,getElem!_pos,h]
  rfl
 exact e.symm
theorem Nc (c:Int):FC c=some (HN c):=by
 unfold FC FC.J1 HN
 simp only[ge_iff_le]
 generalize decide (97≤c)=b1
 generalize decide (c≤122)=b2
 generalize decide (65≤c)=b3
 generalize decide (c≤90)=b4
 cases b1<;>cases b2<;>cases b3<;>cases b4<;>rfl
theorem WY (c:Int):Ge c=some (Lv c):=by
 unfold Ge HI
 rw[Nc,AAO]
 unfold Ge.J1 HI.J1 Lv
 simp only[ge_iff_le]
 generalize HN c=b1
 generalize decide (48≤c)=b5
 generalize decide (c≤57)=b6
 generalize (c==95)=b8
 cases b1<;>cases b5<;>cases b6<;>cases b8<;>rfl
theorem Lg (s:ABq) (hs:s.size≤12):∀(n i:Nat),i≤s.size->s.size<n+i->Bp.Aa s n i=some ((List.range' i (s.size-i)).all λk=>Lv (Im s k))
 |0,pos,h1,h2=>by omega
 |n+1,i,h1,h2=>by
  unfold Bp.Aa Bp.L1
  by_cases hp:i<s.size
  . rw[BC (by omega),lV hp,AAO,WY,AAO,Ao (by omega),Lg s hs n (i+1) (by omega) (by omega)]
    have hR:List.range' i (s.size-i)=i::List.range' (i+1) (s.size-(i+1)):=by
     rw[show s.size-i=(s.size-(i+1))+1 from by omega,ABo]
    rw[hR,ABF]
    show(if(!(Lv (Im s i)))=true then _ else _)=_
    cases Lv (Im s i)<;>simp
  . rw[Ac (by omega)]
    have:s.size-i=0:=by omega
    simp[Bp.J2,this]
theorem OY (s:ABq):∀(n i:Nat),i≤22->22<n+i->DI.Aa s n i=some ((Kg.drop i).any λx=>s.toList==x.toList)
 |0,pos,h1,h2=>by omega
 |n+1,i,h1,h2=>by
  have hl:Kg.length=22:=rfl
  unfold DI.Aa DI.L1
  by_cases hp:i<22
  . have xH:i<Kg.length:=by omega
    rw[BC (by omega),AAY (by omega),CU xH,AAO,Ao (by omega),OY s n (i+1) (by omega) (by omega),E6 xH,List.any_cons]
    cases(s.toList==Kg[i].toList)<;>simp
  . rw[Ac (by omega)]
    have:Kg.drop i=[]:=List.drop_eq_nil_of_le (by omega)
    simp[DI.J1,this]
def o6 (s:ABq):Bool:=Kg.any λx=>s.toList==x.toList
theorem Q7 (s:ABq):DI s=some (o6 s):=OY s BT 0 (by omega) (by decide)
theorem SO:JV=some Kg:=rfl
theorem KR (s:ABq) (v:List ABq) (hv:v.length≤100):∀(n i:Nat),i≤v.length->v.length<n+i->Ce.Aa s v n i=some ((v.drop i).any λx=>x.toList==s.toList)
 |0,pos,h1,h2=>by omega
 |n+1,i,h1,h2=>by
  unfold Ce.Aa Ce.L1
  by_cases hp:i<v.length
  . rw[BC (by omega),CU hp,AAO,Ao (by omega),KR s v hv n (i+1) (by omega) (by omega),E6 hp,List.any_cons]
    cases(v[i].toList==s.toList)<;>simp
  . rw[Ac (by omega)]
    have:v.drop i=[]:=List.drop_eq_nil_of_le (by omega)
    simp[Ce.J1,this]
theorem Qq (s:ABq):Ce s=some (o6 s):=by
 unfold Ce
 rw[SO,AAO]
 refine(KR s Kg (by decide) BT 0 (by omega) (by decide)).trans ?_
 rw[AAq]
 congr 1
 unfold o6
 congr 1
 funext x
 exact Bool.beq_comm
def Oh (s:ABq):Bool:=decide (1≤s.size)&&decide (s.size≤12)&& !o6 s&&(List.range' 0 s.size).all (NZ s)
theorem Ut (s:ABq):CL s=some (Oh s):=by
 unfold CL
 by_cases h1:s.size<1
 . rw[BC (by omega)]
   simp[CL.J1,Oh];omega
 . rw[Ac (by omega)]
   by_cases h2:s.size>12
   . rw[BC (by omega)]
     simp[CL.J1,Oh];omega
   . rw[Ac (by omega),Q7,AAO]
     unfold CL.J1
     rw[Ln s BT 0 (by omega) (by have:BT=18446744073709551616:=rfl;omega)]
     have a1:1≤s.size:=by omega
     have a2:s.size≤12:=by omega
     simp only[Oh,a1,a2,decide_true,AA0,Nat.sub_zero]
     cases o6 s<;>simp
theorem gU (s:ABq) (h:0<s.size):(HN (Im s 0)&&(List.range' 0 s.size).all λk=>Lv (Im s k))=(List.range' 0 s.size).all (NZ s):=by
 have hR:List.range' 0 s.size=0::List.range' 1 (s.size-1):=by
  rw[show s.size=(s.size-1)+1 from by omega,ABo];simp
 rw[hR,ABF,ABF]
 have h0:NZ s 0=HN (Im s 0):=by simp[NZ]
 have h1:Lv (Im s 0)=(HN (Im s 0)||((decide (48≤Im s 0)&&decide (Im s 0≤57))||Im s 0==95)):=rfl
 have h2:(List.range' 1 (s.size-1)).all (NZ s)=(List.range' 1 (s.size-1)).all λk=>Lv (Im s k):=by
  rw[Bool.eq_iff_iff,AAU,AAU]
  have e:∀k∈List.range' 1 (s.size-1),NZ s k=Lv (Im s k):=λk hk=>by
   have:0<k:=by have:=List.mem_range'_1.1 hk;omega
   simp[NZ,Lv,this]
  exact⟨λh k hk=>e k hk▸h k hk,λh k hk=>(e k hk).symm▸h k hk⟩
 rw[h0,h1,h2]
 cases HN (Im s 0)<;>simp
theorem QP (s:ABq):Bp s=some (Oh s):=by
 unfold Bp
 by_cases h1:s.size<1
 . rw[BC (by omega)]
   simp[Bp.J1,Oh];omega
 . rw[Ac (by omega)]
   by_cases h2:s.size>12
   . rw[BC (by omega)]
     simp[Bp.J1,Oh];omega
   . rw[Ac (by omega),show(0:Int)=((0:Nat):Int)from rfl,lV (by omega),AAO,Nc,AAO,Qq,AAO]
     unfold Bp.J1
     rw[show(0:Int)=((0:Nat):Int)from rfl,Lg s (by omega) BT 0 (by omega) (by have:BT=18446744073709551616:=rfl;omega)]
     have a1:1≤s.size:=by omega
     have a2:s.size≤12:=by omega
     simp only[Oh,a1,a2,decide_true,AA0,Nat.sub_zero]
     rw[← gU s (by omega)]
     show(if(!HN (Im s 0))=true then _ else _)=_
     cases o6 s<;>cases HN (Im s 0)<;>simp
instance:Inhabited Ic:=⟨⟨⟨#[]⟩,false⟩⟩
theorem ba_beq (a b:ABq):(a==b)=(a.data==b.data):=by cases a;cases b;rfl
theorem nH (a b:ABq):(a.toList==b.toList)=(a==b):=by
 rw[ba_beq,Bool.eq_iff_iff,AAd,AAd,ByteArray.toList_eq,ByteArray.toList_eq];exact Array.toList_inj
theorem Tq (wv:AD) (L1:List ABq->Int->ABp (List ABq×Bool)) (L1':List ABq->Int->ABp (List ABq×Bool)) (F:List ABq×Bool->ABp (List ABq×Bool))
 (hF:F ([],false)=some ([],false)) (hL:∀a b,L1 a b=(L1' a b).bind F) (i:Int) (l:List ABq) (x:DB):
 ∀(m:Nat) (k:Int) (want:DB),want.Name=x.Name->want.B0=x.B0->want.Fv=false->want.Init=x.Init->
  BI.C2 L1 i l wv x m k=(AR.C2 L1' i wv.Cells l x m want k).bind F
 |0,k,want,_,_,_,_=>rfl
 |m+1,k,want,e1,e2,e3,e4=>by
  have ih:=λk'=>Tq wv L1 L1' F hF hL i l x m k' ⟨want.Name,k,want.B0,want.Fv,want.Init⟩ e1 e2 e3 e4
  unfold BI.C2 AR.C2 BI.L2 AR.L2
  by_cases hk:k<x.B0
  . rw[BC hk,BC hk]
    cases gt wv.Cells (Ap (i+k))with
    |none=>rfl
    |some y=>
     simp only[AAO,BI.J2,ih,e1,e2,e3,e4]
     by_cases a1:y.Index=k<;>by_cases a2:y.Name.toList=x.Name.toList<;>by_cases a3:y.B0=x.B0<;>by_cases a4:y.Init=x.Init<;>cases a5:y.Fv<;>simp[a1,a2,a3,a4,hF]
  . rw[Ac hk,Ac hk]
    simp only[BI.J3,AR.J2,hL,e2]
def Lq (wv:AD):List ABq×Bool->ABp (List ABq×Bool):=λv=>if v.2=true then BI.J4 wv v.1 else some ([],false)
theorem YH (wv:AD) (hc:wv.Cells.length≤12):∀(n:Nat) (names:List ABq) (i:Int),
 BI.Aa wv n names i=(AR.Aa wv.Cells n names i).bind (Lq wv)
 |0,_,_=>rfl
 |n+1,names,i=>by
  have ih:=YH wv hc n
  unfold BI.Aa AR.Aa BI.L1 AR.L1
  by_cases hi:i<(wv.Cells.length:Int)
  . rw[BC hi,BC hi]
    cases hx:gt wv.Cells i with
    |none=>rfl
    |some x=>
     simp only[AAO]
     by_cases hr:Al (names.length+1) 16=true
     . rw[AAY hr,AAY hr]
       by_cases h0:x.B0=0
       . simp only[h0,ABB,AAs,ih]
         by_cases h1:x.Index=0<;>simp[h1,Lq]
       . simp only[h0,AAd,AAe,BI.J1,AR.J1]
         by_cases h1:x.B0<1
         . simp[h1,Lq]
         . by_cases h2:x.B0>4
           . simp[h1,h2,Lq]
           . simp only[h1,h2,decide_false,AAW,AAe]
             have UP:=Tq wv _ _ (Lq wv) rfl (λa b=>ih a b) i names x BT 0 x rfl rfl
             by_cases h3:x.B0>Ap ((wv.Cells.length:Int)-i)
             . cases x.Fv<;>simp[h3,Lq]
             . simp only[h3,decide_false,AAW,AAe]
               cases hv:x.Fv with
               |false=>simp only[AAW,AAe];exact UP hv rfl
               |true=>
                simp only[AAs]
                have ZE:0≤i:=by
                 unfold gt at hx
                 by_cases h:0≤i
                 . exact h
                 . simp[h]at hx
                show BI.C2 _ _ _ _ _ BT 0=_
                rw[show BT=18446744073709551615+1 from rfl]
                unfold BI.C2 BI.L2
                rw[BC (by omega),DR (by omega) (by omega),Int.add_zero,hx]
                simp only[AAO,BI.J2,hv]
                by_cases b1:x.Index=0<;>simp[b1,Lq]
     . rw[AAX hr,AAX hr];rfl
  . rw[Ac hi,Ac hi]
    simp[AR.J3,Lq]
theorem LP (l:List DB) (hl:l.length≤12) (L1:List ABq->Int->ABp (List ABq×Bool)) (names:List ABq) (x:DB) (i:Nat) (h1:1≤x.B0) (h4:x.B0≤4) (hs:x.B0≤(l.length:Int)-i) (Q:List ABq×Bool->Prop) (hQ:Q ([],false))
 (hL:∃v,L1 (names++[x.Name]) ((i+x.B0.toNat:Nat):Int)=some v/\Q v):
 ∀(m k:Nat) (want:DB),want.B0=x.B0->k≤x.B0->x.B0<(m+k:Nat)->∃v,AR.C2 L1 (i:Int) l names x m want (k:Int)=some v/\Q v
 |0,k,want,e,h,h'=>by omega
 |m+1,k,want,e,h,h'=>by
  unfold AR.C2 AR.L2
  by_cases hk:(k:Int)<x.B0
  . rw[BC hk,DR (by omega) (by omega),show(i:Int)+(k:Int)=((i+k:Nat):Int)from by omega,CU (by omega),AAO,Ao (by omega)]
    split
    . exact⟨_,rfl,hQ⟩
    . exact LP l hl L1 names x i h1 h4 hs Q hQ hL m (k+1) _ e (by omega) (by omega)
  . rw[Ac hk]
    unfold AR.J2
    rw[e,DR (by omega) (by omega),show(i:Int)+x.B0=((i+x.B0.toNat:Nat):Int)from by omega]
    exact hL
theorem LQ (l:List DB) (hl:l.length≤12):∀(n i:Nat) (names:List ABq),i≤l.length->l.length<n+i->names.length≤i->∃v,AR.Aa l n names (i:Int)=some v/\v.1.length≤l.length
 |0,i,names,h1,h2,h3=>by omega
 |n+1,i,names,h1,h2,h3=>by
  unfold AR.Aa AR.L1
  by_cases hi:i<l.length
  . rw[BC (by omega),CU hi,AAO,BL (by omega)]
    have KX:∃v,some (([],false):List ABq×Bool)=some v/\v.1.length≤l.length:=⟨_,rfl,by simp⟩
    generalize l[i]=x
    by_cases h0:x.B0=0
    . simp only[h0,ABB,AAs]
      rw[Ao (by omega)]
      split
      . exact KX
      . exact LQ l hl n (i+1) _ (by omega) (by omega) (by simp;omega)
    . simp only[h0,AAd,AAe,AR.J1]
      rw[DR (n:=(l.length:Int)-i) (by omega) (by omega)]
      by_cases h1:x.B0<1
      . simp[h1]
      . by_cases h2:x.B0>4
        . simp[h1,h2]
        . by_cases h3:x.Fv=true
          . simp[h1,h2,h3]
          . by_cases h5:x.B0>(l.length:Int)-i
            . simp[h1,h2,h3,h5]
            . simp only[h1,h2,h3,h5,decide_false,AAW,AAe]
              refine LP l hl _ names x i (by omega) (by omega) (by omega) _ (by simp) ?_ BT 0 x rfl (by omega) (by have:=B1;omega)
              exact LQ l hl n (i+x.B0.toNat) _ (by omega) (by omega) (by simp;omega)
  . rw[Ac (by omega)]
    exact⟨_,rfl,by simp;omega⟩
def KB (wv:AD):List ABq:=wv.AG.map (·.Name)++(wv.Af.map (·.Name)++(wv.AK++wv.AA))
def RM:List ABq->List ABq->Bool
 |_,[]=>true
 |seen,x::r=>Oh x&& !(seen.any λy=>y==x)&&RM (seen++[x]) r
structure Small (wv:AD):Prop where
 c:wv.Cells.length≤12
 l:wv.AG.length≤4
 d:wv.Af.length≤2
 f:wv.AK.length≤2
 t:wv.AA.length≤4
 s:wv.A7.length≤60
theorem names.L3 (wv:AD) (a:List ABq) (hl:(a++wv.AK++wv.AA).length≤1000):∀(n i:Nat) (seen:List ABq),i≤(a++wv.AK++wv.AA).length->(a++wv.AK++wv.AA).length<n+i->
 A3.Gm a wv n (i:Int) seen=some (RM seen ((a++wv.AK++wv.AA).drop i))
 |0,i,seen,h1,h2=>by omega
 |n+1,i,seen,h1,h2=>by
  unfold A3.Gm A3.L3
  by_cases hi:i<(a++wv.AK++wv.AA).length
  . rw[BC (by omega),CU hi,AAO,Ut,AAO,E6 hi]
    unfold A3.J3
    rw[Ao (by omega),names.L3 wv a hl n (i+1) _ (by omega) (by omega)]
    generalize (a++wv.AK++wv.AA)[i]=x
    rw[RM]
    cases Oh x<;>cases hs:(seen.any λy=>y==x)<;>simp
  . rw[Ac (by omega),GM hi]
    rfl
theorem names.J2 (wv:AD) (hw:Small wv) (a:List ABq) (ha:a.length≤100):A3.J2 wv a=some (RM [] (a++(wv.AK++wv.AA))):=by
 have:=hw.f;have:=hw.t;have hb:=B1
 unfold A3.J2
 rw[BL (by omega),BL (by simp;omega)]
 have:=names.L3 wv a (by simp;omega) BT 0 [] (by omega) (by simp;omega)
 rw[AAq,AA6]at this
 exact this
theorem names.L2 (wv:AD) (hw:Small wv):∀(n i:Nat) (a:List ABq),i≤wv.Af.length->wv.Af.length<n+i->a.length≤50+i->A3.C2 wv n a (i:Int)=some (RM [] (a++((wv.Af.drop i).map (·.Name)++(wv.AK++wv.AA))))
 |0,i,a,h1,h2,h3=>by omega
 |n+1,i,a,h1,h2,h3=>by
  have:=hw.d
  unfold A3.C2 A3.L2
  by_cases hi:i<wv.Af.length
  . rw[BC (by omega),CU hi,AAO,BL (by omega),Ao (by omega),names.L2 wv hw n (i+1) _ (by omega) (by omega) (by simp;omega),E6 hi]
    simp only[AAg,AA6,AA5,ABI]
  . rw[Ac (by omega),GM hi,names.J2 wv hw a (by omega)]
    simp
theorem names.L1 (wv:AD) (hw:Small wv):∀(n i:Nat) (a:List ABq),i≤wv.AG.length->wv.AG.length<n+i->a.length≤20+i->A3.Aa wv n a (i:Int)=some (RM [] (a++((wv.AG.drop i).map (·.Name)++(wv.Af.map (·.Name)++(wv.AK++wv.AA)))))
 |0,i,a,h1,h2,h3=>by omega
 |n+1,i,a,h1,h2,h3=>by
  have:=hw.l;have:=hw.d;have hb:=B1
  unfold A3.Aa A3.L1
  by_cases hi:i<wv.AG.length
  . rw[BC (by omega),CU hi,AAO,BL (by omega),Ao (by omega),names.L1 wv hw n (i+1) _ (by omega) (by omega) (by simp;omega),E6 hi]
    simp only[AAg,AA6,AA5,ABI]
  . rw[Ac (by omega),GM hi]
    unfold A3.J1
    have:=names.L2 wv hw BT 0 a (by omega) (by omega) (by omega)
    rw[AAq]at this
    simpa using this
theorem yL (wv:AD) (hw:Small wv) (vars:List ABq) (hv:vars.length≤12):A3 wv vars=some (RM [] (vars++KB wv)):=by
 have:=hw.l;have hb:=B1
 unfold A3
 rw[BL (by omega)]
 have:=names.L1 wv hw BT 0 vars (by omega) (by omega) (by omega)
 rw[AAq]at this
 exact this
theorem NJ.J6 (wv:AD) (hw:Small wv) (a:List ABq) (ha:a.length≤100):BI.J6 wv a=some (a++(wv.AK++wv.AA),true):=by
 have:=hw.f;have:=hw.t
 unfold BI.J6
 rw[BL (by omega),BL (by simp;omega),AA6]
theorem NJ.L4 (wv:AD) (hw:Small wv):∀(n i:Nat) (a:List ABq),i≤wv.Af.length->wv.Af.length<n+i->a.length≤50+i->BI.rI wv n a (i:Int)=some (a++((wv.Af.drop i).map (·.Name)++(wv.AK++wv.AA)),true)
 |0,i,a,h1,h2,h3=>by omega
 |n+1,i,a,h1,h2,h3=>by
  have:=hw.d
  unfold BI.rI BI.L4
  by_cases hi:i<wv.Af.length
  . rw[BC (by omega),CU hi,AAO,BL (by omega),Ao (by omega),NJ.L4 wv hw n (i+1) _ (by omega) (by omega) (by simp;omega),E6 hi]
    simp only[AAg,AA6,AA5,ABI]
  . rw[Ac (by omega),GM hi,NJ.J6 wv hw a (by omega)]
    simp
theorem NJ.L3 (wv:AD) (hw:Small wv):∀(n i:Nat) (a:List ABq),i≤wv.AG.length->wv.AG.length<n+i->a.length≤20+i->BI.Gm wv n a (i:Int)=some (a++((wv.AG.drop i).map (·.Name)++(wv.Af.map (·.Name)++(wv.AK++wv.AA))),true)
 |0,i,a,h1,h2,h3=>by omega
 |n+1,i,a,h1,h2,h3=>by
  have:=hw.l;have:=hw.d;have hb:=B1
  unfold BI.Gm BI.L3
  by_cases hi:i<wv.AG.length
  . rw[BC (by omega),CU hi,AAO,BL (by omega),Ao (by omega),NJ.L3 wv hw n (i+1) _ (by omega) (by omega) (by simp;omega),E6 hi]
    simp only[AAg,AA6,AA5,ABI]
  . rw[Ac (by omega),GM hi]
    unfold BI.J5
    have:=NJ.L4 wv hw BT 0 a (by omega) (by omega) (by omega)
    rw[AAq]at this
    simpa using this
theorem NJ.J4 (wv:AD) (hw:Small wv) (a:List ABq) (ha:a.length≤12):BI.J4 wv a=some (a++KB wv,true):=by
 have:=hw.l;have hb:=B1
 unfold BI.J4
 have:=NJ.L3 wv hw BT 0 a (by omega) (by omega) (by omega)
 rw[AAq]at this
 exact this
theorem jX (l:List ABq) (x:ABq) (hl:l.length≤1000):∀(n i:Nat),i≤l.length->l.length<n+i->∃r,Ca.Aa l x n (i:Int)=some r/\(0≤r↔((l.drop i).any λy=>y==x)=true)
 |0,i,h1,h2=>by omega
 |n+1,i,h1,h2=>by
  unfold Ca.Aa Ca.L1
  by_cases hi:i<l.length
  . rw[BC (by omega),CU hi,AAO,Ao (by omega),E6 hi,nH,List.any_cons]
    obtain⟨r,hr,XK⟩:=jX l x hl n (i+1) (by omega) (by omega)
    cases hx:(l[i]==x)with
    |true=>exact⟨_,rfl,by simp⟩
    |false=>exact⟨r,by simpa using hr,by simpa using XK⟩
  . rw[Ac (by omega),GM hi]
    exact⟨-1,rfl,by simp⟩
theorem at_eq (l:List ABq) (x:ABq) (hl:l.length≤1000):∃r,Ca l x=some r/\decide (r≥0)=(l.any λy=>y==x):=by
 obtain⟨r,h1,h2⟩:=jX l x hl BT 0 (by omega) (by have:=B1;omega)
 rw[AAq]at h2
 refine⟨r,h1,?_⟩
 cases h:(l.any λy=>y==x)with
 |true=>simpa using h2.2 h
 |false=>
  simp only[decide_eq_false_iff_not,ge_iff_le]
  intro hr
  rw[h2.1 hr]at h;cases h
theorem UB (wv:AD) (v:List ABq×Bool) (hl:v.1.length≤1000):∀(n i:Nat),i≤v.1.length->v.1.length<n+i->
 Ak.Aa v wv n (i:Int)=if RM (v.1.take i) (v.1.drop i)=true then Ak.J3 wv else some false
 |0,i,h1,h2=>by omega
 |n+1,i,h1,h2=>by
  unfold Ak.Aa Ak.L1
  by_cases hi:i<v.1.length
  . rw[BC (by omega),CU hi,AAO,QP,AAO,E6 hi,AAY (c:=0≤(i:Int)/\(i:Int).toNat≤v.1.length) (by simp;omega),ABE]
    obtain⟨r,h3,h4⟩:=at_eq (v.1.take i) v.1[i] (by simp;omega)
    rw[h3,AAO,h4]
    unfold Ak.J2
    rw[Ao (by omega),UB wv v hl n (i+1) (by omega) (by omega),RM,AAk hi]
    cases Oh v.1[i]<;>cases((v.1.take i).any λy=>y==v.1[i])<;>simp
  . rw[Ac (by omega),GM hi]
    rfl
def HC (nt:Nat):Int->Int->List DL->Bool
 |_,_,[]=>true
 |t,n,x::r=>if x.Thread<t∨x.Thread≥nt then false else if x.Thread>t then x.Stmt==0&&HC nt x.Thread 1 r else x.Stmt==n&&HC nt t (n+1) r
theorem Q3 (wv:AD) (hw:Small wv):∀(n i:Nat) (t:Int) (nx:Nat),i≤wv.A7.length->wv.A7.length<n+i->nx≤i->B3.Aa wv n t (nx:Int) (i:Int)=some (HC wv.AA.length t nx (wv.A7.drop i))
 |0,i,t,nx,h1,h2,h3=>by omega
 |n+1,i,t,nx,h1,h2,h3=>by
  have:=hw.s
  unfold B3.Aa B3.L1
  by_cases hi:i<wv.A7.length
  . rw[BC (by omega),CU hi,AAO,E6 hi]
    simp only[B3.J1,B3.J2]
    rw[Ao (i:=i) (by omega),Ao (i:=nx) (by omega),show Ap (0+1)=((1:Nat):Int)from rfl]
    rw[Q3 wv hw n (i+1) _ (nx+1) (by omega) (by omega) (by omega),Q3 wv hw n (i+1) _ 1 (by omega) (by omega) (by omega)]
    generalize wv.A7[i]=x
    rw[HC]
    by_cases a1:x.Thread<t
    . simp[a1]
    . by_cases a2:x.Thread≥(wv.AA.length:Int)
      . simp[a1,a2]
      . by_cases a3:x.Thread>t
        . by_cases a4:x.Stmt=0<;>simp[a1,a2,a3,a4]
        . by_cases a4:x.Stmt=(nx:Int)<;>simp[a1,a2,a3,a4]
  . rw[Ac (by omega),GM hi]
    rfl
theorem UC (wv:AD) (hw:Small wv):∀(n i:Nat) (t:Int) (nx:Nat),i≤wv.A7.length->wv.A7.length<n+i->nx≤i->(∀(h:0<i) (h':i-1<wv.A7.length),t=wv.A7[i-1].Thread/\(nx:Int)=wv.A7[i-1].Stmt+1)->(i=0->t=0/\nx=0)->0≤t->
 Ak.Gm wv n (i:Int)=some (HC wv.AA.length t nx (wv.A7.drop i))
 |0,i,t,nx,h1,h2,h3,_,_,_=>by omega
 |n+1,i,t,nx,h1,h2,h3,h4,h5,h6=>by
  have:=hw.s
  unfold Ak.Gm Ak.L3
  by_cases hi:i<wv.A7.length
  . rw[BC (by omega),CU hi,AAO,E6 hi]
    have ih:∀(t':Int) (nx':Nat),nx'≤i+1->(t'=wv.A7[i].Thread/\(nx':Int)=wv.A7[i].Stmt+1)->0≤t'->Ak.Gm wv n ((i+1:Nat):Int)=some (HC wv.AA.length t' nx' (wv.A7.drop (i+1))):=
     λt' nx' a b c=>UC wv hw n (i+1) t' nx' (by omega) (by omega) a (λ_ _=>b) (by omega) c
    simp only[Ak.J6,Ak.J7,Ak.J8,Ak.J9]
    rw[Ao (i:=i) (by omega)]
    rw[HC]
    by_cases a0:wv.A7[i].Thread<0
    . have:wv.A7[i].Thread<t:=by omega
      simp[a0,this]
    . by_cases a2:wv.A7[i].Thread≥(wv.AA.length:Int)
      . simp[a0,a2]
      . simp only[a0,a2,decide_false,ABd,AAW,AAe]
        by_cases hz:i=0
        . subst hz
          obtain⟨rfl,rfl⟩:=h5 rfl
          simp only[Int.natCast_zero,ABB,AAs,a0,AAe,Int.lt_irrefl,gt_iff_lt,decide_false,AAW]
          by_cases a4:wv.A7[0].Stmt=0
          . simp only[a4,bne_self_eq_false,AAW,AAe,ABB,AA0]
            rw[ih wv.A7[0].Thread 1 (by omega) ⟨rfl,by simp[a4]⟩ (by omega)]
            split
            . rfl
            . rw[show wv.A7[0].Thread=0 from by omega];rfl
          . simp[a4]
        . have hb:((i:Int)==0)=false:=by simp;omega
          have hgt:gt wv.A7 (Ap ((i:Int)-1))=some wv.A7[i-1]:=by
           rw[DR (by omega) (by omega),show(i:Int)-1=((i-1:Nat):Int)from by omega,CU (by omega)]
          obtain⟨e1,e2⟩:=h4 (by omega) (by omega)
          have hs:Ap (wv.A7[i-1].Stmt+1)=(nx:Int):=by rw[← e2];exact DR (by omega) (by omega)
          have hp:decide ((i:Int)>0)=true:=by simp;omega
          simp only[hb,hgt,AAO,AAW,AAe,hs,← e1,hp,AAs]
          by_cases a3:t=wv.A7[i].Thread
          . have b1:¬wv.A7[i].Thread<t:=by omega
            have b2:¬wv.A7[i].Thread>t:=by omega
            simp only[a3,bne_self_eq_false,AAW,AAe,Int.lt_irrefl,gt_iff_lt]
            by_cases a4:wv.A7[i].Stmt=(nx:Int)
            . simp only[a4,bne_self_eq_false,AAW,AAe,ABB,AA0]
              rw[ih wv.A7[i].Thread (nx+1) (by omega) ⟨rfl,by omega⟩ (by omega)]
              rfl
            . simp[a4]
          . have Np:(t != wv.A7[i].Thread)=true:=by simpa using a3
            simp only[Np,AAs]
            by_cases a4:wv.A7[i].Stmt=0
            . by_cases a5:wv.A7[i].Thread<t
              . simp[a4,a5]
              . have b2:wv.A7[i].Thread>t:=by omega
                have b3:¬t>wv.A7[i].Thread:=by omega
                simp only[a4,a5,b2,b3,bne_self_eq_false,AAW,AAe,decide_false,AAs,ABB,AA0]
                rw[ih wv.A7[i].Thread 1 (by omega) ⟨rfl,by simp[a4]⟩ (by omega)]
                rfl
            . by_cases a5:wv.A7[i].Thread<t
              . simp[a4,a5]
              . have b2:wv.A7[i].Thread>t:=by omega
                simp[a4,a5,b2]
  . rw[Ac (by omega),GM hi]
    rfl
theorem zP (wv:AD) (hw:Small wv):B3 wv=some (HC wv.AA.length 0 0 wv.A7):=by
 have:=Q3 wv hw BT 0 0 0 (by omega) (by have:=hw.s;have:=B1;omega) (by omega)
 rw[AAq]at this
 exact this
theorem qH (wv:AD) (hw:Small wv):Ak.J5 wv=some (HC wv.AA.length 0 0 wv.A7):=by
 have:=UC wv hw BT 0 0 0 (by omega) (by have:=hw.s;have:=B1;omega) (by omega) (by omega) (by simp) (by omega)
 rw[AAq]at this
 exact this
def NY (wv:AD) (c:LL):Bool:=Ee c.Mutex wv.AG.length&& !(ix wv.AG c.Mutex).RW
theorem P6 (i:Int) (n:Nat):Ei i (n:Int)=some (Ee i n):=by
 unfold Ei Ei.J1 Ee
 simp only[ge_iff_le]
 cases decide (0≤i)<;>rfl
theorem Vl (wv:AD) (hw:Small wv):∀(n i:Nat),i≤wv.Af.length->wv.Af.length<n+i->BO.Aa wv n (i:Int)=if(wv.Af.drop i).all (NY wv)=true then some (HC wv.AA.length 0 0 wv.A7)else some false
 |0,i,h1,h2=>by omega
 |n+1,i,h1,h2=>by
  have:=hw.d
  unfold BO.Aa BO.L1
  by_cases hi:i<wv.Af.length
  . rw[BC (by omega),CU hi,AAO,E6 hi,Ao (by omega),Vl wv hw n (i+1) (by omega) (by omega),ABF]
    generalize wv.Af[i]=c
    unfold FH
    rw[P6,AAO]
    unfold NY FH.J1
    cases h:Ee c.Mutex wv.AG.length with
    |false=>simp
    |true=>
     rw[AAY rfl,Cd h,AAO,AAO]
     cases(ix wv.AG c.Mutex).RW<;>simp
  . rw[Ac (by omega),GM hi]
    unfold BO.J4
    rw[zP wv hw];rfl
theorem T7 (wv:AD) (hw:Small wv):∀(n i:Nat),i≤wv.Af.length->wv.Af.length<n+i->Ak.C2 wv n (i:Int)=if(wv.Af.drop i).all (NY wv)=true then some (HC wv.AA.length 0 0 wv.A7)else some false
 |0,i,h1,h2=>by omega
 |n+1,i,h1,h2=>by
  have:=hw.d
  unfold Ak.C2 Ak.L2
  by_cases hi:i<wv.Af.length
  . unfold Ak.J4
    rw[BC (by omega),CU hi,AAO,E6 hi,Ao (by omega),T7 wv hw n (i+1) (by omega) (by omega),ABF]
    generalize wv.Af[i]=c
    unfold NY
    by_cases a1:c.Mutex<0
    . have:Ee c.Mutex wv.AG.length=false:=by simp[Ee];omega
      simp[a1,this]
    . by_cases a2:c.Mutex≥(wv.AG.length:Int)
      . have:Ee c.Mutex wv.AG.length=false:=by simp[Ee];omega
        simp[a1,a2,this]
      . have h:Ee c.Mutex wv.AG.length=true:=by simp[Ee];omega
        rw[Ac a1,Ac a2,Cd h,AAO,h]
        cases(ix wv.AG c.Mutex).RW<;>simp
  . rw[Ac (by omega),GM hi]
    exact qH wv hw
def Ck (wv:AD):Bool:=decide (wv.Cells.length≤12)&&decide (wv.AG.length≤4)&&decide (wv.Af.length≤2)&&decide (wv.AK.length≤2)&&decide (1≤wv.AA.length)&&decide (wv.AA.length≤4)&&decide (wv.A7.length≤60)&&
 (match AR wv.Cells with
 |some v=>v.2&&RM [] (v.1++KB wv)&&wv.Af.all (NY wv)&&HC wv.AA.length 0 0 wv.A7
 |none=>false)
theorem Xa (wv:AD):BO wv=some (Ck wv):=by
 unfold BO BO.J1
 by_cases a1:wv.Cells.length≤12
 . by_cases a2:wv.AG.length≤4
   . by_cases a3:wv.Af.length≤2
     . by_cases a4:wv.AK.length≤2
       . by_cases a5:wv.A7.length≤60
         . rw[Ac (by omega),Ac (by omega),Ac (by omega),Ac (by omega),AAX (by simp;omega)]
           unfold BO.J2
           by_cases a6:1≤wv.AA.length
           . by_cases a7:wv.AA.length≤4
             . have hw:Small wv:=⟨a1,a2,a3,a4,a7,a5⟩
               obtain⟨v,hv,hvl⟩:=LQ wv.Cells a1 BT 0 [] (by omega) (by have:=B1;omega) (by simp)
               have bJ:AR wv.Cells=some v:=hv
               rw[Ac (by omega),AAX (by simp;omega),bJ,AAO]
               have hs:Ck wv=(v.2&&RM [] (v.1++KB wv)&&wv.Af.all (NY wv)&&HC wv.AA.length 0 0 wv.A7):=by
                unfold Ck;rw[bJ];simp[a1,a2,a3,a4,a5,a6,a7]
               rw[hs,yL wv hw v.1 (by omega),AAO]
               unfold BO.J3
               have hc:=Vl wv hw BT 0 (by omega) (by have:=B1;omega)
               rw[AAq]at hc
               rw[show(0:Int)=((0:Nat):Int)from rfl,hc]
               cases v.2<;>cases RM [] (v.1++KB wv)<;>cases wv.Af.all (NY wv)<;>simp
             . rw[Ac (by omega),AAY (by simp;omega)]
               simp[Ck,a7]
           . rw[BC (by omega),AAY rfl]
             simp[Ck,a6]
         . rw[Ac (by omega),Ac (by omega),Ac (by omega),Ac (by omega),AAY (by simp;omega)]
           simp[Ck,a5]
       . rw[Ac (by omega),Ac (by omega),Ac (by omega),BC (by omega),AAY rfl]
         simp[Ck,a4]
     . rw[Ac (by omega),Ac (by omega),BC (by omega),AAY rfl]
       simp[Ck,a3]
   . rw[Ac (by omega),BC (by omega),AAY rfl]
     simp[Ck,a2]
 . rw[BC (by omega),AAY rfl]
   simp[Ck,a1]
theorem Ot (wv:AD):Ak wv=some (Ck wv):=by
 unfold Ak Ak.J1
 by_cases a1:wv.Cells.length≤12
 . by_cases a2:wv.AG.length≤4
   . by_cases a3:wv.Af.length≤2
     . by_cases a4:wv.AK.length≤2
       . by_cases a6:1≤wv.AA.length
         . by_cases a7:wv.AA.length≤4
           . by_cases a5:wv.A7.length≤60
             . have hw:Small wv:=⟨a1,a2,a3,a4,a7,a5⟩
               obtain⟨v,hv,hvl⟩:=LQ wv.Cells a1 BT 0 [] (by omega) (by have:=B1;omega) (by simp)
               have bJ:AR wv.Cells=some v:=hv
               rw[Ac (by omega),Ac (by omega),Ac (by omega),Ac (by omega),Ac (by omega),Ac (by omega),AAX (by simp;omega)]
               have hs:Ck wv=(v.2&&RM [] (v.1++KB wv)&&wv.Af.all (NY wv)&&HC wv.AA.length 0 0 wv.A7):=by
                unfold Ck;rw[bJ];simp[a1,a2,a3,a4,a5,a6,a7]
               have hn:BI wv=Lq wv v:=by
                have:=YH wv a1 BT [] 0
                rw[show(0:Int)=((0:Nat):Int)from rfl,hv]at this
                exact this
               rw[hn,hs]
               unfold Lq
               have hc:=T7 wv hw BT 0 (by omega) (by have:=B1;omega)
               rw[AAq]at hc
               cases hv2:v.2 with
               |false=>simp
               |true=>
                rw[AAY rfl,NJ.J4 wv hw v.1 (by omega),AAO,AAX (by simp)]
                have hlen:(v.1++KB wv).length≤1000:=by simp[KB];omega
                have hr:=UB wv (v.1++KB wv,true) hlen BT 0 (by omega) (by have:=B1;simp only;omega)
                rw[List.take_zero,AAq]at hr
                rw[show(0:Int)=((0:Nat):Int)from rfl,hr]
                unfold Ak.J3
                rw[show(0:Int)=((0:Nat):Int)from rfl,hc]
                cases RM [] (v.1++KB wv)<;>cases wv.Af.all (NY wv)<;>simp
             . rw[Ac (by omega),Ac (by omega),Ac (by omega),Ac (by omega),Ac (by omega),Ac (by omega),AAY (by simp;omega)]
               simp[Ck,a5]
           . rw[Ac (by omega),Ac (by omega),Ac (by omega),Ac (by omega),Ac (by omega),BC (by omega),AAY rfl]
             simp[Ck,a7]
         . rw[Ac (by omega),Ac (by omega),Ac (by omega),Ac (by omega),BC (by omega),AAY rfl]
           simp[Ck,a6]
       . rw[Ac (by omega),Ac (by omega),Ac (by omega),BC (by omega),AAY rfl]
         simp[Ck,a4]
     . rw[Ac (by omega),Ac (by omega),BC (by omega),AAY rfl]
       simp[Ck,a3]
   . rw[Ac (by omega),BC (by omega),AAY rfl]
     simp[Ck,a2]
 . rw[BC (by omega),AAY rfl]
   simp[Ck,a1]
theorem EC {wv:AD} (h:Ck wv=true):Small wv:=by
 unfold Ck at h
 simp only[AAP,AAf]at h
 obtain⟨⟨⟨⟨⟨⟨⟨h1,h2⟩,h3⟩,h4⟩,h5⟩,h6⟩,h7⟩,h8⟩:=h
 exact⟨h1,h2,h3,h4,h6,h7⟩
instance:Inhabited LL:=⟨⟨⟨#[]⟩,0⟩⟩
instance:Inhabited DB:=⟨⟨⟨#[]⟩,0,0,false,0⟩⟩
instance:Inhabited DL:=⟨⟨0,0,0⟩⟩
instance:Inhabited AW:=⟨⟨0,[]⟩⟩
instance:Inhabited AE:=⟨⟨0,0,false⟩⟩
def Mj (wv:AD):AN:=⟨List.replicate wv.AG.length ⟨-1,[]⟩, -1,List.replicate wv.AK.length false,(List.replicate wv.AA.length ⟨0,0,false⟩).set 0 ⟨1,0,false⟩⟩
theorem start.L1 (wv:AD) (hw:Small wv) (D:List Bool) (T:List AE) (tx:Int):∀(n i:Nat),i≤wv.AG.length->wv.AG.length<n+i->
 Dy.Aa wv n ⟨List.replicate i ⟨-1,[]⟩++List.replicate (wv.AG.length-i) ⟨0,[]⟩,tx,D,T⟩ (i:Int)=Dy.J1 ⟨List.replicate wv.AG.length ⟨-1,[]⟩,tx,D,T⟩
 |0,i,h1,h2=>by omega
 |n+1,i,h1,h2=>by
  have:=hw.l
  unfold Dy.Aa Dy.L1
  by_cases hi:i<wv.AG.length
  . rw[BC (by simp;omega)]
    have e:List.replicate (wv.AG.length-i) (AW.mk 0 [])=AW.mk 0 []::List.replicate (wv.AG.length-(i+1)) (AW.mk 0 []):=by
     rw[show wv.AG.length-i=(wv.AG.length-(i+1))+1 from by omega,List.replicate_succ]
    have hx:gt (List.replicate i (AW.mk (-1) [])++List.replicate (wv.AG.length-i) (AW.mk 0 [])) (i:Int)=some ⟨0,[]⟩:=by
     rw[LG,e,AAt (by simp)];simp
    have gR:(List.replicate i (AW.mk (-1) [])++List.replicate (wv.AG.length-i) (AW.mk 0 [])).set i (AW.mk (-1) [])=List.replicate (i+1) (AW.mk (-1) [])++List.replicate (wv.AG.length-(i+1)) (AW.mk 0 []):=by
     rw[e,List.set_append_right _ _ (by simp)]
     simp only[List.length_replicate,Nat.sub_self,List.set_cons_zero]
     rw[List.replicate_succ'];simp
    simp only[hx,AAO,ABE,gR]
    rw[Ao (by omega)]
    exact start.L1 wv hw D T tx n (i+1) (by omega) (by omega)
  . rw[Ac (by simp;omega)]
    have:i=wv.AG.length:=by omega
    subst this;simp
theorem Zn (wv:AD) (hw:Small wv):Dy wv=some (Mj wv):=by
 have h1:=hw.l;have h2:=hw.f;have h3:=hw.t;have hb:=B1
 unfold Dy
 rw[AAY ⟨by omega,by omega,DK (by omega)⟩,AAY ⟨by omega,by omega,DK (by omega)⟩,AAY ⟨by omega,by omega,DK (by omega)⟩]
 have:=start.L1 wv hw (List.replicate wv.AK.length false) (List.replicate wv.AA.length (AE.mk 0 0 false)) (-1) BT 0 (by omega) (by omega)
 simp only[List.replicate_zero,ABI,Nat.sub_zero,Int.natCast_zero]at this
 rw[this]
 unfold Dy.J1 Dy.J2 Mj
 simp only[List.length_replicate]
 by_cases h:wv.AA.length=0
 . simp[h]
 . have h':0<wv.AA.length:=by omega
   rw[BC (by omega)]
   have:gt (List.replicate wv.AA.length (AE.mk 0 0 false)) 0=some ⟨0,0,false⟩:=by
    show gt _ ((0:Nat):Int)=_
    rw[LG];simp[h']
   rw[this];rfl
theorem UD.L3 (wv:AD) (hw:Small wv) (L:List AW) (D:List Bool) (tx:Int):∀(n i:Nat),i≤wv.AA.length->wv.AA.length<n+i->
 CV.Gm wv n ⟨L,tx,D,(List.replicate i ⟨0,0,false⟩).set 0 ⟨1,0,false⟩⟩ (i:Int)=some ⟨L,tx,D,(List.replicate wv.AA.length ⟨0,0,false⟩).set 0 ⟨1,0,false⟩⟩
 |0,i,h1,h2=>by omega
 |n+1,i,h1,h2=>by
  have:=hw.t
  unfold CV.Gm CV.L3
  by_cases hi:i<wv.AA.length
  . unfold CV.J3
    rw[BC (by omega)]
    simp only[List.length_set,List.length_replicate]
    rw[BL (by omega),BL (by omega),Ao (by omega)]
    have e:∀x,(if((i:Int)==0)=true then CV.Gm wv n ⟨L,tx,D,(List.replicate i ⟨0,0,false⟩).set 0 ⟨1,0,false⟩++[⟨1,0,false⟩]⟩ x else CV.Gm wv n ⟨L,tx,D,(List.replicate i ⟨0,0,false⟩).set 0 ⟨1,0,false⟩++[⟨0,0,false⟩]⟩ x)=CV.Gm wv n ⟨L,tx,D,(List.replicate (i+1) ⟨0,0,false⟩).set 0 ⟨1,0,false⟩⟩ x:=by
     intro x
     cases i with
     |zero=>rfl
     |succ i=>
      rw[AAX (by simp;omega),List.replicate_succ' (n:=i+1),List.set_append_left _ _ (by simp)]
    rw[e]
    exact UD.L3 wv hw L D tx n (i+1) (by omega) (by omega)
  . rw[Ac (by omega)]
    have:i=wv.AA.length:=by omega
    subst this;rfl
theorem UD.L2 (wv:AD) (hw:Small wv) (L:List AW) (tx:Int):∀(n i:Nat),i≤wv.AK.length->wv.AK.length<n+i->
 CV.C2 wv n ⟨L,tx,List.replicate i false,[]⟩ (i:Int)=some ⟨L,tx,List.replicate wv.AK.length false,(List.replicate wv.AA.length ⟨0,0,false⟩).set 0 ⟨1,0,false⟩⟩
 |0,i,h1,h2=>by omega
 |n+1,i,h1,h2=>by
  have:=hw.f
  unfold CV.C2 CV.L2
  by_cases hi:i<wv.AK.length
  . rw[BC (by omega)]
    simp only[List.length_replicate]
    rw[BL (by omega),Ao (by omega),← List.replicate_succ']
    exact UD.L2 wv hw L tx n (i+1) (by omega) (by omega)
  . rw[Ac (by omega)]
    have:i=wv.AK.length:=by omega
    subst this
    unfold CV.J2
    exact UD.L3 wv hw L _ tx BT 0 (by omega) (by have:=hw.t;have:=B1;omega)
theorem UD.L1 (wv:AD) (hw:Small wv):∀(n i:Nat),i≤wv.AG.length->wv.AG.length<n+i->
 CV.Aa wv n ⟨List.replicate i ⟨-1,[]⟩, -1,[],[]⟩ (i:Int)=some (Mj wv)
 |0,i,h1,h2=>by omega
 |n+1,i,h1,h2=>by
  have:=hw.l
  unfold CV.Aa CV.L1
  by_cases hi:i<wv.AG.length
  . rw[BC (by omega)]
    simp only[List.length_replicate]
    rw[BL (by omega),Ao (by omega),← List.replicate_succ']
    exact UD.L1 wv hw n (i+1) (by omega) (by omega)
  . rw[Ac (by omega)]
    have:i=wv.AG.length:=by omega
    subst this
    unfold CV.J1
    exact UD.L2 wv hw _ (-1) BT 0 (by omega) (by have:=hw.f;have:=B1;omega)
theorem cE (wv:AD) (hw:Small wv):CV wv=some (Mj wv):=UD.L1 wv hw BT 0 (by omega) (by have:=hw.l;have:=B1;omega)
def Gg (wv:AD):AB:=⟨Mj wv,wv.Cells.map (·.Init),List.replicate wv.AK.length 0,List.replicate wv.AA.length 0⟩
theorem wstart.L1 (wv:AD) (hw:Small wv) (S:AN) (F C:List Int):∀(n i:Nat),i≤wv.Cells.length->wv.Cells.length<n+i->
 CX.Aa wv n ⟨S,(wv.Cells.take i).map (·.Init),F,C⟩ (i:Int)=some ⟨S,wv.Cells.map (·.Init),F,C⟩
 |0,i,h1,h2=>by omega
 |n+1,i,h1,h2=>by
  have:=hw.c
  unfold CX.Aa CX.L1
  by_cases hi:i<wv.Cells.length
  . rw[BC (by omega),CU hi,AAO]
    simp only
    rw[BL (by simp;omega),Ao (by omega)]
    have e:(wv.Cells.take i).map (·.Init)++[wv.Cells[i].Init]=(wv.Cells.take (i+1)).map (·.Init):=by rw[← AAk hi,AA9];rfl
    rw[e]
    exact wstart.L1 wv hw S F C n (i+1) (by omega) (by omega)
  . rw[Ac (by omega),AA3 (by omega)];rfl
theorem MN (wv:AD) (hw:Small wv):CX wv=some (Gg wv):=by
 have h1:=hw.c;have h2:=hw.f;have h3:=hw.t;have hb:=B1
 unfold CX
 rw[Zn wv hw,AAO,AAY ⟨by omega,by omega,DK (by omega)⟩,AAY ⟨by omega,by omega,DK (by omega)⟩,AAY ⟨by omega,by omega,DK (by omega)⟩]
 exact wstart.L1 wv hw (Mj wv) _ _ BT 0 (by omega) (by omega)
end Go.Abs
namespace Go.Abs
set_option maxHeartbeats 4000000
theorem Jw (i:Int) (n:Nat):Co i (n:Int)=some (Ee i n):=P6 i n
theorem cF (i:Int) (n:Nat):G4 i (n:Int)=some (Ee i n):=P6 i n
def G8 (wv:AD) (s:AN):Bool:=wv.Af.all (λc=>Ee c.Mutex wv.AG.length)&&(s.AG.length==wv.AG.length&&(s.Bq.length==wv.AK.length&&s.AA.length==wv.AA.length))
theorem N0 (a b:Nat):((a:Int)==(b:Int))=(a==b):=by rw[Bool.eq_iff_iff,AAd,AAd];omega
theorem gY (a b:Nat):((a:Int) != (b:Int))= !(a==b):=by rw[← N0];rfl
theorem Mc (wv:AD) (hw:Small wv):∀(n i:Nat),i≤wv.Af.length->wv.Af.length<n+i->EI.Aa wv n (i:Int)=some ((wv.Af.drop i).all λc=>Ee c.Mutex wv.AG.length)
 |0,i,h1,h2=>by omega
 |n+1,i,h1,h2=>by
  have:=hw.d
  unfold EI.Aa EI.L1
  by_cases hi:i<wv.Af.length
  . rw[BC (by omega),CU hi,AAO,E6 hi,Ao (by omega),Mc wv hw n (i+1) (by omega) (by omega),ABF,Jw,AAO]
    cases Ee wv.Af[i].Mutex wv.AG.length<;>simp
  . rw[Ac (by omega),GM hi];rfl
theorem Ol (wv:AD) (hw:Small wv) (s:AN):EI wv s=some (G8 wv s):=by
 have hl:=Mc wv hw BT 0 (by omega) (by have:=hw.d;have:=B1;omega)
 rw[AAq]at hl
 unfold EI EI.J1 G8
 rw[gY,gY,gY,show(0:Int)=((0:Nat):Int)from rfl,hl]
 cases(s.AG.length==wv.AG.length)<;>cases(s.Bq.length==wv.AK.length)<;>cases(s.AA.length==wv.AA.length)<;>simp
theorem Nj (wv:AD) (hw:Small wv) (s:AN):∀(n i:Nat),i≤wv.Af.length->wv.Af.length<n+i->ER.Aa s wv n (i:Int)=some (((wv.Af.drop i).all λc=>Ee c.Mutex wv.AG.length)&&(s.AG.length==wv.AG.length&&(s.Bq.length==wv.AK.length&&s.AA.length==wv.AA.length)))
 |0,i,h1,h2=>by omega
 |n+1,i,h1,h2=>by
  have:=hw.d
  unfold ER.Aa ER.L1
  by_cases hi:i<wv.Af.length
  . unfold ER.J1
    rw[BC (by omega),CU hi,AAO,E6 hi,Ao (by omega),Nj wv hw s n (i+1) (by omega) (by omega),ABF]
    generalize wv.Af[i]=c
    by_cases a1:c.Mutex<0
    . have:Ee c.Mutex wv.AG.length=false:=by simp[Ee];omega
      simp[a1,this]
    . by_cases a2:c.Mutex≥(wv.AG.length:Int)
      . have:Ee c.Mutex wv.AG.length=false:=by simp[Ee];omega
        simp[a1,a2,this]
      . have h:Ee c.Mutex wv.AG.length=true:=by simp[Ee];omega
        rw[Ac a1,AAX (by simpa using a2),h,AA0]
  . rw[Ac (by omega),GM hi]
    unfold ER.J2 ER.J3
    rw[N0,N0,N0]
    cases(s.AG.length==wv.AG.length)<;>cases(s.Bq.length==wv.AK.length)<;>simp
theorem Nr (wv:AD) (hw:Small wv) (s:AN):ER wv s=some (G8 wv s):=by
 have hl:=Nj wv hw s BT 0 (by omega) (by have:=hw.d;have:=B1;omega)
 rw[AAq]at hl
 exact hl
def MJ (wv:AD) (s:AB):Bool:=G8 wv s.Sync&&(s.Cells.length==wv.Cells.length&&(s.AK.length==wv.AK.length&&s.Count.length==wv.AA.length))
theorem PD (wv:AD) (hw:Small wv) (s:AB):EL wv s=some (MJ wv s):=by
 unfold EL EL.J1 MJ
 rw[Ol wv hw,AAO,N0,N0,N0]
 cases G8 wv s.Sync<;>cases(s.Cells.length==wv.Cells.length)<;>cases(s.AK.length==wv.AK.length)<;>simp
def CF (wv:AD) (k o:Int):Bool:=
 if k=1∨k=2∨k=5∨k=12∨k=13∨k=14∨k=15 then o== -1
 else if k=3∨k=4 then Ee o wv.Cells.length
 else if k=6∨k=7 then Ee o wv.AG.length&& !(ix wv.AG o).RW
 else if k=8∨k=9∨k=10∨k=11 then Ee o wv.AG.length&&(ix wv.AG o).RW
 else if k=16∨k=17∨k=18∨k=19 then Ee o wv.Af.length
 else if k=20∨k=21 then Ee o wv.AA.length
 else if k=22∨k=23 then Ee o wv.AK.length
 else false
theorem yD {α:Type} (l:List Ic) (o:Int) (f g:Bool->ABp α) (y:ABp α) (hf:∀b,f b=g b) (hn:y=g false) (b':Ic->Bool):(if Ee o l.length=true then(gt l o).bind λx=>f (b' x)else y)=g (Ee o l.length&&b' (ix l o)):=by
 cases h:Ee o l.length with
 |false=>simp[hn]
 |true=>rw[AAY rfl,Cd h,AAO,hf];simp
theorem Ld (wv:AD) (o:Int):∀k,Bv wv k o=some (CF wv k o):=by
 refine kinds ?_ ?_ ?_ ?_ ?_ ?_ ?_ ?_ ?_ ?_ ?_ ?_ ?_ ?_ ?_ ?_ ?_ ?_ ?_ ?_ ?_ ?_ ?_ (λk e1 e2 e3 e4 e5 e6 e7 e8 e9 rL rM fU rN rO rP dN rQ rR rS aT rT fV rU=> ?_)
 all_goals
  unfold Bv Bv.J1
  simp(decide:=true)only[CF,Bv.J2,Bv.J3,Bv.J4,Bv.J5,Bv.J6,Bv.J7,Bv.J8,Bv.J9,Jw,AAO,ABB,AAs,AAe,AAd,ABd,or_true,true_or,false_or,AAW]
 all_goals first
  |done
  | (simp only[e1,e2,e3,e4,e5,e6,e7,e8,e9,rL,rM,fU,rN,rO,rP,dN,rQ,rR,rS,aT,rT,fV,rU,AAe,or_self];done)
  |exact yD wv.AG o some some (some false) (λ_=>rfl) rfl (λx=> !x.RW)
  |exact yD wv.AG o some some (some false) (λ_=>rfl) rfl (λx=>x.RW)
theorem Wm (wv:AD) (k o:Int):Hr wv k o=some (CF wv k o):=Ld wv o k
theorem VP (l:List Int) (v:Int) (hl:l.length≤1000000000):∀(n i:Nat),i≤l.length->l.length<n+i->∃r,FF.Aa l v n (i:Int)=some r/\(0≤r↔v∈l.drop i)
 |0,i,h1,h2=>by omega
 |n+1,i,h1,h2=>by
  unfold FF.Aa FF.L1
  by_cases hi:i<l.length
  . rw[BC (by omega),CU hi,AAO,Ao (by omega),E6 hi]
    obtain⟨r,hr,XK⟩:=VP l v hl n (i+1) (by omega) (by omega)
    generalize l.drop (i+1)=rest at XK ⊢
    by_cases hx:v=l[i]
    . exact⟨i,by simp[hx],by simp[hx]⟩
    . exact⟨r,by simpa[hx]using hr,by simpa[hx]using XK⟩
  . rw[Ac (by omega),GM hi]
    exact⟨-1,rfl,by simp⟩
theorem Zy (l:List Int) (v:Int) (hl:l.length≤1000000000):GZ l v=some (l.contains v):=by
 obtain⟨r,h1,h2⟩:=VP l v hl BT 0 (by omega) (by have:=B1;omega)
 rw[AAq]at h2
 unfold GZ FF
 rw[show(0:Int)=((0:Nat):Int)from rfl,h1,AAO]
 congr 1
 rw[Bool.eq_iff_iff,decide_eq_true_iff,AAu]
 exact h2
theorem Z1 (l:List Int) (v:Int) (hl:l.length≤1000000000):∀(n i:Nat),i≤l.length->l.length<n+i->GA.Aa l v n (i:Int)=some ((l.drop i).contains v)
 |0,i,h1,h2=>by omega
 |n+1,i,h1,h2=>by
  unfold GA.Aa GA.L1
  by_cases hi:i<l.length
  . rw[BC (by omega),CU hi,AAO,Ao (by omega),E6 hi,Z1 l v hl n (i+1) (by omega) (by omega)]
    generalize l.drop (i+1)=rest
    by_cases hx:l[i]=v
    . simp[hx]
    . have:¬v=l[i]:=λh=>hx h.symm
      simp[hx,this]
  . rw[Ac (by omega),GM hi];rfl
theorem mE (l:List Int) (v:Int) (hl:l.length≤1000000000):GA l v=some (l.contains v):=Z1 l v hl BT 0 (by omega) (by have:=B1;omega)
def RB (N:Nat) (s:AN):Prop:=∀x∈s.AG,x.As.length≤N
theorem RB.ix {N:Nat} {s:AN} (h:RB N s) (i:Int):(ix s.AG i).As.length≤N:=by
 unfold Abs.ix
 cases hx:s.AG[i.toNat]? with
 |none=>exact Nat.zero_le _
 |some x=>exact h x (AAb hx)
def Kb (wv:AD) (s:AN) (t k o:Int):Bool:=
 let me:=ix s.AA t
 if k=1 then me.Status==1
 else if k=17 then me.Status==4&&(me.D8==o&&(ix s.AG (ix wv.Af o).Mutex).CW== -1)
 else me.Status==2&&(
  if k=6 then(ix s.AG o).CW== -1
  else if k=10 then(ix s.AG o).CW== -1&&((ix s.AG o).As.length:Int)==0
  else if k=8 then(ix s.AG o).CW== -1&& !(ix s.AG o).As.contains t
  else if k=7∨k=11 then(ix s.AG o).CW==t
  else if k=9 then(ix s.AG o).As.contains t
  else if k=12 then s.Tx== -1
  else if k=13 then s.Tx==t
  else if k=14 then !me.Atomic
  else if k=15 then me.Atomic
  else if k=16∨k=18∨k=19 then(ix s.AG (ix wv.Af o).Mutex).CW==t
  else if k=20 then o != t&&(ix s.AA o).Status==0
  else if k=21 then o != t&&(ix s.AA o).Status==5
  else if k=22 then !ix s.Bq o
  else if k=23 then ix s.Bq o
  else true)
def DC (wv:AD) (s:AN) (t k o:Int):Bool:=G8 wv s&&(Ee t wv.AA.length&&(CF wv k o&&Kb wv s t k o))
theorem FA {wv:AD} {s:AN} (h:G8 wv s=true):s.AG.length=wv.AG.length/\s.Bq.length=wv.AK.length/\s.AA.length=wv.AA.length:=by
 unfold G8 at h
 simp only[AAP,AAd]at h
 exact h.2
theorem HH {wv:AD} {s:AN} (h:G8 wv s=true) {o:Int} (ho:Ee o wv.Af.length=true):Ee (ix wv.Af o).Mutex wv.AG.length=true:=by
 unfold G8 at h
 simp only[AAP,AAU]at h
 obtain⟨h0,h1⟩:=B9.1 ho
 have hl:o.toNat<wv.Af.length:=by omega
 refine h.1 _ ?_
 unfold ix
 rw[AAT hl]
 exact AAi hl
theorem Lb (wv:AD) (hw:Small wv) (s:AN) (hr:RB 1000000000 s) (t o:Int):∀k,DG wv s t k o=some (DC wv s t k o):=by
 intro k
 unfold DG DC
 rw[Ol wv hw,AAO]
 cases hf:G8 wv s with
 |false=>rfl
 |true=>
  rw[Jw,AAO]
  cases ht:Ee t wv.AA.length with
  |false=>rfl
  |true=>
   rw[Ld,AAO]
   cases ha:CF wv k o with
   |false=>rfl
   |true=>
    obtain⟨l1,l2,l3⟩:=FA hf
    have gT:gt s.AA t=some (ix s.AA t):=Cd (by rw[l3];exact ht)
    unfold DG.J1
    simp only[Bool.not_true,AAW,AAe,AA0]
    rw[gT,AAO]
    revert ha
    have hR:=hr.ix o
    have hCo:=Zy (ix s.AG o).As t (hr.ix o)
    revert k
    refine kinds ?_ ?_ ?_ ?_ ?_ ?_ ?_ ?_ ?_ ?_ ?_ ?_ ?_ ?_ ?_ ?_ ?_ ?_ ?_ ?_ ?_ ?_ ?_ (λk e1 e2 e3 e4 e5 e6 e7 e8 e9 rL rM fU rN rO rP dN rQ rR rS aT rT fV rU=> ?_)
    all_goals
     intro ha
     unfold Kb
     simp(decide:=true)only[CF,ABd,or_true,true_or,false_or,AAs,AAe,AAP]at ha
     simp(decide:=true)only[DG.J2,DG.J3,D1,D1.J1,D1.J2,D1.J3,D1.J4,D1.J5,D1.J6,ABB,AAd,AAs,AAe,ABd,or_true,true_or,false_or,AAW]
    all_goals first
     |done
     | (rw[Cd (l:=wv.Af) ha,AAO,Cd (l:=s.AG) (by rw[l1];exact HH hf ha)];simp only[AAO];generalize (ix s.AA t).Status=x;generalize (ix s.AA t).D8=y;by_cases h1:x=4<;>by_cases h2:y=o<;>simp[h1,h2];done)
     | (rw[Cd (l:=wv.Af) ha,AAO,Cd (l:=s.AG) (by rw[l1];exact HH hf ha)];simp only[AAO];generalize (ix s.AA t).Status=x;by_cases h1:x=2<;>simp[h1];done)
     | (rw[Cd (l:=s.AG) (by rw[l1];exact ha.1)];simp only[AAO,hCo];generalize (ix s.AA t).Status=x;by_cases h1:x=2<;>by_cases h2:(ix s.AG o).CW= -1<;>simp[h1,h2];done)
     | (rw[Cd (l:=s.AA) (by rw[l3];exact ha)];simp only[AAO];generalize (ix s.AA t).Status=x;by_cases h1:x=2<;>by_cases h2:o=t<;>simp[h1,h2];done)
     | (rw[Cd (l:=s.Bq) (by rw[l2];exact ha)];simp only[AAO];generalize (ix s.AA t).Status=x;by_cases h1:x=2<;>simp[h1];done)
     | (generalize (ix s.AA t).Status=x;by_cases h1:x=2<;>simp[h1];done)
     | (simp only[gT,AAO];generalize (ix s.AA t).Status=x;by_cases h1:x=2<;>simp[h1];done)
     | (exfalso;revert ha;simp only[e1,e2,e3,e4,e5,e6,e7,e8,e9,rL,rM,fU,rN,rO,rP,dN,rQ,rR,rS,aT,rT,fV,rU,AAe,or_self,AAW,imp_self];done)
     |skip
theorem Pd (wv:AD) (hw:Small wv) (s:AN) (hr:RB 1000000000 s) (t o:Int):∀k,CC wv s t k o=some (DC wv s t k o):=by
 intro k
 unfold CC DC
 rw[Nr wv hw,AAO]
 cases hf:G8 wv s with
 |false=>rfl
 |true=>
  rw[cF,AAO]
  cases ht:Ee t wv.AA.length with
  |false=>rfl
  |true=>
   rw[Wm,AAO]
   cases ha:CF wv k o with
   |false=>rfl
   |true=>
    obtain⟨l1,l2,l3⟩:=FA hf
    have gT:gt s.AA t=some (ix s.AA t):=Cd (by rw[l3];exact ht)
    unfold CC.J1
    simp only[Bool.not_true,AAW,AAe,AA0]
    rw[gT,AAO]
    revert ha
    have hR:=hr.ix o
    have hCo:=mE (ix s.AG o).As t (hr.ix o)
    revert k
    refine kinds ?_ ?_ ?_ ?_ ?_ ?_ ?_ ?_ ?_ ?_ ?_ ?_ ?_ ?_ ?_ ?_ ?_ ?_ ?_ ?_ ?_ ?_ ?_ (λk e1 e2 e3 e4 e5 e6 e7 e8 e9 rL rM fU rN rO rP dN rQ rR rS aT rT fV rU=> ?_)
    all_goals
     intro ha
     unfold Kb
     simp(decide:=true)only[CF,ABd,or_true,true_or,false_or,AAs,AAe,AAP]at ha
     simp(decide:=true)only[CC.J2,CC.J3,CC.J4,CC.J5,CC.J6,CC.J7,CC.J8,ABB,AAd,AAs,AAe,ABd,or_true,true_or,false_or,AAW]
    all_goals first
     |done
     | (rw[Cd (l:=wv.Af) ha,AAO,Cd (l:=s.AG) (by rw[l1];exact HH hf ha)];simp only[AAO];generalize (ix s.AA t).Status=x;generalize (ix s.AA t).D8=y;by_cases h1:x=4<;>by_cases h2:y=o<;>simp[h1,h2];done)
     | (rw[Cd (l:=wv.Af) ha,AAO,Cd (l:=s.AG) (by rw[l1];exact HH hf ha)];simp only[AAO];generalize (ix s.AA t).Status=x;by_cases h1:x=2<;>simp[h1];done)
     | (rw[Cd (l:=s.AG) (by rw[l1];exact ha.1)];simp only[AAO,hCo];generalize (ix s.AA t).Status=x;by_cases h1:x=2<;>by_cases h2:(ix s.AG o).CW= -1<;>simp[h1,h2];done)
     | (rw[Cd (l:=s.AA) (by rw[l3];exact ha)];simp only[AAO];generalize (ix s.AA t).Status=x;by_cases h1:x=2<;>by_cases h2:o=t<;>simp[h1,h2];done)
     | (rw[Cd (l:=s.Bq) (by rw[l2];exact ha)];simp only[AAO];generalize (ix s.AA t).Status=x;by_cases h1:x=2<;>simp[h1];done)
     | (generalize (ix s.AA t).Status=x;by_cases h1:x=2<;>simp[h1];done)
     | (simp only[gT,AAO];generalize (ix s.AA t).Status=x;by_cases h1:x=2<;>simp[h1];done)
     | (exfalso;revert ha;simp only[e1,e2,e3,e4,e5,e6,e7,e8,e9,rL,rM,fU,rN,rO,rP,dN,rQ,rR,rS,aT,rT,fV,rU,AAe,or_self,AAW,imp_self];done)
     |skip
theorem Z3 (l:List Int) (x:Int) (hl:l.length≤1000000000):∀(n i:Nat),i≤l.length->l.length<n+i->(∀(k:Nat) (hk:k<l.length),k<i->l[k]<x)->EK.Aa l x n (i:Int)=some (ins l x)
 |0,i,h1,h2,_=>by omega
 |n+1,i,h1,h2,h3=>by
  unfold EK.Aa EK.L1
  have step:∀(b:Bool),(∀(hi:i<l.length),b=decide (l[i]<x))->(¬i<l.length->b=false)->EK.J1 (EK.Aa l x n) (i:Int) l x b=some (ins l x):=by
   intro b hb dK
   unfold EK.J1
   by_cases hi:i<l.length
   . rw[hb hi]
     by_cases hx:l[i]<x
     . rw[BC hx,Ao (by omega)]
       refine Z3 l x hl n (i+1) (by omega) (by omega) λk hk hki=> ?_
       by_cases e:k=i
       . subst e;exact hx
       . exact h3 k hk (by omega)
     . rw[Ac hx]
       have hp:=YW l x i h1 h3 (λ_=>hx)
       unfold EK.J2 EK.J3 ins
       rw[BC (by omega),CU hi,AAO,hp,AAT hi]
       by_cases e:l[i]=x
       . simp[e]
       . have:(l[i]==x)=false:=by simpa using e
         rw[this,AAX (by simp),ABE,AAY ⟨by omega,by omega⟩,BL (by simp;omega),BL (by simp;omega),AAY ⟨by omega,by omega⟩,BL (by simp;omega),AAX (by simpa using e)]
         have ht:(l.drop i).take (l.length-i)=l.drop i:=AA3 (by rw[List.length_drop];omega)
         rw[ht];simp
   . rw[dK hi,AAX (by simp)]
     have hp:=YW l x i h1 h3 (λh=>absurd h hi)
     have hil:i=l.length:=by omega
     unfold EK.J2 EK.J3 ins
     rw[Ac (by omega),AAX (by simp),hp,ABE,AAY ⟨by omega,by omega⟩,BL (by simp;omega),BL (by simp;omega),AAY ⟨by omega,by omega⟩,BL (by simp;omega),AAX (by simp[hil])]
     congr 1
     simp[hil]
  by_cases hi:i<l.length
  . rw[BC (by omega),CU hi,AAO]
    exact step _ (λ_=>rfl) (λh=>absurd hi h)
  . rw[Ac (by omega)]
    exact step _ (λh=>absurd h hi) (λ_=>rfl)
theorem sV (l:List Int) (x:Int) (hl:l.length≤1000000000):EK l x=some (ins l x):=Z3 l x hl BT 0 (by omega) (by have:=B1;omega) (λk hk h=>by omega)
theorem Union.L2 (b:List Int):∀(n i:Nat) (out:List Int),i≤b.length->b.length<n+i->out.length+b.length≤1000000000+i->b.length≤1000000000->Dk.C2 b n out (i:Int)=some ((b.drop i).foldl ins out)
 |0,i,out,h1,h2,h3,h4=>by omega
 |n+1,i,out,h1,h2,h3,h4=>by
  unfold Dk.C2 Dk.L2
  by_cases hi:i<b.length
  . have hl:=V5 out b[i]
    rw[BC (by omega),CU hi,AAO,sV _ _ (by omega),AAO,Ao (by omega),Union.L2 b n (i+1) _ (by omega) (by omega) (by omega) h4,E6 hi,List.foldl_cons]
  . rw[Ac (by omega),GM hi];rfl
theorem Union.L1 (a b:List Int) (hb:a.length+b.length≤1000000000):∀(n i:Nat) (out:List Int),i≤a.length->a.length<n+i->out.length≤i->Dk.Aa a b n out (i:Int)=some (b.foldl ins ((a.drop i).foldl ins out))
 |0,i,out,h1,h2,h3=>by omega
 |n+1,i,out,h1,h2,h3=>by
  unfold Dk.Aa Dk.L1
  by_cases hi:i<a.length
  . have hl:=V5 out a[i]
    rw[BC (by omega),CU hi,AAO,sV _ _ (by omega),AAO,Ao (by omega),Union.L1 a b hb n (i+1) _ (by omega) (by omega) (by omega),E6 hi,List.foldl_cons]
  . rw[Ac (by omega),GM hi]
    unfold Dk.J1
    have:=Union.L2 b BT 0 out (by omega) (by have:=B1;omega) (by omega) (by omega)
    rw[AAq]at this
    exact this
theorem Z6 (a b:List Int) (hb:a.length+b.length≤1000000000):Dk a b=some (UE (a++b)):=by
 have:=Union.L1 a b hb BT 0 [] (by omega) (by have:=B1;omega) (by simp)
 rw[AAq,← List.foldl_append]at this
 refine Eq.trans this ?_
 rw[← o0];rfl
theorem NU (l:List Int) (x:Int) (hl:l.length≤1000000000):∀(n i:Nat) (out:List Int),i≤l.length->l.length<n+i->out.length≤i->Dl.Aa l x n out (i:Int)=some (out++(l.drop i).filter λy=> !(y==x))
 |0,i,out,h1,h2,h3=>by omega
 |n+1,i,out,h1,h2,h3=>by
  unfold Dl.Aa Dl.L1
  by_cases hi:i<l.length
  . unfold Dl.J1
    rw[BC (by omega),CU hi,AAO,E6 hi,List.filter_cons,Ao (by omega)]
    by_cases e:l[i]=x
    . have h1':(l[i] != x)=false:=by simp[e]
      have h2':(!(l[i]==x))=false:=by simp[e]
      rw[h1',h2',AAX (by simp),AAX (by simp)]
      exact NU l x hl n (i+1) out (by omega) (by omega) (by omega)
    . have h1':(l[i] != x)=true:=by simpa using e
      have h2':(!(l[i]==x))=true:=by simpa using e
      rw[h1',h2',AAY rfl,AAY rfl,BL (by omega),NU l x hl n (i+1) _ (by omega) (by omega) (by simp;omega)]
      simp
  . rw[Ac (by omega),GM hi]
    simp[Dl.J2]
theorem jH (l:List Int) (x:Int) (hl:l.length≤1000000000):Dl l x=some (l.filter λy=> !(y==x)):=by
 have:=NU l x hl BT 0 [] (by omega) (by have:=B1;omega) (by simp)
 rw[AAq]at this
 exact this
def Ia (x:AE) (o:Int):Bool:=x.Status==3&&x.D8==o
def Bz (o:Int):Nat->List AE->List Int
 |_,[]=>[]
 |i,x::r=>if Ia x o=true then(i:Int)::Bz o (i+1) r else Bz o (i+1) r
theorem VJ (o:Int) (T:List AE):∀i,(Bz o i T).length≤T.length:=by
 induction T with
 |nil=>intro i;simp[Bz]
 |cons x r ih=>
  intro i
  have:=ih (i+1)
  unfold Bz
  split<;>simp<;>omega
theorem Ie (o:Int) (T:List AE):∀(i:Nat) (u:Int),u∈Bz o i T->(i:Int)≤u/\u<((i+T.length:Nat):Int):=by
 induction T with
 |nil=>intro i u h;simp[Bz]at h
 |cons x r ih=>
  intro i u h
  unfold Bz at h
  split at h
  . rcases AAp.1 h with rfl|h
    . simp;omega
    . have:=ih (i+1) u h;simp at this ⊢;omega
  . have:=ih (i+1) u h;simp at this ⊢;omega
theorem dA (x:AE) (o:Int):FB x o=some (Ia x o):=by
 unfold FB FB.J1 Ia
 cases(x.Status==3)<;>simp
theorem Mm (s:AN) (o:Int) (hl:s.AA.length≤1000):∀(n i:Nat) (l:List Int),i≤s.AA.length->s.AA.length<n+i->l.length≤i->CO.Aa o s n l (i:Int)=some (l++Bz o i (s.AA.drop i))
 |0,i,l,h1,h2,h3=>by omega
 |n+1,i,l,h1,h2,h3=>by
  unfold CO.Aa CO.L1
  by_cases hi:i<s.AA.length
  . unfold CO.J1 CO.J2
    rw[BC (by omega),CU hi,AAO,E6 hi,Bz,Ao (by omega),BL (by omega)]
    have a1:=Mm s o hl n (i+1) (l++[(i:Int)]) (by omega) (by omega) (by simp;omega)
    have a2:=Mm s o hl n (i+1) l (by omega) (by omega) (by omega)
    unfold Ia
    rw[a1,a2]
    cases(s.AA[i].Status==3)<;>cases(s.AA[i].D8==o)<;>simp
  . rw[Ac (by omega),GM hi]
    simp[CO.J3,Bz]
theorem Yz (s:AN) (o:Int) (hl:s.AA.length≤1000):CO s o=some (Bz o 0 s.AA):=by
 have:=Mm s o hl BT 0 [] (by omega) (by have:=B1;omega) (by simp)
 rw[AAq]at this
 exact this
def LR (wake:Int):Int->List Int->Int
 |c,[]=>c
 |c,w::r=>LR wake (if c<0∨w=wake then w else c) r
theorem aP (wake:Int) (W:List Int) (hW:∀w∈W,0≤w):∀c,0≤c->LR wake c W=if W.contains wake=true then wake else c:=by
 induction W with
 |nil=>intro c _;simp[LR]
 |cons w r ih=>
  intro c hc
  have hr:=ih (λw h=>hW w (List.mem_cons_of_mem _ h))
  unfold LR
  by_cases e:w=wake
  . rw[AAY (.inr e),hr w (hW w (ABL ..))]
    subst e;simp
  . have e':¬wake=w:=λh=>e h.symm
    rw[AAX (by simp[e];omega),hr c hc]
    simp[e']
def EX (wake:Int) (W:List Int):Int:=if W=[]then -1 else if W.contains wake=true then wake else W.headD 0
theorem fP (wake:Int) (W:List Int) (hW:∀w∈W,0≤w):LR wake (-1) W=EX wake W:=by
 cases W with
 |nil=>rfl
 |cons w r=>
  unfold LR EX
  rw[AAY (.inl (by omega)),aP wake r (λw h=>hW w (List.mem_cons_of_mem _ h)) w (hW w (ABL ..)),AAX (c:=w::r=[]) (by simp)]
  by_cases e:wake=w
  . subst e
    have hc:(wake::r).contains wake=true:=by simp
    rw[hc,AAY rfl]
    split<;>rfl
  . have hc:(w::r).contains wake=r.contains wake:=by simp[e]
    rw[hc];rfl
theorem T4 (T:List AE) (o wake:Int) (hl:T.length≤1000):∀(n i:Nat) (c:Int),i≤T.length->T.length<n+i->Cm.Aa o T wake n c (i:Int)=Cm.J3 T (LR wake c (Bz o i (T.drop i)))
 |0,i,c,h1,h2=>by omega
 |n+1,i,c,h1,h2=>by
  unfold Cm.Aa Cm.L1
  by_cases hi:i<T.length
  . unfold Cm.J1 Cm.J2
    rw[BC (by omega),CU hi,AAO,dA,AAO,E6 hi,Bz,Ao (by omega)]
    have ih:=λc=>T4 T o wake hl n (i+1) c (by omega) (by omega)
    simp only[ih]
    cases Ia T[i] o with
    |false=>simp
    |true=>
     simp only[AAs,LR]
     by_cases hc:c<0
     . simp[hc]
     . by_cases hw:(i:Int)=wake<;>simp[hc,hw]
  . rw[Ac (by omega),GM hi];rfl
def Hv (x:AE):AE:=⟨4,x.D8,x.Atomic⟩
def IM (o:Int) (x:AE):AE:=if Ia x o=true then Hv x else x
theorem pX (tx:Int) (T:List AE) (o wake:Int) (hl:T.length≤1000):Cm tx T o wake=some (EX wake (Bz o 0 T),if Bz o 0 T=[]then T else T.set (EX wake (Bz o 0 T)).toNat (Hv (ix T (EX wake (Bz o 0 T))))):=by
 have h:=T4 T o wake hl BT 0 (-1) (by omega) (by have:=B1;omega)
 rw[AAq,fP _ _ (λw hw=>(Ie o T 0 w hw).1)]at h
 refine Eq.trans h ?_
 unfold Cm.J3 Cm.J4
 by_cases e:Bz o 0 T=[]
 . rw[e];simp[EX]
 . have hm:EX wake (Bz o 0 T)∈Bz o 0 T:=by
    unfold EX
    rw[AAX e]
    split
    . rename_i h;simpa using h
    . cases hW:Bz o 0 T with
      |nil=>exact absurd hW e
      |cons w r=>simp
   have hb:=Ie o T 0 _ hm
   rw[AAX e,BC (by omega),Cd (B9.2 (by simpa using hb))]
   rfl
theorem K6 (T:List AE) (o:Int) (hl:T.length≤1000):∀(n i:Nat) (c:Nat),i≤T.length->T.length<n+i->c≤i->
 Cg.Aa o T n ((T.take i).map (IM o)++T.drop i) (c:Int) (i:Int)=some (((c+(Bz o i (T.drop i)).length:Nat):Int),T.map (IM o))
 |0,i,c,h1,h2,_=>by omega
 |n+1,i,c,h1,h2,h3=>by
  unfold Cg.Aa Cg.L1
  by_cases hi:i<T.length
  . have hlen:((T.take i).map (IM o)).length=i:=by simp;omega
    have hx:gt ((T.take i).map (IM o)++T.drop i) (i:Int)=some T[i]:=by
     rw[LG,AAt (by omega),hlen,Nat.sub_self,E6 hi];rfl
    unfold Cg.J1
    rw[BC (by omega),hx,AAO,dA,AAO,Ao (i:=i) (by omega),Ao (i:=c) (by omega),ABE]
    have OV:∀y,y=IM o T[i]->(T.take i).map (IM o)++y::T.drop (i+1)=(T.take (i+1)).map (IM o)++T.drop (i+1):=by
     rintro y rfl
     rw[← AAk hi,AA9];simp
    have gR:((T.take i).map (IM o)++T.drop i).set i (AE.mk 4 T[i].D8 T[i].Atomic)=(T.take i).map (IM o)++AE.mk 4 T[i].D8 T[i].Atomic::T.drop (i+1):=by
     rw[List.set_append_right _ _ (by omega),hlen,Nat.sub_self,E6 hi];rfl
    have IK:(T.take i).map (IM o)++T.drop i=(T.take i).map (IM o)++T[i]::T.drop (i+1):=by rw[← E6 hi]
    rw[gR,IK,E6 hi,Bz]
    cases hw:Ia T[i] o with
    |true=>
     rw[AAY rfl,AAY rfl,OV _ (by simp[IM,hw,Hv]),K6 T o hl n (i+1) (c+1) (by omega) (by omega) (by omega)]
     congr 3
     simp;omega
    |false=>
     rw[AAX (by simp),AAX (by simp),OV _ (by simp[IM,hw]),K6 T o hl n (i+1) c (by omega) (by omega) (by omega)]
  . rw[Ac (by omega),GM hi,AA3 (by omega)]
    simp[Cg.J2,Bz]
theorem ZL (tx:Int) (T:List AE) (o:Int) (hl:T.length≤1000):Cg tx T o=some (((Bz o 0 T).length:Int),T.map (IM o)):=by
 have:=K6 T o hl BT 0 0 (by omega) (by have:=B1;omega) (by omega)
 simp only[List.take_zero,AA2,AAq,ABI,ABS]at this
 exact this
structure Tn (s:AN):Prop where
 l:s.AG.length≤1000
 d:s.Bq.length≤1000
 t:s.AA.length≤1000
 r:RB 1000000 s
theorem Vi (s:AN) (hs:Tn s):∀(n i:Nat),i≤s.AG.length->s.AG.length<n+i->
 Dz.Aa s n (s.AG.take i++List.replicate (s.AG.length-i) ⟨0,[]⟩) (i:Int)=some s
 |0,i,h1,h2=>by omega
 |n+1,i,h1,h2=>by
  have:=hs.l;have:=hs.d;have:=hs.t
  unfold Dz.Aa Dz.L1
  by_cases hi:i<s.AG.length
  . have hlen:(s.AG.take i).length=i:=by simp;omega
    have e:List.replicate (s.AG.length-i) (AW.mk 0 [])=AW.mk 0 []::List.replicate (s.AG.length-(i+1)) (AW.mk 0 []):=by
     rw[show s.AG.length-i=(s.AG.length-(i+1))+1 from by omega,List.replicate_succ]
    have hx:gt (s.AG.take i++List.replicate (s.AG.length-i) (AW.mk 0 [])) (i:Int)=some ⟨0,[]⟩:=by
     rw[LG,e,AAt (by omega),hlen];simp
    have gR:(s.AG.take i++List.replicate (s.AG.length-i) (AW.mk 0 [])).set i s.AG[i]=s.AG.take (i+1)++List.replicate (s.AG.length-(i+1)) (AW.mk 0 []):=by
     rw[e,List.set_append_right _ _ (by omega),hlen,Nat.sub_self,List.set_cons_zero,← AAk hi,AA6];rfl
    have hr:=hs.r _ (AAi hi)
    unfold slices_Clone_int
    rw[BC (by omega),CU hi,AAO,BL (by omega),AAO,hx,AAO,Ao (by omega),ABE]
    show Dz.Aa s n ((s.AG.take i++List.replicate (s.AG.length-i) (AW.mk 0 [])).set i s.AG[i]) _=_
    rw[gR]
    exact Vi s hs n (i+1) (by omega) (by omega)
  . rw[Ac (by omega),AA3 (by omega),show s.AG.length-i=0 from by omega]
    unfold Dz.J1 HA EB
    rw[BL (by omega),AAO,BL (by omega),AAO]
    simp
theorem uX (s:AN) (hs:Tn s):Dz s=some s:=by
 have:=hs.l
 unfold Dz
 rw[AAY ⟨by omega,by omega,DK (by omega)⟩]
 have h:=Vi s hs BT 0 (by omega) (by have:=B1;omega)
 rw[List.take_zero,ABI]at h
 exact h
theorem X7 (s:AN) (hs:Tn s) (tx:Int) (D:List Bool) (T:List AE):∀(n i:Nat),i≤s.AG.length->s.AG.length<n+i->
 Fe.Aa s n ⟨s.AG.take i,tx,D,T⟩ (i:Int)=some ⟨s.AG,tx,D,T⟩
 |0,i,h1,h2=>by omega
 |n+1,i,h1,h2=>by
  have:=hs.l
  unfold Fe.Aa Fe.L1
  by_cases hi:i<s.AG.length
  . have hr:=hs.r _ (AAi hi)
    rw[BC (by omega),CU hi,AAO,BL (by omega),BL (by simp;omega),Ao (by omega)]
    simp only[AAk hi]
    exact X7 s hs tx D T n (i+1) (by omega) (by omega)
  . rw[Ac (by omega),AA3 (by omega)];rfl
theorem jQ (s:AN) (hs:Tn s):Fe s=some s:=by
 have:=hs.l;have:=hs.d;have:=hs.t
 unfold Fe
 rw[BL (by omega),BL (by omega)]
 exact X7 s hs s.Tx s.Bq s.AA BT 0 (by omega) (by have:=B1;omega)
def LB (s:AN) (i:Int) (f:AE->AE):AN:=⟨s.AG,s.Tx,s.Bq,s.AA.set i.toNat (f (ix s.AA i))⟩
def Kc (s:AN) (i:Int) (f:AW->AW):AN:=⟨s.AG.set i.toNat (f (ix s.AG i)),s.Tx,s.Bq,s.AA⟩
def EN (wv:AD) (s:AN) (t k o wake:Int):AN×Int:=
 if k=1 then(LB s t λx=>⟨2,x.D8,x.Atomic⟩,0)
 else if k=2 then(LB s t λx=>⟨5,x.D8,x.Atomic⟩,0)
 else if k=6∨k=10 then(Kc s o λx=>⟨t,x.As⟩,0)
 else if k=7∨k=11 then(Kc s o λx=>⟨-1,x.As⟩,0)
 else if k=8 then(Kc s o λx=>⟨x.CW,UE (x.As++[t])⟩,0)
 else if k=9 then(Kc s o λx=>⟨x.CW,x.As.filter λy=> !(y==t)⟩,0)
 else if k=12 then(⟨s.AG,t,s.Bq,s.AA⟩,0)
 else if k=13 then(⟨s.AG, -1,s.Bq,s.AA⟩,0)
 else if k=14 then(LB s t λx=>⟨x.Status,x.D8,true⟩,0)
 else if k=15 then(LB s t λx=>⟨x.Status,x.D8,false⟩,0)
 else if k=16 then(LB (Kc s (ix wv.Af o).Mutex λx=>⟨-1,x.As⟩) t λx=>⟨3,o,x.Atomic⟩,0)
 else if k=17 then(LB (Kc s (ix wv.Af o).Mutex λx=>⟨t,x.As⟩) t λx=>⟨2,0,x.Atomic⟩,0)
 else if k=18 then(if Bz o 0 s.AA=[]then s else LB s (EX wake (Bz o 0 s.AA)) Hv,EX wake (Bz o 0 s.AA))
 else if k=19 then(⟨s.AG,s.Tx,s.Bq,s.AA.map (IM o)⟩,((Bz o 0 s.AA).length:Int))
 else if k=20 then(LB s o λx=>⟨1,x.D8,x.Atomic⟩,0)
 else if k=22 then(⟨s.AG,s.Tx,s.Bq.set o.toNat true,s.AA⟩,0)
 else(s,0)
def fX:AN:=⟨[],0,[],[]⟩
def Nt (wv:AD) (s:AN) (t k o wake:Int):AN×Int×Bool:=if DC wv s t k o=true then((EN wv s t k o wake).1,(EN wv s t k o wake).2,true)else(fX,0,false)
theorem W4 {l:List AE} {t:Int} (ht:Ee t l.length=true) (a:AE):gt (l.set t.toNat a) t=some a:=by
 obtain⟨h0,h1⟩:=B9.1 ht
 have:t.toNat<l.length:=by omega
 unfold gt
 rw[AAY h0,AAS this]
theorem Tn.of {wv:AD} (hw:Small wv) {s:AN} (hf:G8 wv s=true) (hr:RB 1000000 s):Tn s:=by
 obtain⟨l1,l2,l3⟩:=FA hf
 have:=hw.l;have:=hw.f;have:=hw.t
 exact⟨by omega,by omega,by omega,hr⟩
theorem RB.mono {N M:Nat} {s:AN} (h:RB N s) (hM:N≤M):RB M s:=λx hx=>ABO (h x hx) hM
theorem Sort_eq (l:List Int) (hl:l.length≤1000000000):Lm l=some (QH l):=by
 unfold Lm;rw[AAY (by omega)];rfl
theorem eE (l:List Int) (hl:l.length≤1000000000):slices_Compact l=some (Lib.compact l):=by
 unfold slices_Compact;rw[AAY (by omega)]
theorem UU (wv:AD) (hw:Small wv) (s:AN) (hr:RB 1000000 s) (t o wake:Int):∀k,Em wv s t k o wake=some (Nt wv s t k o wake):=by
  intro k
  unfold Em Nt
  rw[Lb wv hw s (hr.mono (by omega)),AAO]
  cases he:DC wv s t k o with
  |false=>rfl
  |true=>
    have he':=he
    unfold DC at he'
    simp only[AAP]at he'
    obtain⟨hf,ht,ha,RF⟩:=he'
    obtain⟨l1,l2,l3⟩:=FA hf
    have hfi:=Tn.of hw hf hr
    have oW:Ee t s.AA.length=true:=by rw[l3];exact ht
    have gT:gt s.AA t=some (ix s.AA t):=Cd oW
    have gTT:=W4 oW
    have hix:=hr.ix o
    have hsl:(QH ((ix s.AG o).As++[t])).length≤1000000000:=by rw[Rw];simp;omega
    have hN:=pX s.Tx s.AA o wake hfi.t
    have hA:=ZL s.Tx s.AA o hfi.t
    rw[uX s hfi,AAO,AAX (by simp)]
    clear he
    revert ha RF
    revert k
    refine kinds ?_ ?_ ?_ ?_ ?_ ?_ ?_ ?_ ?_ ?_ ?_ ?_ ?_ ?_ ?_ ?_ ?_ ?_ ?_ ?_ ?_ ?_ ?_ (λk e1 e2 e3 e4 e5 e6 e7 e8 e9 rL rM fU rN rO rP dN rQ rR rS aT rT fV rU=> ?_)
    all_goals
      intro ha RF
      unfold EN
      simp(decide:=true)only[CF,ABd,or_true,true_or,false_or,AAs,AAe,AAP]at ha
      simp(decide:=true)only[Em.J1,Em.J2,Em.J3,ABB,AAd,AAs,AAe,ABd,or_true,true_or,false_or,AAW]
    all_goals first
      |done
      | (rw[gT,AAO];rfl)
      | (rw[Cd (l:=s.AG) (by rw[l1];exact ha.1),AAO];rfl)
      | (rw[Cd (l:=s.AG) (by rw[l1];exact ha.1),AAO,BL (by omega),Sort_eq _ (by simp;omega),AAO,eE _ hsl,AAO];rfl)
      | (rw[Cd (l:=s.AG) (by rw[l1];exact ha.1),AAO]
         unfold Ht
         have Np:(ix s.AG o).As≠[]:=by
           intro h
           simp(decide:=true)only[Kb,AAs,AAe,ABd,or_true,true_or,false_or,h,List.contains_nil,Bool.and_false,AAW]at RF
         rw[AAY ⟨Np,by omega⟩,AAO];rfl)
      | (rw[Cd (l:=wv.Af) ha,AAO,Cd (l:=s.AG) (by rw[l1];exact HH hf ha),AAO,gT,AAO,gTT,AAO];simp only[List.set_set];rfl)
      | (rw[hN,AAO];simp only;by_cases hW:Bz o 0 s.AA=[]<;>simp only[hW,AAs,AAe]<;>rfl)
      | (rw[hA,AAO];done)
      | (rw[Cd (l:=s.AA) (by rw[l3];exact ha),AAO];rfl)
      | (rw[Cd (l:=s.Bq) (by rw[l2];exact ha),AAO];done)
      |rfl
      | (exfalso;revert ha;simp only[e1,e2,e3,e4,e5,e6,e7,e8,e9,rL,rM,fU,rN,rO,rP,dN,rQ,rR,rS,aT,rT,fV,rU,AAe,or_self,AAW,imp_self];done)
      |skip
theorem setAll (o:Int) (suf:List AE):∀(pre:List AE),(Bz o pre.length suf).foldl (λT (u:Int)=>T.set u.toNat (Hv (ix T u))) (pre++suf)=pre++suf.map (IM o):=by
 induction suf with
 |nil=>intro pre;simp[Bz]
 |cons x r ih=>
  intro pre
  unfold Bz
  have hix:ix (pre++x::r) ((pre.length:Nat):Int)=x:=by
   unfold ix;rw[ABE,AAt (AAy _)];simp
  have ihp:=λy=>ih (pre++[y])
  simp only[AA1,AA7,ABR,ABS,AA6,List.singleton_append]at ihp
  cases hw:Ia x o with
  |true=>
   rw[AAY rfl,List.foldl_cons,hix,ABE,List.set_append_right _ _ (AAy _),Nat.sub_self,List.set_cons_zero,ihp]
   simp[IM,hw]
  |false=>
   rw[AAX (by simp),ihp]
   simp[IM,hw]
theorem T6 (W:List Int) (hl:W.length≤1000000):∀(n i:Nat) (s:AN),i≤W.length->W.length<n+i->(∀u∈W,Ee u s.AA.length=true)->
 Cx.Aa W n s (i:Int)=some (⟨s.AG,s.Tx,s.Bq,(W.drop i).foldl (λT (u:Int)=>T.set u.toNat (Hv (ix T u))) s.AA⟩,(W.length:Int),true)
 |0,i,s,h1,h2,_=>by omega
 |n+1,i,s,h1,h2,h3=>by
  unfold Cx.Aa Cx.L1
  by_cases hi:i<W.length
  . rw[BC (by omega),CU hi,AAO,Cd (h3 _ (AAi hi)),AAO,Ao (by omega),T6 W hl n (i+1) _ (by omega) (by omega) (by simpa using h3),E6 hi,List.foldl_cons]
    rfl
  . rw[Ac (by omega),GM hi];rfl
theorem Sd (wv:AD) (hw:Small wv) (s:AN) (hr:RB 1000000 s) (t o wake:Int):∀k,Cx wv s t k o wake=some (Nt wv s t k o wake):=by
 intro k
 unfold Cx Nt
 rw[Pd wv hw s (hr.mono (by omega)),AAO]
 cases he:DC wv s t k o with
 |false=>rfl
 |true=>
  have he':=he
  unfold DC at he'
  simp only[AAP]at he'
  obtain⟨hf,ht,ha,RF⟩:=he'
  obtain⟨l1,l2,l3⟩:=FA hf
  have hfi:=Tn.of hw hf hr
  have oW:Ee t s.AA.length=true:=by rw[l3];exact ht
  have gT:gt s.AA t=some (ix s.AA t):=Cd oW
  have gTT:=W4 oW
  have hix:=hr.ix o
  have hW:=Yz s o hfi.t
  have hWl:=VJ o s.AA 0
  have hWt:=hfi.t
  rw[jQ s hfi,AAO,AAX (by simp)]
  clear he
  revert ha RF
  revert k
  refine kinds ?_ ?_ ?_ ?_ ?_ ?_ ?_ ?_ ?_ ?_ ?_ ?_ ?_ ?_ ?_ ?_ ?_ ?_ ?_ ?_ ?_ ?_ ?_ (λk e1 e2 e3 e4 e5 e6 e7 e8 e9 rL rM fU rN rO rP dN rQ rR rS aT rT fV rU=> ?_)
  all_goals
   intro ha RF
   unfold EN
   simp(decide:=true)only[CF,ABd,or_true,true_or,false_or,AAs,AAe,AAP]at ha
   simp(decide:=true)only[Cx.J1,Cx.J2,Cx.J5,ABB,AAd,AAs,AAe,ABd,or_true,true_or,false_or,AAW]
  all_goals first
   |done
   | (rw[gT,AAO];rfl)
   | (rw[Cd (l:=s.AG) (by rw[l1];exact ha.1),AAO];rfl)
   | (rw[Cd (l:=s.AG) (by rw[l1];exact ha.1),AAO,Z6 _ _ (by simp;omega),AAO];rfl)
   | (rw[Cd (l:=s.AG) (by rw[l1];exact ha.1),AAO,jH _ _ (by omega),AAO];rfl)
   | (rw[Cd (l:=wv.Af) ha,AAO,Cd (l:=s.AG) (by rw[l1];exact HH hf ha),AAO,gT,AAO,gTT,AAO];simp only[List.set_set];rfl)
   | (rw[Cd (l:=s.AA) (by rw[l3];exact ha),AAO];rfl)
   | (rw[Cd (l:=s.Bq) (by rw[l2];exact ha),AAO];done)
   |rfl
   | (exfalso;revert ha;simp only[e1,e2,e3,e4,e5,e6,e7,e8,e9,rL,rM,fU,rN,rO,rP,dN,rQ,rR,rS,aT,rT,fV,rU,AAe,or_self,AAW,imp_self];done)
   |skip
  . -- a notification
    rw[hW,AAO]
    cases hWW:Bz o 0 s.AA with
    |nil=>rfl
    |cons w r=>
     have hlen:(w::r).length≤1000:=by rw[← hWW];omega
     have hm:∀u,u∈w::r->Ee u s.AA.length=true:=λu hu=>by
      have:=Ie o s.AA 0 u (by rw[hWW];exact hu)
      exact B9.2 (by simpa using this)
     have h0:gt (w::r) 0=some w:=rfl
     rw[BC (by simp only[AA7];omega),h0,AAO,mE _ _ (by omega),AAO]
     unfold Cx.J3 Cx.J5 EX
     rw[AAX (c:=w::r=[]) (by simp),AAX (c:=w::r=[]) (by simp)]
     cases hc:(w::r).contains wake with
     |true=>
      rw[AAY rfl,Cd (hm wake (by simpa using hc)),AAO];rfl
     |false=>
      rw[AAX (by simp),Cd (hm w (ABL ..)),AAO];rfl
  . -- of all
    have hm:∀u,u∈Bz o 0 s.AA->Ee u s.AA.length=true:=λu hu=>by
     have:=Ie o s.AA 0 u hu
     exact B9.2 (by simpa using this)
    have h1:=T6 (Bz o 0 s.AA) (by omega) BT 0 s (by omega) (by have:=B1;omega) hm
    have h2:=setAll o s.AA []
    simp only[ABR,ABI]at h2
    rw[AAq,h2]at h1
    rw[hW,AAO]
    exact h1
instance:Inhabited AN:=⟨fX⟩
def OC:AB:=⟨fX,[],[],[]⟩
def S7 (ev:AH):Prop:=ev.D9.length<4611686018427387904/\ev.Db.length<4611686018427387904
def ND (wv:AD) (ev:AH):Bool:=if ev.Kind=1∨ev.Kind=2 then ev.Site== -1 else Ee ev.Site wv.A7.length&&(ix wv.A7 ev.Site).Thread==ev.Thread
def Gb (c:Int):Int->List Int->Bool
 |_,[]=>true
 |last,x::r=>decide (last<x)&&(decide (x<c)&&Gb c x r)
def RT (wv:AD) (ev:AH):Bool:=if ev.Kind=3∨ev.Kind=4 then(ix wv.Cells ev.Obj).B0 != 0 else false
def FN (wv:AD) (s:AB) (ev:AH):Bool:=
 ((ev.D9.isEmpty||(ev.Kind==5||RT wv ev))&&Gb (ix s.Count ev.Thread) 0 ev.D9)&&((ev.Db.isEmpty||(ev.Kind==4||ev.Kind==22))&&Gb (ix s.Count ev.Thread) 0 ev.Db)
def JE (s:AB) (ev:AH):Bool:=
 if ev.Kind=3 then ev.Value==ix s.Cells ev.Obj
 else if ev.Kind=23 then ev.Value==ix s.AK ev.Obj
 else if ev.Kind=5 then ev.Value==0||ev.Value==1
 else if ev.Kind=4∨ev.Kind=22 then true
 else if ev.Kind=18 then(Bz ev.Obj 0 s.Sync.AA).contains ev.Value||((Bz ev.Obj 0 s.Sync.AA).isEmpty&&ev.Value== -1)
 else if ev.Kind=19 then ev.Value==((Bz ev.Obj 0 s.Sync.AA).length:Int)
 else ev.Value==0
theorem p7 (wv:AD) (ev:AH):Cp wv ev=some (ND wv ev):=by
 unfold Cp Cp.J1 ND
 by_cases h1:ev.Kind=1
 . simp[h1]
 . by_cases h2:ev.Kind=2
   . simp[h2]
   . have e1:(ev.Kind==1)=false:=by simpa using h1
     have e2:(ev.Kind==2)=false:=by simpa using h2
     rw[e1,e2,AAX (c:=ev.Kind=1∨ev.Kind=2) (by simp[h1,h2])]
     simp only[AAW,AAe]
     unfold Cp.J2
     by_cases a1:ev.Site≥0
     . by_cases a2:ev.Site<(wv.A7.length:Int)
       . have hi:Ee ev.Site wv.A7.length=true:=B9.2 ⟨a1,a2⟩
         rw[BC a1,BC a2,Cd hi,AAO,hi];rfl
       . have:Ee ev.Site wv.A7.length=false:=by simp[Ee];omega
         rw[BC a1,Ac a2,this];rfl
     . have:Ee ev.Site wv.A7.length=false:=by simp[Ee];omega
       rw[Ac a1,this];rfl
theorem dec.L2 (L1:Int->ABp Bool) (ev:AH) (l:List Int) (s:AB) (t:Int) (hc:gt s.Count ev.Thread=some (ix s.Count ev.Thread)) (hl:l.length<4611686018427387904):∀(n i:Nat) (last:Int),i≤l.length->l.length<n+i->
 AX.C2 L1 ev l s t n last (i:Int)=if Gb (ix s.Count ev.Thread) last (l.drop i)=true then AX.J6 L1 t else some false
 |0,i,last,h1,h2=>by omega
 |n+1,i,last,h1,h2=>by
  unfold AX.C2 AX.L2
  by_cases hi:i<l.length
  . unfold AX.J5
    rw[BC (by omega),CU hi,AAO,hc,E6 hi,Ao (by omega),dec.L2 L1 ev l s t hc hl n (i+1) _ (by omega) (by omega)]
    generalize l[i]=x
    rw[Gb]
    by_cases a1:x≤last
    . have:¬last<x:=by omega
      simp[a1,this]
    . have b1:last<x:=by omega
      by_cases a2:x≥ix s.Count ev.Thread
      . have:¬x<ix s.Count ev.Thread:=by omega
        simp[a1,b1,a2,this]
      . have:x<ix s.Count ev.Thread:=by omega
        simp[a1,b1,a2,this]
  . rw[Ac (by omega),GM hi]
    simp[Gb]
theorem aJ:BT=(BT-3)+3:=rfl
theorem det.J4 (L1:Int->ABp Bool) (ev:AH) (l:List Int) (s:AB) (t:Int) (hc:gt s.Count ev.Thread=some (ix s.Count ev.Thread)) (hl:l.length<4611686018427387904) (b:Bool):
 AX.J4 L1 ev l s t b=if(!b&&Gb (ix s.Count ev.Thread) 0 l)=true then AX.J6 L1 t else some false:=by
 unfold AX.J4
 cases b with
 |true=>simp
 |false=>
  have:=dec.L2 L1 ev l s t hc hl BT 0 0 (by omega) (by have:=B1;omega)
  rw[AAq]at this
  simpa using this
theorem det.J2 (wv:AD) (s:AB) (ev:AH) (he:S7 ev) (hc:gt s.Count ev.Thread=some (ix s.Count ev.Thread)) (a b:Bool):
 AX.J2 ev s a b=some (((ev.D9.isEmpty||a)&&Gb (ix s.Count ev.Thread) 0 ev.D9)&&((ev.Db.isEmpty||b)&&Gb (ix s.Count ev.Thread) 0 ev.Db)):=by
 unfold AX.J2
 rw[aJ]
 generalize BT-3=m
 have r3:AX.Aa a b ev s (m+1) 2=some true:=by
  unfold AX.Aa AX.L1;rfl
 have hJ3:∀(L1:Int->ABp Bool) (t:Int) (l:List Int) (c:Bool),l.length<4611686018427387904->(t=0/\c=a∨t=1/\c=b)->AX.J3 L1 a b ev s t l=if((l.isEmpty||c)&&Gb (ix s.Count ev.Thread) 0 l)=true then AX.J6 L1 t else some false:=by
  intro L1 t l c hl hx
  unfold AX.J3
  rw[det.J4 _ _ _ _ _ hc hl,det.J4 _ _ _ _ _ hc hl,det.J4 _ _ _ _ _ hc hl]
  cases l with
  |nil=>simp
  |cons x r=>
   rw[BC (by simp only[AA7];omega)]
   rcases hx with⟨rfl,rfl⟩|⟨rfl,rfl⟩<;>simp
 have r2:AX.Aa a b ev s (m+2) 1=some ((ev.Db.isEmpty||b)&&Gb (ix s.Count ev.Thread) 0 ev.Db):=by
  unfold AX.Aa AX.L1
  rw[BC (by decide),AAX (by decide),AAY (by decide),hJ3 _ 1 ev.Db b he.2 (.inr ⟨rfl,rfl⟩)]
  unfold AX.J6
  rw[show Ap (1+1)=2 from rfl,r3]
  cases((ev.Db.isEmpty||b)&&Gb (ix s.Count ev.Thread) 0 ev.Db)<;>rfl
 unfold AX.Aa AX.L1
 rw[BC (by decide),AAY (by decide),hJ3 _ 0 ev.D9 a he.1 (.inl ⟨rfl,rfl⟩)]
 unfold AX.J6
 rw[show Ap (0+1)=1 from rfl,r2]
 cases((ev.D9.isEmpty||a)&&Gb (ix s.Count ev.Thread) 0 ev.D9)<;>simp
theorem Xf (wv:AD) (s:AB) (ev:AH) (he:S7 ev) (hc:gt s.Count ev.Thread=some (ix s.Count ev.Thread)) (BR:ev.Kind=3∨ev.Kind=4->Ee ev.Obj wv.Cells.length=true):AX wv s ev=some (FN wv s ev):=by
 have hJ1:∀e,e=RT wv ev->AX.J1 ev s e=some (FN wv s ev):=by
  intro e h
  unfold AX.J1 FN
  rw[det.J2 wv s ev he hc,det.J2 wv s ev he hc,det.J2 wv s ev he hc,det.J2 wv s ev he hc,h]
  by_cases h5:ev.Kind=5
  . simp[h5]
  . by_cases h4:ev.Kind=4
    . simp[h4]
    . have e5:(ev.Kind==5)=false:=by simpa using h5
      have e4:(ev.Kind==4)=false:=by simpa using h4
      simp[e5,e4]
 unfold AX
 by_cases h3:ev.Kind=3
 . rw[AAY (by simp[h3]),Cd (BR (.inl h3)),AAO]
   exact hJ1 _ (by simp[RT,h3])
 . rw[AAX (by simpa using h3)]
   by_cases h4:ev.Kind=4
   . rw[AAY (by simp[h4]),Cd (BR (.inr h4)),AAO]
     exact hJ1 _ (by simp[RT,h4])
   . rw[AAX (by simpa using h4)]
     exact hJ1 _ (by simp[RT,h3,h4])
theorem XE.L1 (ev:AH) (s:AB) (hl:s.Sync.AA.length≤1000):∀(n i w:Nat) (b:Bool),i≤s.Sync.AA.length->s.Sync.AA.length<n+i->w≤i->
 Au.Aa ev s n (w:Int) b (i:Int)=some ((b||(Bz ev.Obj i (s.Sync.AA.drop i)).contains ev.Value)||((w+(Bz ev.Obj i (s.Sync.AA.drop i)).length==0)&&ev.Value== -1))
 |0,i,w,b,h1,h2,h3=>by omega
 |n+1,i,w,b,h1,h2,h3=>by
  unfold Au.Aa Au.L1
  by_cases hi:i<s.Sync.AA.length
  . unfold Au.J3 Au.J4
    rw[BC (by omega),CU hi,AAO,E6 hi,Bz,Ao (i:=i) (by omega),Ao (i:=w) (by omega)]
    have ih:=λ(w':Nat) b' h=>XE.L1 ev s hl n (i+1) w' b' (by omega) (by omega) h
    rw[ih (w+1) true (by omega),ih (w+1) (ev.Value==(i:Int)) (by omega),ih w b (by omega)]
    unfold Ia
    have e0:∀m:Nat,(w+1+m==0)=false:=λm=>by simp
    have e2:∀m:Nat,(w+(m+1)==0)=false:=λm=>by simp
    have e3:(ev.Value==(i:Int))=decide (ev.Value=(i:Int)):=rfl
    cases(s.Sync.AA[i].Status==3)<;>cases(s.Sync.AA[i].D8==ev.Obj)<;>cases b<;>simp[e0,e2,e3]
  . rw[Ac (by omega),GM hi]
    unfold Au.J5 Au.J6
    have:((w:Int)==0)=(w==0):=by rw[Bool.eq_iff_iff,AAd,AAd];omega
    rw[this]
    simp only[Bz,List.contains_nil,ABR,Nat.add_zero,Bool.or_false]
    cases b<;>cases(w==0)<;>simp
theorem XE.L2 (ev:AH) (s:AB) (hl:s.Sync.AA.length≤1000):∀(n i w:Nat),i≤s.Sync.AA.length->s.Sync.AA.length<n+i->w≤i->
 Au.C2 ev s n (w:Int) (i:Int)=some (ev.Value==((w+(Bz ev.Obj i (s.Sync.AA.drop i)).length:Nat):Int))
 |0,i,w,h1,h2,h3=>by omega
 |n+1,i,w,h1,h2,h3=>by
  unfold Au.C2 Au.L2
  by_cases hi:i<s.Sync.AA.length
  . unfold Au.J7 Au.J8
    rw[BC (by omega),CU hi,AAO,E6 hi,Bz,Ao (i:=i) (by omega),Ao (i:=w) (by omega)]
    have ih:=λ(w':Nat) h=>XE.L2 ev s hl n (i+1) w' (by omega) (by omega) h
    rw[ih (w+1) (by omega),ih w (by omega)]
    unfold Ia
    have e1:∀m:Nat,w+1+m=w+(m+1):=λm=>by omega
    cases(s.Sync.AA[i].Status==3)<;>cases(s.Sync.AA[i].D8==ev.Obj)<;>simp[e1]
  . rw[Ac (by omega),GM hi]
    simp[Au.J9,Bz]
theorem bN {α:Type} (l:List α):(0+l.length==0)=l.isEmpty:=by cases l<;>simp
theorem qT (s:AB) (ev:AH) (hl:s.Sync.AA.length≤1000) (BR:ev.Kind=3->Ee ev.Obj s.Cells.length=true) (kY:ev.Kind=23->Ee ev.Obj s.AK.length=true):Au s ev=some (JE s ev):=by
 have h1:=XE.L1 ev s hl BT 0 0 false (by omega) (by have:=B1;omega) (by omega)
 have h2:=XE.L2 ev s hl BT 0 0 (by omega) (by have:=B1;omega) (by omega)
 rw[AAq,bN]at h1
 rw[AAq,ABS]at h2
 simp only[Int.natCast_zero,Bool.false_or]at h1 h2
 unfold Au Au.J1 Au.J2 Au.Th JE
 by_cases k3:ev.Kind=3
 . rw[AAY (by simp[k3]),Cd (BR k3),AAO,AAY k3]
 . rw[AAX (by simpa using k3),AAX k3]
   by_cases o7:ev.Kind=23
   . rw[AAY (by simp[o7]),Cd (kY o7),AAO,AAY o7]
   . rw[AAX (by simpa using o7),AAX o7]
     by_cases k5:ev.Kind=5
     . rw[AAY (by simp[k5]),AAY k5]
       cases(ev.Value==0)<;>rfl
     . rw[AAX (by simpa using k5),AAX k5]
       by_cases k4:ev.Kind=4
       . simp[k4]
       . have e4:(ev.Kind==4)=false:=by simpa using k4
         rw[e4,AAX (by simp)]
         by_cases Tk:ev.Kind=22
         . simp[Tk]
         . have fV:(ev.Kind==22)=false:=by simpa using Tk
           rw[fV,AAX (c:=ev.Kind=4∨ev.Kind=22) (by simp[k4,Tk])]
           simp only[AAW,AAe]
           by_cases UR:ev.Kind=18
           . rw[AAY (by simp[UR]),AAY UR];exact h1
           . rw[AAX (by simpa using UR),AAX UR]
             by_cases jK:ev.Kind=19
             . rw[AAY (by simp[jK]),AAY jK];exact h2
             . rw[AAX (by simpa using jK),AAX jK]
def GL (wv:AD) (s:AB) (ev:AH):AB:=
  ⟨(EN wv s.Sync ev.Thread ev.Kind ev.Obj (if ev.Kind=18 then ev.Value else -1)).1,
   if ev.Kind=4 then s.Cells.set ev.Obj.toNat ev.Value else s.Cells,
   if ev.Kind=22 then s.AK.set ev.Obj.toNat ev.Value else s.AK,
   s.Count.set ev.Thread.toNat (Ap (ix s.Count ev.Thread+1))⟩
def Kf (wv:AD) (s:AB) (ev:AH):Bool:=
 MJ wv s&&(Ee ev.Thread wv.AA.length&&(DC wv s.Sync ev.Thread ev.Kind ev.Obj&&(ND wv ev&&(FN wv s ev&&JE s ev))))
def XV (wv:AD) (s:AB) (ev:AH):AB×Bool:=if Kf wv s ev=true then(GL wv s ev,true)else(OC,false)
theorem Nn {wv:AD} {s:AB} (h:MJ wv s=true):G8 wv s.Sync=true/\s.Cells.length=wv.Cells.length/\s.AK.length=wv.AK.length/\s.Count.length=wv.AA.length:=by
 unfold MJ at h
 simpa only[AAP,AAd]using h
theorem Uz {wv:AD} {k o:Int} (h:CF wv k o=true):1≤k/\k≤23:=by
 unfold CF at h
 repeat' split at h
 all_goals first|omega|cases h
theorem qZ (wv:AD) (hw:Small wv) (s:AB) (hr:RB 1000000 s.Sync) (ev:AH) (he:S7 ev):BQ wv s ev=some (XV wv s ev):=by
 have KX:∀b,b=true->BQ.J1 ev s wv b=some (OC,false):=by rintro b rfl;rfl
 have hno2:∀b,b=true->BQ.J2 ev s wv b=some (OC,false):=by rintro b rfl;rfl
 unfold BQ XV Kf
 rw[PD wv hw,AAO]
 cases hf:MJ wv s with
 |false=>rfl
 |true=>
  rw[AAX (c:=(!true)=true) (by simp),AA0]
  cases ht:Ee ev.Thread wv.AA.length with
  |false=>
   rw[Bool.false_and,AAX (c:=false=true) (by simp)]
   by_cases a1:ev.Thread<0
   . rw[BC a1,KX _ rfl]
   . rw[Ac a1]
     by_cases a2:ev.Thread≥(wv.AA.length:Int)
     . rw[BC a2,KX _ rfl]
     . exfalso
       have:=B9.2 ⟨Int.not_lt.1 a1,Int.not_le.1 a2⟩
       rw[ht]at this;cases this
  |true=>
   obtain⟨b1,b2⟩:=B9.1 ht
   rw[Ac (by omega),Ac (by omega),AA0]
   obtain⟨hfs,c1,c2,c3⟩:=Nn hf
   have hw1:=hw.c;have hw2:=hw.f;have hw3:=hw.t
   have hfi:=Tn.of hw hfs hr
   have hEn:=Lb wv hw s.Sync (hr.mono (by omega)) ev.Thread ev.Obj ev.Kind
   cases XI:DC wv s.Sync ev.Thread ev.Kind ev.Obj with
   |false=>
    rw[Bool.false_and,AAX (c:=false=true) (by simp)]
    by_cases a1:ev.Kind<1
    . rw[BC a1,KX _ rfl]
    . rw[Ac a1]
      unfold BQ.J1
      by_cases a2:ev.Kind>23
      . rw[AAY (by simpa using a2)];rfl
      . rw[AAX (by simpa using a2),hEn,XI];rfl
   |true=>
    have wP:=XI
    unfold DC at wP
    simp only[AAP]at wP
    obtain⟨_,_,ha,_⟩:=wP
    obtain⟨k1,k2⟩:=Uz ha
    have hc:gt s.Count ev.Thread=some (ix s.Count ev.Thread):=Cd (by rw[c3];exact ht)
    have UO:ev.Kind=3∨ev.Kind=4->Ee ev.Obj wv.Cells.length=true:=by
     rintro(h|h)<;>simpa(decide:=true) [CF,h]using ha
    have kY:ev.Kind=22∨ev.Kind=23->Ee ev.Obj wv.AK.length=true:=by
     rintro(h|h)<;>simpa(decide:=true) [CF,h]using ha
    rw[Ac (by omega)]
    unfold BQ.J1
    rw[AAX (by simp;omega),hEn,XI,AAO,AAX (c:=(!true)=true) (by simp),p7,AAO,AA0]
    cases hp:ND wv ev with
    |false=>rfl
    |true=>
     rw[AAX (c:=(!true)=true) (by simp),Xf wv s ev he hc UO,AAO,AA0]
     cases hd:FN wv s ev with
     |false=>rfl
     |true=>
      rw[AAX (c:=(!true)=true) (by simp),qT s ev hfi.t (λh=>by rw[c1];exact UO (.inl h)) (λh=>by rw[c2];exact kY (.inr h)),AAO,AA0]
      cases hv:JE s ev with
      |false=>rfl
      |true=>
       rw[AAY rfl]
       unfold BQ.J2
       have hJ3:∀wake,wake=(if ev.Kind=18 then ev.Value else -1)->BQ.J3 ev s wv wake=some (GL wv s ev,true):=by
        rintro wake rfl
        unfold BQ.J3
        rw[UU wv hw s.Sync hr,AAO]
        unfold Nt
        rw[XI,AAY rfl,AAX (by simp)]
        unfold Eo slices_Clone_int
        rw[BL (by omega),AAO,BL (by omega),AAO,BL (by omega),AAO]
        unfold BQ.J4 GL
        simp only[hc,AAO]
        by_cases k4:ev.Kind=4
        . rw[AAY (by simp[k4]),Cd (by rw[c1];exact UO (.inr k4)),AAO];simp[k4]
        . rw[AAX (by simpa using k4)]
          by_cases Tk:ev.Kind=22
          . rw[AAY (by simp[Tk]),Cd (by rw[c2];exact kY (.inl Tk)),AAO];simp[Tk]
          . rw[AAX (by simpa using Tk)];simp[k4,Tk]
       rw[AAX (by simp)]
       by_cases UR:ev.Kind=18
       . rw[AAY (by simp[UR])];exact hJ3 _ (by rw[AAY UR])
       . rw[AAX (by simpa using UR)];exact hJ3 _ (by rw[AAX UR])
theorem RB.Kc {N M:Nat} {s:AN} (h:RB N s) (hM:N≤M) (i:Int) (f:AW->AW) (hf:(f (Abs.ix s.AG i)).As.length≤M):RB M (Abs.Kc s i f):=by
 intro x hx
 rcases AAv hx with hx|rfl
 . exact ABO (h x hx) hM
 . exact hf
theorem RB.apply {N:Nat} {s:AN} (h:RB N s) (wv:AD) (t k o wake:Int):RB (N+1) (EN wv s t k o wake).1:=by
 have h1:RB (N+1) s:=h.mono (by omega)
 have hi:=λi=>Nat.le_succ_of_le (h.ix i)
 have key:∀(p:Prop) [Decidable p] (a b:AN×Int),RB (N+1) a.1->RB (N+1) b.1->RB (N+1) (if p then a else b).1:=by
  intro p _ a b ha hb;split<;>assumption
 unfold EN
 repeat' refine key _ _ _ ?_ ?_
 all_goals first
  |exact h1
  |exact h.Kc (by omega) _ _ (hi _)
  | (refine h.Kc (by omega) _ _ ?_;have:=ZZ ((Abs.ix s.AG o).As++[t]);have:=h.ix o;simp at *;omega)
  | (refine h.Kc (by omega) _ _ (ABO (List.length_filter_le _ _) (hi _)))
  |exact h.Kc (by omega) (Abs.ix wv.Af o).Mutex (λx=>⟨-1,x.As⟩) (hi _)
  |exact h.Kc (by omega) (Abs.ix wv.Af o).Mutex (λx=>⟨t,x.As⟩) (hi _)
  | (by_cases hW:Bz o 0 s.AA=[]<;>simp only[hW,AAs,AAe]<;>exact h1)
theorem RB.start (wv:AD):RB 0 (Mj wv):=by
 intro x hx
 have:=List.eq_of_mem_replicate hx
 subst this;simp
def rF (e:AH):Bool:=e.Kind==3||e.Kind==23
def OB (l:List AH) (t:Int):List Bool:=(l.filter λe=>e.Thread==t).map rF
def NV (reads:List Bool) (k:Int):Bool:=Ee k reads.length&&ix reads k
def RG (pre:List AH) (ev:AH):Bool:=ev.D9.all (NV (OB pre ev.Thread))&&ev.Db.all (NV (OB pre ev.Thread))
theorem q9.L2 (L1:Int->ABp Bool) (l:List Int) (reads:List Bool) (t:Int) (hl:l.length<4611686018427387904):∀(n i:Nat),i≤l.length->l.length<n+i->Ay.C2 L1 l reads t n (i:Int)=if(l.drop i).all (NV reads)=true then Ay.J3 L1 t else some false
 |0,i,h1,h2=>by omega
 |n+1,i,h1,h2=>by
  unfold Ay.C2 Ay.L2
  by_cases hi:i<l.length
  . unfold Ay.J2
    rw[BC (by omega),CU hi,AAO,E6 hi,Ao (by omega),q9.L2 L1 l reads t hl n (i+1) (by omega) (by omega),ABF]
    generalize l[i]=x
    generalize (l.drop (i+1)).all (NV reads)=q
    unfold NV
    by_cases a1:x<0
    . have:Ee x reads.length=false:=by simp[Ee];omega
      simp[a1,this]
    . by_cases a2:x≥(reads.length:Int)
      . have:Ee x reads.length=false:=by simp[Ee];omega
        simp[a1,a2,this]
      . have h:Ee x reads.length=true:=by simp[Ee];omega
        rw[Ac a1,Ac a2,Cd h,AAO,h]
        cases ix reads x<;>simp
  . rw[Ac (by omega),GM hi];simp
theorem rA (reads:List Bool) (ev:AH) (he:S7 ev):Ay reads ev=some (ev.D9.all (NV reads)&&ev.Db.all (NV reads)):=by
 unfold Ay
 have hb:=B1
 have hJ1:∀L1 t l,l.length<4611686018427387904->Ay.J1 L1 reads t l=if l.all (NV reads)=true then Ay.J3 L1 t else some false:=by
  intro L1 t l hl
  have:=q9.L2 L1 l reads t hl BT 0 (by omega) (by omega)
  rw[AAq]at this
  exact this
 rw[aJ]
 generalize BT-3=m
 have r3:Ay.Aa ev reads (m+1) 2=some true:=by
  unfold Ay.Aa Ay.L1;rfl
 have r2:Ay.Aa ev reads (m+2) 1=some (ev.Db.all (NV reads)):=by
  unfold Ay.Aa Ay.L1
  rw[BC (by decide),AAX (by decide),AAY (by decide),hJ1 _ _ _ he.2]
  unfold Ay.J3
  rw[show Ap (1+1)=2 from rfl,r3]
  cases ev.Db.all (NV reads)<;>rfl
 unfold Ay.Aa Ay.L1
 rw[BC (by decide),AAY (by decide),hJ1 _ _ _ he.1]
 unfold Ay.J3
 rw[show Ap (0+1)=1 from rfl,r2]
 cases ev.D9.all (NV reads)<;>simp
def Yv (x t:Int):Int->List AH->Bool
 |_,[]=>false
 |nv,e::r=>if e.Thread=t then(nv==x&&rF e)||Yv x t (nv+1) r else Yv x t nv r
theorem reads.L2 (L1:Int->ABp Bool) (i:Nat) (k:Int) (l:List AH) (numbers:List Int) (t x:Int) (hi:i≤l.length) (hi':i≤1000000) (hx:gt numbers k=some x):∀(n j nv:Nat) (ok:Bool),j≤i->i<n+j->nv≤j->
 Dq.C2 L1 (i:Int) k l numbers t n (nv:Int) ok (j:Int)=Dq.J3 L1 k (ok||Yv x t nv ((l.take i).drop j))
 |0,j,nv,ok,h1,h2,h3=>by omega
 |n+1,j,nv,ok,h1,h2,h3=>by
  unfold Dq.C2 Dq.L2
  by_cases hj:j<i
  . have wW:j<(l.take i).length:=by simp;omega
    have ih:=λ(nv':Nat) ok' h=>reads.L2 L1 i k l numbers t x hi hi' hx n (j+1) nv' ok' (by omega) (by omega) h
    unfold Dq.J1 Dq.J2
    rw[BC (by omega),CU (by omega),AAO,E6 wW,Ao (i:=j) (by omega),Ao (i:=nv) (by omega),hx,AAO,Yv]
    simp only[List.getElem_take,ih (nv+1) _ (by omega),ih nv _ (by omega),show((nv:Int)+1)=((nv+1:Nat):Int)from rfl]
    unfold rF
    by_cases ht:l[j].Thread=t
    . have e:(l[j].Thread != t)=false:=by simp[ht]
      rw[e,AAY ht]
      cases ok<;>cases(((nv:Int)==x))<;>cases(l[j].Kind==3)<;>simp
    . have e:(l[j].Thread != t)=true:=by simpa using ht
      rw[e,AAX ht];rfl
  . rw[Ac (by omega),List.drop_eq_nil_of_le (by simp;omega)]
    simp[Yv]
def Hg (wv:AD):List AH->AB->List AH->Int×Int
 |_,_,[]=>(0,0)
 |pre,s,x::r=>if(Kf wv s x&&RG pre x)=true then Hg wv (pre++[x]) (GL wv s x) r else((pre.length:Int),12)
def Io (t:Az):Int×Int:=if t.AF.length>400 then(0,2)else if Ck t.World=true then Hg t.World [] (Gg t.World) t.AF else(0,1)
theorem Pc {wv:AD} {s:AB} {x:AH} (h:Kf wv s x=true):Ee x.Thread wv.AA.length=true:=by
 unfold Kf at h
 simp only[AAP]at h
 exact h.2.1
theorem NF (l:List AH) (x:AH) (t:Int):OB (l++[x]) t=if x.Thread=t then OB l t++[rF x]else OB l t:=by
 unfold OB
 rw[List.filter_append,AA9]
 by_cases h:x.Thread=t<;>simp[h]
theorem Ly (l:List AH) (t:Int):(OB l t).length≤l.length:=by
 unfold OB;rw[AAo];exact List.length_filter_le _ _
theorem Zx (t:Az) (hw:Small t.World) (hE:∀e∈t.AF,S7 e) (hl:t.AF.length≤400):∀(n i:Nat) (s:AB) (R:List (List Bool)),i≤t.AF.length->t.AF.length<n+i->RB i s.Sync->R.length=t.World.AA.length->(∀u:Nat,u<R.length->R[u]? =some (OB (t.AF.take i) (u:Int)))->
 CE.Aa t n s R (i:Int)=some (Hg t.World (t.AF.take i) s (t.AF.drop i))
 |0,i,s,R,h1,h2,_,_,_=>by omega
 |n+1,i,s,R,h1,h2,h3,h4,h5=>by
  unfold CE.Aa CE.L1
  by_cases hi:i<t.AF.length
  . have he:=hE _ (AAi hi)
    rw[BC (by omega),CU hi,AAO,qZ t.World hw s (h3.mono (by omega)) _ he,AAO,E6 hi,Hg,List.length_take_of_le (by omega)]
    unfold XV
    cases hp:Kf t.World s t.AF[i]with
    |false=>rfl
    |true=>
     rw[AAY rfl,AAX (c:=(!true)=true) (by simp),AA0]
     have ht:=Pc hp
     obtain⟨b1,b2⟩:=B9.1 ht
     have hu:t.AF[i].Thread.toNat<R.length:=by omega
     have hR:gt R t.AF[i].Thread=some (OB (t.AF.take i) t.AF[i].Thread):=by
      unfold gt
      rw[AAY b1,h5 _ hu]
      congr 2;omega
     have dY:=Ly (t.AF.take i) t.AF[i].Thread
     rw[List.length_take_of_le (by omega)]at dY
     rw[hR,AAO,rA _ _ he,AAO]
     unfold CE.J1
     show(if(!(RG (t.AF.take i) t.AF[i]))=true then _ else _)=_
     cases RG (t.AF.take i) t.AF[i]with
     |false=>rfl
     |true=>
      rw[AAX (c:=(!true)=true) (by simp),AAY rfl,hR,AAO,BL (by omega),BL (by omega)]
      unfold CE.J2
      have hk:∀b,b=rF t.AF[i]->CE.Aa t n (GL t.World s t.AF[i]) (R.set t.AF[i].Thread.toNat (OB (t.AF.take i) t.AF[i].Thread++[b])) (Ap ((i:Int)+1))=some (Hg t.World (t.AF.take i++[t.AF[i]]) (GL t.World s t.AF[i]) (t.AF.drop (i+1))):=by
       rintro b rfl
       rw[Ao (by omega),AAk hi]
       refine Zx t hw hE hl n (i+1) _ _ (by omega) (by omega) ?_ (by simpa using h4) ?_
       . exact h3.apply _ _ _ _ _
       . intro u xL
         rw[← AAk hi,NF]
         have hu'':u<R.length:=by simpa using xL
         by_cases hut:t.AF[i].Thread=(u:Int)
         . have:t.AF[i].Thread.toNat=u:=by omega
           rw[AAY hut,this,AAS hu'',hut]
         . have:t.AF[i].Thread.toNat≠u:=by omega
           rw[AAX hut,AAV this,h5 u hu'']
      by_cases k3:t.AF[i].Kind=3
      . rw[AAY (by simp[k3])];exact hk _ (by simp[rF,k3])
      . rw[AAX (by simpa using k3)]
        exact hk _ (by simp[rF,show(t.AF[i].Kind==3)=false by simpa using k3])
  . rw[Ac (by omega),GM hi];rfl
theorem Check_eq (t:Az) (hE:∀e∈t.AF,S7 e):CE t=some (Io t):=by
 unfold CE Io
 by_cases hl:t.AF.length>400
 . rw[BC (by omega),AAY hl]
 . rw[Ac (by omega),AAX hl,Xa,AAO]
   cases hv:Ck t.World with
   |false=>rfl
   |true=>
    have hw:=EC hv
    have h3:=hw.t
    rw[AAX (c:=(!true)=true) (by simp),MN _ hw,AAO,AAY ⟨by omega,by omega,DK (by omega)⟩,AAY rfl]
    have:=Zx t hw hE (by omega) BT 0 (Gg t.World) (List.replicate t.World.AA.length []) (by omega) (by have:=B1;omega) (RB.start _) (by simp) (by
     intro u hu
     simp at hu
     simp[hu,OB])
    rw[List.take_zero,AAq]at this
    exact this
end Go.Abs
