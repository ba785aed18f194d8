/- What the typed programs give, in plain Lean. -/
import Derived.Test.YtkpdblcoclbgbaaGreatDoorCoreD
import Derived.Test.YtkpdblcoclbgbaaGreatDoorWalkA
import Derived.Test.YtkpdblcoclbgbaaGreatDoorWalkH
import Derived.Test.YtkpdblcoclbgbaaGreatDoorWalkB
import Derived.Test.YtkpdblcoclbgbaaGreatDoorWalkC
import Derived.Test.YtkpdblcoclbgbaaGreatDoorWalkD
import Derived.Test.YtkpdblcoclbgbaaGreatDoorWalkF
import Derived.Test.YtkpdblcoclbgbaaGreatDoorWalkG
import Derived.KernelRfl
import Derived.Test.YtkpdblcoclbgbaaGreatDoorWalkE
import Derived.Test.YtkpdblcoclbgbaaGreatDoorWalkI
import Derived.Shelf.Slices.SearchI
set_option linter.unusedSimpArgs false
set_option linter.unusedVariables false
namespace Go.Abs
theorem Ct {n:Int} (h: -9223372036854775808≤n) (h2:n<9223372036854775808):BE n=n:=by simp only[BE,IntKind.wrap,IntKind.bits,IntKind.signed];simp;omega
theorem A0 {i:Nat} (h:i<9223372036854775807):BE ((i:Int)+1)=((i+1:Nat):Int):=by rw[Ct (by omega) (by omega)];rfl
theorem JM {α:Type} (l:List α) (i:Nat):gt l (i:Int)=l[i]? :=by simp[gt]
theorem DG {α:Type} {l:List α} {i:Nat} (h:i<l.length):gt l (i:Int)=some l[i]:=by rw[JM];simp[h]
def Fe (i:Int) (n:Nat):Bool:=decide (0≤i)&&decide (i<(n:Int))
def ix {α:Type} [Inhabited α] (l:List α) (i:Int):α:=(l[i.toNat]?).getD default
theorem EX {i:Int} {n:Nat}:Fe i n=true↔0≤i/\i<n:=by simp[Fe]
theorem Co {α:Type} [Inhabited α] {l:List α} {i:Int} (h:Fe i l.length=true):gt l i=some (ix l i):=by
 obtain⟨h0,h1⟩:=EX.1 h
 have:i.toNat<l.length:=by omega
 simp[gt,ix,h0,this]
theorem Ba {n b:Nat} (h:n*b≤70368744177664):Aq n b=true:=by simp[Aq,h]
theorem BT {α:Type} {n b:Nat} {x y:α} (h:n*b≤70368744177664):(if Aq n b=true then x else y)=x:=if_pos (Ba h)
theorem BI {α:Type} {p:Prop} [Decidable p] {x y:α} (h:p):(if decide p=true then x else y)=x:=by rw[if_pos (by simpa using h)]
theorem Ab {α:Type} {p:Prop} [Decidable p] {x y:α} (h:¬p):(if decide p=true then x else y)=y:=by rw[if_neg (by simpa using h)]
theorem EM {α:Type} {l:List α} {i:Nat} (h:i<l.length):l.drop i=l[i]::l.drop (i+1):=List.drop_eq_getElem_cons h
theorem Ey {α:Type} {l:List α} {i:Nat} (h:¬i<l.length):l.drop i=[]:=List.drop_eq_nil_of_le (by omega)
theorem Bx:Bo=18446744073709551616:=rfl
theorem kinds {P:Int->Prop} (h1:P 1) (h2:P 2) (h3:P 3) (h4:P 4) (h5:P 5) (h6:P 6) (h7:P 7) (h8:P 8) (h9:P 9) (h10:P 10) (h11:P 11) (h12:P 12) (h13:P 13) (h14:P 14) (h15:P 15) (h16:P 16) (h17:P 17) (h18:P 18) (h19:P 19) (h20:P 20) (h21:P 21) (h22:P 22) (h23:P 23)
 (ho:∀k,k≠1->k≠2->k≠3->k≠4->k≠5->k≠6->k≠7->k≠8->k≠9->k≠10->k≠11->k≠12->k≠13->k≠14->k≠15->k≠16->k≠17->k≠18->k≠19->k≠20->k≠21->k≠22->k≠23->P k) (k:Int):P k:=by
 by_cases e1:k=1;· exact e1▸h1
 by_cases e2:k=2;· exact e2▸h2
 by_cases e3:k=3;· exact e3▸h3
 by_cases e4:k=4;· exact e4▸h4
 by_cases e5:k=5;· exact e5▸h5
 by_cases e6:k=6;· exact e6▸h6
 by_cases e7:k=7;· exact e7▸h7
 by_cases e8:k=8;· exact e8▸h8
 by_cases e9:k=9;· exact e9▸h9
 by_cases e10:k=10;· exact e10▸h10
 by_cases e11:k=11;· exact e11▸h11
 by_cases e12:k=12;· exact e12▸h12
 by_cases e13:k=13;· exact e13▸h13
 by_cases e14:k=14;· exact e14▸h14
 by_cases e15:k=15;· exact e15▸h15
 by_cases e16:k=16;· exact e16▸h16
 by_cases e17:k=17;· exact e17▸h17
 by_cases e18:k=18;· exact e18▸h18
 by_cases e19:k=19;· exact e19▸h19
 by_cases e20:k=20;· exact e20▸h20
 by_cases e21:k=21;· exact e21▸h21
 by_cases e22:k=22;· exact e22▸h22
 by_cases e23:k=23;· exact e23▸h23
 exact ho k e1 e2 e3 e4 e5 e6 e7 e8 e9 e10 e11 e12 e13 e14 e15 e16 e17 e18 e19 e20 e21 e22 e23
def FL (c:Int):Bool:=(decide (97≤c)&&decide (c≤122))||(decide (65≤c)&&decide (c≤90))
def Is (c:Int):Bool:=FL c||((decide (48≤c)&&decide (c≤57))||c==95)
def GY (s:ByteArray) (i:Nat):Int:=((s.get! i).toNat:Int)
def Jb (s:ByteArray) (i:Nat):Bool:=FL (GY s i)||(decide (0<i)&&((decide (48≤GY s i)&&decide (GY s i≤57))||GY s i==95))
theorem Tm (s:ByteArray) (i:Nat) (h:(s.get! i).toNat<128):Utf8.decode s i=((s.get! i).toNat,1):=by
 unfold Utf8.decode;simp[h]
theorem Wi (s:ByteArray) (i:Nat) (h:¬(s.get! i).toNat<128):128≤(Utf8.decode s i).1:=by
 unfold Utf8.decode
 simp only[Nat.add_zero,h,if_false]
 have hr:128≤Utf8.runeError:=by decide
 split
 . split
   . assumption
   . exact hr
 . split
   . split
     . rename_i hx;simp only[Bool.and_eq_true,decide_eq_true_eq]at hx;exact Nat.le_trans (by decide) hx.1
     . exact hr
   . split
     . split
       . rename_i hx;simp only[Bool.and_eq_true,decide_eq_true_eq]at hx;exact Nat.le_trans (by decide) hx.1
       . exact hr
     . exact hr
def Xo (c:Int) (pos:Nat):Bool:=FL c||(decide (0<pos)&&((decide (48≤c)&&decide (c≤57))||c==95))
theorem OE (s:ByteArray) (L:Nat->Option Bool) (pos:Nat) (hp:pos<s.size):
 B0.L1 s L pos=if Xo ((Utf8.decode s pos).1:Int) pos=true then L (pos+(Utf8.decode s pos).2)else some false:=by
 unfold B0.L1
 rw[BI hp]
 unfold B0.J2 B0.J3 Xo FL
 generalize ((Utf8.decode s pos).1:Int)=c
 have e:decide ((pos:Int)>0)=decide (0<pos):=by simp
 rw[e]
 generalize decide (97≤c)=b1
 generalize decide (c≤122)=b2
 generalize decide (65≤c)=b3
 generalize decide (c≤90)=b4
 generalize decide (48≤c)=b5
 generalize decide (c≤57)=b6
 generalize decide (0<pos)=b7
 generalize (c==95)=b8
 cases b1<;>cases b2<;>cases b3<;>cases b4<;>cases b5<;>cases b6<;>cases b7<;>cases b8<;>rfl
theorem Im (s:ByteArray):∀(n pos:Nat),pos≤s.size->s.size<n+pos->B0.Ac s n pos=some ((List.range' pos (s.size-pos)).all (Jb s))
 |0,pos,h1,h2=>by omega
 |n+1,pos,h1,h2=>by
  unfold B0.Ac
  by_cases hp:pos<s.size
  . rw[OE s _ pos hp]
    have hR:List.range' pos (s.size-pos)=pos::List.range' (pos+1) (s.size-(pos+1)):=by
     rw[show s.size-pos=(s.size-(pos+1))+1 from by omega,List.range'_succ]
    rw[hR,List.all_cons]
    by_cases hb:(s.get! pos).toNat<128
    . rw[Tm s pos hb,Im s n (pos+1) (by omega) (by omega)]
      show(if Jb s pos=true then _ else _)=_
      cases Jb s pos<;>simp
    . have hbig:=Wi s pos hb
      have hg:Jb s pos=false:=by
       unfold Jb FL GY;simp;omega
      have hc:Xo ((Utf8.decode s pos).1:Int) pos=false:=by
       unfold Xo FL;simp;omega
      rw[hg,hc,Bool.false_and];rfl
  . unfold B0.L1
    rw[Ab hp]
    have:s.size-pos=0:=by omega
    simp[B0.J4,this]
theorem X3 {s:ByteArray} {i:Nat} (h:i<s.size):q8 s (i:Int)=some (s.get! i):=by
 unfold q8
 rw[if_pos (by omega)]
 simp only[Int.toNat_natCast]
 rw[getElem?_pos s i h]
 congr 1
 have e:s.get! i=s[i]:=by
  simp[ByteArray.get!,getElem!_pos,h]
  rfl
 exact e.symm
theorem Jf (c:Int):EB c=some (FL c):=by
 unfold EB EB.J1 FL
 simp only[ge_iff_le]
 generalize decide (97≤c)=b1
 generalize decide (c≤122)=b2
 generalize decide (65≤c)=b3
 generalize decide (c≤90)=b4
 cases b1<;>cases b2<;>cases b3<;>cases b4<;>rfl
theorem Q5 (c:Int):Er c=some (Is c):=by
 unfold Er E9
 rw[Jf,Option.bind_some]
 unfold Er.J1 E9.J1 Is
 simp only[ge_iff_le]
 generalize FL c=b1
 generalize decide (48≤c)=b5
 generalize decide (c≤57)=b6
 generalize (c==95)=b8
 cases b1<;>cases b5<;>cases b6<;>cases b8<;>rfl
theorem Ig (s:ByteArray) (hs:s.size≤12):∀(n i:Nat),i≤s.size->s.size<n+i->BV.Ac s n i=some ((List.range' i (s.size-i)).all λk=>Is (GY s k))
 |0,pos,h1,h2=>by omega
 |n+1,i,h1,h2=>by
  unfold BV.Ac BV.L1
  by_cases hp:i<s.size
  . rw[BI (by omega),X3 hp,Option.bind_some,Q5,Option.bind_some,A0 (by omega),Ig s hs n (i+1) (by omega) (by omega)]
    have hR:List.range' i (s.size-i)=i::List.range' (i+1) (s.size-(i+1)):=by
     rw[show s.size-i=(s.size-(i+1))+1 from by omega,List.range'_succ]
    rw[hR,List.all_cons]
    show(if(!(Is (GY s i)))=true then _ else _)=_
    cases Is (GY s i)<;>simp
  . rw[Ab (by omega)]
    have:s.size-i=0:=by omega
    simp[BV.J2,this]
theorem KP (s:ByteArray):∀(n i:Nat),i≤22->22<n+i->Ch.Ac s n i=some ((Ho.drop i).any λx=>s.toList==x.toList)
 |0,pos,h1,h2=>by omega
 |n+1,i,h1,h2=>by
  have hl:Ho.length=22:=rfl
  unfold Ch.Ac Ch.L1
  by_cases hp:i<22
  . have hp':i<Ho.length:=by omega
    rw[BI (by omega),if_pos (by omega),DG hp',Option.bind_some,A0 (by omega),KP s n (i+1) (by omega) (by omega),EM hp',List.any_cons]
    cases(s.toList==Ho[i].toList)<;>simp
  . rw[Ab (by omega)]
    have:Ho.drop i=[]:=List.drop_eq_nil_of_le (by omega)
    simp[Ch.J1,this]
def Y6 (s:ByteArray):Bool:=Ho.any λx=>s.toList==x.toList
theorem Mm (s:ByteArray):Ch s=some (Y6 s):=KP s Bo 0 (by omega) (by decide)
theorem Nk:G6=some Ho:=rfl
theorem He (s:ByteArray) (v:List ByteArray) (hv:v.length≤100):∀(n i:Nat),i≤v.length->v.length<n+i->CQ.Ac s v n i=some ((v.drop i).any λx=>x.toList==s.toList)
 |0,pos,h1,h2=>by omega
 |n+1,i,h1,h2=>by
  unfold CQ.Ac CQ.L1
  by_cases hp:i<v.length
  . rw[BI (by omega),DG hp,Option.bind_some,A0 (by omega),He s v hv n (i+1) (by omega) (by omega),EM hp,List.any_cons]
    cases(v[i].toList==s.toList)<;>simp
  . rw[Ab (by omega)]
    have:v.drop i=[]:=List.drop_eq_nil_of_le (by omega)
    simp[CQ.J1,this]
theorem Mc (s:ByteArray):CQ s=some (Y6 s):=by
 unfold CQ
 rw[Nk,Option.bind_some]
 refine(He s Ho (by decide) Bo 0 (by omega) (by decide)).trans ?_
 rw[List.drop_zero]
 congr 1
 unfold Y6
 congr 1
 funext x
 exact Bool.beq_comm
def KX (s:ByteArray):Bool:=decide (1≤s.size)&&decide (s.size≤12)&& !Y6 s&&(List.range' 0 s.size).all (Jb s)
theorem Po (s:ByteArray):B0 s=some (KX s):=by
 unfold B0
 by_cases h1:s.size<1
 . rw[BI (by omega)]
   simp[B0.J1,KX];omega
 . rw[Ab (by omega)]
   by_cases h2:s.size>12
   . rw[BI (by omega)]
     simp[B0.J1,KX];omega
   . rw[Ab (by omega),Mm,Option.bind_some]
     unfold B0.J1
     rw[Im s Bo 0 (by omega) (by have:Bo=18446744073709551616:=rfl;omega)]
     have a1:1≤s.size:=by omega
     have a2:s.size≤12:=by omega
     simp only[KX,a1,a2,decide_true,Bool.true_and,Nat.sub_zero]
     cases Y6 s<;>simp
theorem Ww (s:ByteArray) (h:0<s.size):(FL (GY s 0)&&(List.range' 0 s.size).all λk=>Is (GY s k))=(List.range' 0 s.size).all (Jb s):=by
 have hR:List.range' 0 s.size=0::List.range' 1 (s.size-1):=by
  rw[show s.size=(s.size-1)+1 from by omega,List.range'_succ];simp
 rw[hR,List.all_cons,List.all_cons]
 have h0:Jb s 0=FL (GY s 0):=by simp[Jb]
 have h1:Is (GY s 0)=(FL (GY s 0)||((decide (48≤GY s 0)&&decide (GY s 0≤57))||GY s 0==95)):=rfl
 have h2:(List.range' 1 (s.size-1)).all (Jb s)=(List.range' 1 (s.size-1)).all λk=>Is (GY s k):=by
  rw[Bool.eq_iff_iff,List.all_eq_true,List.all_eq_true]
  have e:∀k∈List.range' 1 (s.size-1),Jb s k=Is (GY s k):=λk hk=>by
   have:0<k:=by have:=List.mem_range'_1.1 hk;omega
   simp[Jb,Is,this]
  exact⟨λh k hk=>e k hk▸h k hk,λh k hk=>(e k hk).symm▸h k hk⟩
 rw[h0,h1,h2]
 cases FL (GY s 0)<;>simp
theorem Je (s:ByteArray):BV s=some (KX s):=by
 unfold BV
 by_cases h1:s.size<1
 . rw[BI (by omega)]
   simp[BV.J1,KX];omega
 . rw[Ab (by omega)]
   by_cases h2:s.size>12
   . rw[BI (by omega)]
     simp[BV.J1,KX];omega
   . rw[Ab (by omega),show(0:Int)=((0:Nat):Int)from rfl,X3 (by omega),Option.bind_some,Jf,Option.bind_some,Mc,Option.bind_some]
     unfold BV.J1
     rw[show(0:Int)=((0:Nat):Int)from rfl,Ig s (by omega) Bo 0 (by omega) (by have:Bo=18446744073709551616:=rfl;omega)]
     have a1:1≤s.size:=by omega
     have a2:s.size≤12:=by omega
     simp only[KX,a1,a2,decide_true,Bool.true_and,Nat.sub_zero]
     rw[← Ww s (by omega)]
     show(if(!FL (GY s 0))=true then _ else _)=_
     cases Y6 s<;>cases FL (GY s 0)<;>simp
end Go.Abs
namespace Go.Abs
set_option maxHeartbeats 4000000
def B2 {α:Type} (o:Option α) (Q:α->Prop):Prop:=∃r,o=some r/\Q r
theorem tR {α:Type} {r:α} {Q:α->Prop} (h:Q r):B2 (some r) Q:=⟨r,rfl,h⟩
theorem tB {α β:Type} {o:Option α} {Q:α->Prop} {f:α->Option β} {R:β->Prop} (h:B2 o Q) (k:∀x,Q x->B2 (f x) R):B2 (o.bind f) R:=by
 obtain⟨x,rfl,hx⟩:=h;exact k x hx
theorem tG {α β:Type} {l:List α} {i:Int} {f:α->Option β} {R:β->Prop} (h:0≤i/\i<(l.length:Int)) (k:∀x,x∈l->B2 (f x) R):B2 ((gt l i).bind f) R:=by
 obtain⟨n,rfl⟩:∃n:Nat,i=n:=⟨i.toNat,by omega⟩
 have hn:n<l.length:=by omega
 rw[DG hn,Option.bind_some]
 exact k _ (List.getElem_mem hn)
theorem tC {α:Type} {p:Prop} [Decidable p] {a:Option α} {R:α->Prop} (h:p) (k:B2 a R):B2 (if p then a else none) R:=by rw[if_pos h];exact k
theorem tI {α:Type} {c:Bool} {a b:Option α} {R:α->Prop} (h1:c=true->B2 a R) (h2:c=false->B2 b R):B2 (if c=true then a else b) R:=by
 cases c with
 |true=>simpa using h1 rfl
 |false=>simpa using h2 rfl
theorem tM {α:Type} {o:Option α} {Q R:α->Prop} (h:B2 o Q) (k:∀x,Q x->R x):B2 o R:=by
 obtain⟨x,e,hx⟩:=h;exact⟨x,e,k x hx⟩
structure Ge (t:Cm):Prop where
 l:t.L.length≤1000
 a:0≤t.At/\t.At≤t.L.length
 u:∀x∈t.L,0≤x/\x<256
theorem Eb {t:Cm} (ht:Ge t) {n:Int} (hn:0<n/\n<1000):B2 (BF t n) λr=>(0≤r.1/\r.1<n)/\Ge r.2:=by
 have h1:=ht.l;have h2:=ht.a
 unfold BF BF.J1
 rw[Ct (n:=t.At+1) (by omega) (by omega),Ct (n:=t.At+1-1) (by omega) (by omega)]
 refine tI (λ_=> ?_) λh=> ?_
 . exact tI (λ_=>tR ⟨⟨by omega,hn.1⟩,ht⟩) λh=>by cases h
 . have h':¬t.At≥(t.L.length:Int):=by simpa using h
   refine tI (λh=>absurd (of_decide_eq_true h) (by omega)) λ_=> ?_
   refine tG (by omega) λx hx=>tC (by omega) (tR ⟨?_,ht.l,by simp only;omega,ht.u⟩)
   have hx:=ht.u x hx
   rw[Ct (by omega) (by omega)]
   exact⟨Int.tmod_nonneg _ hx.1,Int.tmod_lt_of_pos _ hn.1⟩
def qS:ByteArray:=⟨#[113]⟩
def vN:List ByteArray:=[⟨#[97]⟩,⟨#[98]⟩,⟨#[120]⟩,⟨#[121]⟩,⟨#[118]⟩]
theorem Pw {l k:List ByteArray} (h:(l.all λx=>k.any λy=>decide (x=y))=true) {x:ByteArray} (hx:x∈l):x∈k:=by
 obtain⟨y,h1,h2⟩:=List.any_eq_true.1 (List.all_eq_true.1 h x hx)
 rw[of_decide_eq_true h2];exact h1
theorem Qu {x:ByteArray} (h:(vN.any λy=>decide (x=y))=true):x∈vN:=Pw (l:=[x]) (by simpa using h) (List.mem_singleton.2 rfl)
def Pr:Nat->As->Prop
 |0,_=>False
 |n+1,e=>e.Op=1/\e.L=[]∨(e.Op=2/\e.L=[]/\e.Name∈vN)∨(e.Op=3/\e.Name=qS/\∃a,e.L=[a]/\Pr n a)∨(e.Op∈[(6:Int),7,8,11,13,17]/\∃a b,e.L=[a,b]/\Pr n a/\Pr n b)
theorem dV {n:Nat}:∀{e:As},Pr n e->Pr (n+1) e:=by
 induction n with
 |zero=>exactλh=>h.elim
 |succ n ih=>
  intro e h
  rcases h with h|h|⟨h1,h2,a,h3,h4⟩|⟨h1,a,b,h2,h3,h4⟩
  . exact .inl h
  . exact .inr (.inl h)
  . exact .inr (.inr (.inl ⟨h1,h2,a,h3,ih h4⟩))
  . exact .inr (.inr (.inr ⟨h1,a,b,h2,ih h3,ih h4⟩))
def PB (m m':AF):Prop:=Ge m'.t/\m'={m with t:=m'.t}
theorem OP {R:AF->Int->Option (As×AF)} {depth:Int} {m:AF} {v:Int×Cm} (hv:Ge v.2) (hr:0≤v.1/\v.1<10) {c:Bool} {j:Nat}
 (h:c=false->7≤v.1->∀m' d',(d'=0∨d'=BE (depth-1))->Ge m'.t->B2 (R m' d') λr=>Pr j r.1/\PB m' r.2):
 B2 (CD.J1 R depth m v c) λr=>Pr (j+1) r.1/\PB m r.2:=by
 unfold CD.J1 G4 GH Ft
 simp only[Option.bind_some]
 refine tI (λ_=> ?_) λhc=>tI (λ_=> ?_) λh7=> ?_
 . refine tB (Eb hv (by omega)) ?_
   rintro v1 ⟨_,h1⟩
   exact tR ⟨.inl ⟨rfl,rfl⟩,h1,rfl⟩
 . refine tB (Eb hv (by omega)) ?_
   rintro v1 ⟨h0,h1⟩
   exact tG h0 λx hx=>tR ⟨.inr (.inl ⟨rfl,rfl,Pw (by decide) hx⟩),h1,rfl⟩
 . have h7:=of_decide_eq_false h7
   have h:=h hc (by omega)
   refine tI (λ_=> ?_) λ_=> ?_
   . refine tB (h _ _ (.inl rfl) hv) ?_
     rintro e ⟨h1,h2,h3⟩
     exact tR ⟨.inr (.inr (.inl ⟨rfl,rfl,_,rfl,h1⟩)),h2,by rw[h3]⟩
   . refine tB (Eb hv (by omega)) ?_
     rintro v1 ⟨h0,h1⟩
     refine tG h0 λx hx=>tB (h _ _ (.inr rfl) h1) ?_
     rintro e ⟨g1,g2,g3⟩
     refine tB (h _ _ (.inr rfl) g2) ?_
     rintro e2 ⟨k1,k2,k3⟩
     exact tR ⟨.inr (.inr (.inr ⟨hx,_,_,rfl,g1,k1⟩)),k2,by rw[k3,g3]⟩
theorem dU {a b:Nat} (h:a≤b) {e:As} (he:Pr a e):Pr b e:=by
 induction h with
 |refl=>exact he
 |step _ ih=>exact dV ih
theorem OO {n:Nat} {m:AF} (hn:0<n) (ht:Ge m.t):B2 (BX n m 0) λr=>Pr 1 r.1/\PB m r.2:=by
 obtain⟨n,rfl⟩:∃k,n=k+1:=⟨n-1,by omega⟩
 show B2 (CD (BX n) m 0) _
 unfold CD
 refine tB (Eb ht (by omega)) ?_
 rintro v ⟨hv,ht'⟩
 refine tI (λ_=>OP ht' hv (λh=>by cases h)) λ_=>tI (λ_=>OP ht' hv λh h7=> ?_) λh=> ?_
 . exact absurd (of_decide_eq_false h) (by omega)
 . simp at h
theorem cH (d:Nat):∀(n:Nat) (m:AF),d<n->d<100->Ge m.t->B2 (BX n m d) λr=>Pr (d+1) r.1/\PB m r.2:=by
 induction d with
 |zero=>exactλn m hn _ ht=>OO hn ht
 |succ d ih=>
  intro n m hn hd ht
  obtain⟨n,rfl⟩:∃k,n=k+1:=⟨n-1,by omega⟩
  show B2 (CD (BX n) m _) _
  unfold CD
  refine tB (Eb ht (by omega)) ?_
  rintro v ⟨hv,ht'⟩
  have key:∀c,B2 (CD.J1 (BX n) ((d+1:Nat):Int) m v c) λr=>Pr (d+1+1) r.1/\PB m r.2:=by
   intro c
   refine OP ht' hv λ_ _ m' d' hd' hm'=> ?_
   rcases hd' with rfl|rfl
   . exact tM (OO (by omega) hm') λr h=>⟨dU (by omega) h.1,h.2⟩
   . rw[Ct (by omega) (by omega),show((d+1:Nat):Int)-1=(d:Int)from by omega]
     exact ih n m' (by omega) (by omega) hm'
  exact tI (λ_=>key _) λ_=>tI (λ_=>key _) λ_=>key _
theorem HN {m:AF} {d:Int} (hd:d=0∨d=1) (ht:Ge m.t):B2 (BX Bo m d) λr=>Pr 2 r.1/\PB m r.2:=by
 have hb:=Bx
 rcases hd with rfl|rfl
 . exact tM (OO (by omega) ht) λr h=>⟨dU (by omega) h.1,h.2⟩
 . exact cH 1 Bo m (by omega) (by omega) ht
theorem JC (l:List ByteArray) (s:ByteArray) (hl:l.length<1000000):B2 (CF l s) λr=> -1≤r/\r<l.length:=by
 have hb:=Bx
 have key:∀n (i:Nat),l.length<n+i->i≤l.length->B2 (CF.Ac l s n i) λr=> -1≤r/\r<l.length:=by
  intro n
  induction n with
  |zero=>intro i h1 h2;omega
  |succ n ih=>
   intro i h1 h2
   unfold CF.Ac CF.L1 CF.J1
   refine tI (λh=> ?_) λ_=>tR (by omega)
   have h:=of_decide_eq_true h
   refine tG (by omega) λx _=>tI (λ_=>tR (by omega)) λ_=> ?_
   rw[A0 (by omega)]
   exact ih (i+1) (by omega) (by omega)
 exact key Bo 0 (by omega) (by omega)
theorem LA {m:AF} (hm:m.held.length<1000) (s:ByteArray):B2 (Ck m s) λr=>r.2=m:=by
 unfold Ck
 exact tB (JC _ _ (by omega)) λ_ _=>tR rfl
def cN:ByteArray:=⟨#[99]⟩
def noE:As:=⟨0,0,⟨#[]⟩,[]⟩
def Vu (T:ByteArray->Prop) (o:Int) (s a:ByteArray) (i:List As):Prop:=
 (o=1->i=[]->s∈vN)/\(o=4->s=⟨#[109]⟩∨s=⟨#[110]⟩)/\(o=5∨o=6->s=⟨#[114]⟩)/\(o=12∨o=13->T s)/\(o=14->s=⟨#[102]⟩)/\(o=15->s=⟨#[97]⟩/\a=⟨#[102]⟩)
def bdF (o:Int) (b e:List AK):Prop:=(o∉[(2:Int),3,4,5,6,7,8]->b=[])/\(o≠2->e=[])
def KD (T:ByteArray->Prop):Nat->AK->Prop
 |0,_=>False
 |n+1,s=>(1≤s.Op/\s.Op≤15)/\(s.Index=[]∨s.Op=1/\s.Name=qS/\∃a,s.Index=[a]/\Pr 2 a)/\(Pr 2 s.Expr∨s.Op∉[(1:Int),2,3,14]/\s.Expr=noE)/\(s.Op∈[(9:Int),10,11]->s.Name=cN)/\
  s.Body.length≤4/\s.Else.length≤4/\(∀x∈s.Body,KD T n x)/\(∀x∈s.Else,KD T n x)/\bdF s.Op s.Body s.Else/\Vu T s.Op s.Name s.Arg s.Index
structure MK (H:Nat) (m:AF):Prop where
 t:Ge m.t
 h:m.held.length≤H/\H≤500
structure GO (m m':AF):Prop where
 t:Ge m'.t
 h:m'.held=m.held
theorem PB.keep {m m':AF} (h:PB m m'):GO m m':=⟨h.1,by rw[h.2]⟩
theorem GO.mk' {H:Nat} {m m':AF} (hm:MK H m) (h:GO m m'):MK H m':=⟨h.t,by rw[h.h];exact hm.h⟩
theorem GO.trans {a b c:AF} (h:GO a b) (g:GO b c):GO a c:=⟨g.t,g.h.trans h.h⟩
def okL (T:ByteArray->Prop) (k:Nat) (l:List AK):Prop:=l.length≤2/\∀x∈l,KD T k x
theorem Hy {T:ByteArray->Prop} {s:ByteArray} {e:As} (h:Pr 2 e) (hs:s∈vN) (k:Nat):KD T (k+1) ⟨1,0,s,⟨#[]⟩,[],e,[],[]⟩:=⟨⟨by simp,by simp⟩,.inl rfl,.inl h,by simp,by simp,by simp,by simp,by simp,⟨λ_=>rfl,λ_=>rfl⟩,λ_ _=>hs,by simp,by simp,by simp,by simp,by simp⟩
theorem Kd {T:ByteArray->Prop} {o l:Int} {s a:ByteArray} (h:1≤o/\o≤15) (h2:o∉[(1:Int),2,3,14]) (h3:o∈[(9:Int),10,11]->s=cN) (h4:Vu T o s a []) {k:Nat}:KD T (k+1) ⟨o,l,s,a,[],noE,[],[]⟩:=
 ⟨h,.inl rfl,.inr ⟨h2,rfl⟩,h3,by simp,by simp,by simp,by simp,⟨λ_=>rfl,λ_=>rfl⟩,h4⟩
theorem LG {T:ByteArray->Prop} {o l:Int} {s a:ByteArray} (ho:o∈[(2:Int),3,4,5,6,7,8]) (h:1≤o/\o≤15) (h2:o∉[(1:Int),2,3,14]) (h3:o∉[(9:Int),10,11]) (h4:Vu T o s a []) {k:Nat} {b:List AK} (hb:b.length≤4) (hb2:∀x∈b,KD T k x):KD T (k+1) ⟨o,l,s,a,[],noE,b,[]⟩:=
 ⟨h,.inl rfl,.inr ⟨h2,rfl⟩,λh=>absurd h h3,hb,by simp,hb2,by simp,⟨λh=>absurd ho h,λ_=>rfl⟩,h4⟩
section
variable {T:ByteArray->Prop} {R158:AF->ByteArray->Int->Option (List AK×AF)} {R86:AF->Int->Int->Option (List AK×AF)} {depth:Int} {nested:Bool} {k H:Nat}
structure KE (T:ByteArray->Prop) (R158:AF->ByteArray->Int->Option (List AK×AF)) (R86:AF->Int->Int->Option (List AK×AF)) (depth:Int) (k H:Nat):Prop where
 d:0≤depth/\depth<100
 b:0<depth->∀m s,MK H m->B2 (R158 m s (depth-1)) λr=>okL T (k+1) r.1/\GO m r.2
 s:0<depth->∀m d n,MK H m->(d=0∨d=depth-1)->(n=1∨n=2)->B2 (R86 m d n) λr=>okL T (k+1) r.1/\GO m r.2
abbrev Good (T:ByteArray->Prop) (k:Nat) (m:AF) (r:AK×AF):Prop:=KD T (k+2) r.1/\GO m r.2
theorem Td {m:AF} (hm:MK H m) (b:Bool):B2 (Af.Z8 m b) (Good T k m):=by
 unfold Af.Z8 DX
 refine tI (λ_=>tR ⟨Kd (by decide) (by decide) (by decide) (by simp[Vu]),hm.t,rfl⟩) λ_=> ?_
 refine tB (HN (.inr rfl) hm.t) ?_
 rintro e ⟨h1,h2⟩
 exact tR ⟨Hy h1 (Qu (by decide)) _,h2.keep⟩
theorem Ps {m:AF} (hm:MK H m) (v:Int×Cm) (b:Bool):B2 (Af.XY m v b) (Good T k m):=by
 unfold Af.XY
 refine tI (λ_=> ?_) λ_=>tI (λ_=>tI (λ_=> ?_) λ_=>Td hm _) λ_=>Td hm _
 . refine tB (HN (.inr rfl) hm.t) ?_
   rintro e ⟨h1,h2⟩
   exact tR ⟨⟨⟨by simp,by simp⟩,.inl rfl,.inl h1,by simp,by simp,by simp,by simp,by simp,⟨λ_=>rfl,λ_=>rfl⟩,by simp[Vu]⟩,h2.1,by rw[h2.2]⟩
 . refine tB (Eb hm.t (by omega)) ?_
   rintro e ⟨_,h2⟩
   exact tM (Td (k:=k) (m:={m with t:=e.2}) ⟨h2,hm.h⟩ _) λr h=>⟨h.1,h.2.t,h.2.h⟩
theorem Tc {m:AF} (hm:MK H m) (v:Int×Cm) (b:Bool):B2 (Af.Oj v m b) (Good T k m):=by
 unfold Af.Oj
 refine tI (λ_=> ?_) λ_=>tI (λ_=>tI (λ_=>tI (λ_=>Ps hm _ _) λ_=>Ps hm _ _) λ_=>Ps hm _ _) λ_=>Ps hm _ _
 refine tB (Eb hm.t (by omega)) ?_
 rintro e ⟨h1,h2⟩
 refine tR ⟨LG (by decide) (by decide) (by decide) (by decide) (by simp[Vu]) (by simp) ?_,h2,rfl⟩
 intro x hx
 simp only[List.mem_singleton]at hx
 subst hx
 rw[Ct (by omega) (by omega)]
 refine Kd (by omega) ?_ (λ_=>rfl) ⟨by omega,by omega,by omega,by omega,by omega,by omega⟩
 simp;omega
theorem Tg {m:AF} (hm:MK H m) (v:Int×Cm) (b:Bool):B2 (Af.J9 nested v m b) (Good T k m):=by
 unfold Af.J9 GH DX
 refine tI (λ_=> ?_) λ_=>tI (λ_=>tI (λ_=> ?_) λ_=>Tc hm _ _) λ_=>Tc hm _ _
 . simp only[Option.bind_some]
   refine tR ⟨LG (by decide) (by decide) (by decide) (by decide) (by simp[Vu]) (by simp) ?_,hm.t,rfl⟩
   intro x hx
   simp only[List.mem_cons,List.not_mem_nil,or_false]at hx
   rcases hx with rfl|rfl
   . exact Kd (by decide) (by decide) (λ_=>rfl) (by simp[Vu])
   . exact Hy (.inr (.inl ⟨rfl,rfl,Qu (by decide)⟩)) (Qu (by decide)) _
 . refine tB (LA (by have:=hm.h;omega) _) ?_
   rintro e rfl
   exact Tc hm _ _
theorem V1 (hp:KE T R158 R86 depth k H) (hn:nested=true->0<depth) {m:AF} (hm:MK H m) (v:Int×Cm) {b:Bool} (hb:b=true->0<depth):B2 (Af.J8 R86 depth m nested v b) (Good T k m):=by
 have hd:=hp.d
 unfold Af.J8
 refine tI (λh=> ?_) λ_=>tI (λ_=>tI (λ_=>tI (λ_=> ?_) λ_=>Tg hm _ _) λ_=>Tg hm _ _) λ_=>Tg hm _ _
 . refine tB (hp.s (hb h) _ _ _ ⟨hm.t,hm.h⟩ (.inr (Ct (by omega) (by omega))) (.inr rfl)) ?_
   rintro e ⟨h1,h2⟩
   exact tR ⟨LG (by decide) (by decide) (by decide) (by decide) (by simp[Vu]) (by have:=h1.1;omega) h1.2,h2.t,h2.h⟩
 . refine tB (LA (by have:=hm.h;omega) _) ?_
   rintro e rfl
   exact Tg hm _ _
theorem aB (hp:KE T R158 R86 depth k H) (hn:nested=true->0<depth) {m:AF} (hm:MK H m) (v:Int×Cm) {b:Bool} (hb:b=true->0<depth):B2 (Af.J7 R86 depth m nested v b) (Good T k m):=by
 unfold Af.J7
 refine tI (λh=> ?_) λ_=>tI (λ_=>tI (λh=>V1 hp hn hm _ λ_=>hn h) λ_=>V1 hp hn hm _ (by simp)) λ_=>V1 hp hn hm _ (by simp)
 refine tB (Eb hm.t (by omega)) ?_
 rintro e0 ⟨h0,h1⟩
 refine tB (hp.s (hb h) {m with t:=e0.2,tx:=true} _ _ ⟨h1,hm.h⟩ (.inl rfl) (by rw[Ct (by omega) (by omega)];omega)) ?_
 rintro e ⟨h1,h2⟩
 exact tR ⟨LG (by decide) (by decide) (by decide) (by decide) (by simp[Vu]) (by have:=h1.1;omega) h1.2,h2.t,h2.h⟩
theorem Tf (hp:KE T R158 R86 depth k H) (hn:nested=true->0<depth) {m:AF} (hm:MK H m) (v:Int×Cm) {b:Bool} (hb:b=true->0<depth/\(v.1=10∨v.1=11)):B2 (Af.J6 R158 R86 depth nested v m b) (Good T k m):=by
 have hd:=hp.d
 unfold Af.J6
 refine tI (λh=> ?_) λ_=>tI (λ_=>aB hp hn hm _ hn) λ_=>aB hp hn hm _ (by simp)
 obtain⟨h1,h2⟩:=hb h
 rw[Ct (n:=depth-1) (by omega) (by omega)]
 refine tB (hp.b h1 m _ hm) ?_
 rintro e ⟨g1,g2⟩
 refine tR ⟨?_,g2⟩
 rcases h2 with h2|h2<;>rw[h2]<;>exact LG (by decide) (by decide) (by decide) (by decide) (by first| (rw[show BE (BE ((10:Int)-10)+5)=5 from rfl];simp[Vu])| (rw[show BE (BE ((11:Int)-10)+5)=6 from rfl];simp[Vu])) (by have:=g1.1;omega) g1.2
theorem Te (hp:KE T R158 R86 depth k H) (hn:nested=true->0<depth) {m:AF} (hm:MK H m) (v:Int×Cm) {b:Bool} (hb:b=true->0<depth/\(v.1=8∨v.1=9)):B2 (Af.J5 R158 R86 depth nested v m b) (Good T k m):=by
 have hd:=hp.d;have hh:=hm.h
 have o:∀{c:Bool} {i:Int},(v.1==i)=true->(i=10∨i=11)->nested=true->c=true->0<depth/\(v.1=10∨v.1=11):=λh1 h2 h3 _=>⟨hn h3,by have:=eq_of_beq h1;omega⟩
 unfold Af.J5
 refine tI (λh=> ?_) λ_=>tI (λe1=>tI (λe2=> ?_) λ_=>Tf hp hn hm _ (by simp)) λ_=>tI (λe1=>tI (λe2=> ?_) λ_=>Tf hp hn hm _ (by simp)) λ_=>Tf hp hn hm _ (by simp)
 . obtain⟨h1,h2⟩:=hb h
   rw[Ct (n:=depth-1) (by omega) (by omega),Ct (by omega) (by omega)]
   refine tG (by simp;omega) λx hx=>tB (hp.b h1 m _ hm) ?_
   rintro e ⟨g1,g2⟩
   exact tR ⟨LG (by decide) (by decide) (by decide) (by decide) ⟨by simp,λ_=>by simpa using hx,by simp,by simp,by simp,by simp⟩ (by have:=g1.1;omega) g1.2,g2⟩
 all_goals
  refine tB (LA (by omega) _) ?_
  rintro e rfl
  exact Tf hp hn hm _ (o e1 (by omega) e2)
theorem aA (hp:KE T R158 R86 depth k H) (hn:nested=true->0<depth) {m:AF} (hm:MK H m) {v:Int×Cm} (hv:Ge v.2) {b:Bool} (hb:b=true->0<depth):B2 (Af.J4 R158 R86 depth m nested v b) (Good T k m):=by
 have hd:=hp.d;have hh:=hm.h
 have o:∀{c:Bool} {i:Int},(v.1==i)=true->(i=8∨i=9)->nested=true->c=true->0<depth/\(v.1=8∨v.1=9):=λh1 h2 h3 _=>⟨hn h3,by have:=eq_of_beq h1;omega⟩
 have hm':MK H (AF.mk v.2 m.BG (BE (m.left-1)) m.E5 m.tx m.atomic m.loop m.held):=⟨hv,hm.h⟩
 have w:∀{r:AK×AF},Good T k (AF.mk v.2 m.BG (BE (m.left-1)) m.E5 m.tx m.atomic m.loop m.held) r->Good T k m r:=λh=>⟨h.1,h.2.t,h.2.h⟩
 unfold Af.J4
 refine tI (λh=> ?_) λ_=>tI (λe1=>tI (λe2=> ?_) λ_=>tM (Te hp hn hm' _ (by simp)) λ_=>w) λ_=>tI (λe1=>tI (λe2=> ?_) λ_=>tM (Te hp hn hm' _ (by simp)) λ_=>w) λ_=>tM (Te hp hn hm' _ (by simp)) λ_=>w
 . unfold GH G4 Ft DX
   simp only[Option.bind_some]
   refine tB (hp.s (hb h) _ _ _ ⟨hv,hm.h⟩ (.inr (Ct (by omega) (by omega))) (.inl rfl)) ?_
   rintro e ⟨g1,g2⟩
   have:=g1.1
   refine tC (Ba (by omega)) (tR ⟨⟨by simp,.inl rfl,.inl ?_,by simp,by simp;omega,by simp,?_,by simp,⟨λh=>absurd (by simp) h,λ_=>rfl⟩,by simp[Vu]⟩,g2.t,g2.h⟩)
   . exact .inr (.inr (.inr ⟨by simp,_,_,rfl,.inr (.inl ⟨rfl,rfl,Qu (by decide)⟩),.inl ⟨rfl,rfl⟩⟩))
   . intro x hx
     rcases List.mem_append.1 hx with hx|hx
     . exact g1.2 x hx
     . simp only[List.mem_singleton]at hx
       subst hx
       exact Hy (.inr (.inr (.inr ⟨by decide,_,_,rfl,.inr (.inl ⟨rfl,rfl,Qu (by decide)⟩),.inl ⟨rfl,rfl⟩⟩))) (Qu (by decide)) _
 all_goals
  have h8:=eq_of_beq e1
  rw[h8]
  refine tG (by decide) λx _=>tB (LA (by simpa using by omega) _) ?_
  rintro e he
  rw[he]
  exact tM (Te hp hn hm' _ (o e1 (by omega) e2)) λ_=>w
theorem Z9 (hp:KE T R158 R86 depth k H) (hn:nested=true->0<depth) {m:AF} (hm:MK H m) {v:Int×Cm} (hv:Ge v.2) {b:Bool} (hb:b=true->0<depth):B2 (Af.J2 R158 R86 depth m nested v b) (Good T k m):=by
 have hd:=hp.d
 unfold Af.J2 Af.J3
 refine tI (λh=> ?_) λ_=>tI (λ_=>aA hp hn hm hv λh=>by simpa using h) λ_=>aA hp hn hm hv (by simp)
 have h:=hb h
 refine tB (HN (.inr rfl) (m:=AF.mk v.2 m.BG (BE (m.left-1)) m.E5 m.tx m.atomic m.loop m.held) hv) ?_
 rintro e ⟨e1,e2⟩
 have k1:=e2.keep
 have hm':MK H (AF.mk v.2 m.BG (BE (m.left-1)) m.E5 m.tx m.atomic m.loop m.held):=⟨hv,hm.h⟩
 rw[Ct (n:=depth-1) (by omega) (by omega)]
 refine tB (hp.s h _ _ _ (GO.mk' hm' k1) (.inr rfl) (.inl rfl)) ?_
 rintro b1 ⟨⟨b1,b2⟩,k2⟩
 refine tB (Eb k2.t (by omega)) ?_
 rintro c ⟨_,c2⟩
 have kh:=k2.h.trans k1.h
 refine tI (λ_=> ?_) λ_=>tR ⟨⟨by simp,.inl rfl,.inl e1,by simp,by simp;omega,by simp,b2,by simp,⟨λh=>absurd (by simp) h,λ_=>rfl⟩,by simp[Vu]⟩,c2,kh⟩
 refine tB (hp.s h _ _ _ ⟨c2,by rw[show _=m.held from kh];exact hm.h⟩ (.inr rfl) (.inl rfl)) ?_
 rintro d ⟨⟨d1,d2⟩,k3⟩
 exact tR ⟨⟨by simp,.inl rfl,.inl e1,by simp,by simp;omega,by simp;omega,b2,d2,⟨λh=>absurd (by simp) h,λh=>absurd rfl h⟩,by simp[Vu]⟩,k3.t,k3.h.trans kh⟩
theorem V0 (hp:KE T R158 R86 depth k H) (hn:nested=true->0<depth) {m:AF} (hm:MK H m) {v:Int×Cm} (hr:0≤v.1) (hv:Ge v.2):B2 (Af.J1 R158 R86 depth m v nested) (Good T k m):=by
 have hm':MK H (AF.mk v.2 m.BG (BE (m.left-1)) m.E5 m.tx m.atomic m.loop m.held):=⟨hv,hm.h⟩
 unfold Af.J1 DX
 refine tI (λh=> ?_) λ_=>tI (λ_=> ?_) λ_=>tI (λ_=> ?_) λ_=>tI (λ_=>Z9 hp hn hm hv λh=>by simpa using h) λ_=>Z9 hp hn hm hv (by simp)
 . have h:=of_decide_eq_true h
   refine tG (by simp;omega) λx hx=>tB (HN (.inr rfl) hm'.t) ?_
   rintro e ⟨e1,e2⟩
   exact tR ⟨Hy e1 (Pw (by decide) hx) _,e2.keep.t,e2.keep.h⟩
 . refine tB (Eb hv (by omega)) ?_
   rintro c ⟨c1,c2⟩
   refine tG c1 λx hx=>tB (HN (.inr rfl) c2) ?_
   rintro e ⟨e1,e2⟩
   exact tR ⟨Hy e1 (Pw (by decide) hx) _,e2.keep.t,e2.keep.h⟩
 . refine tB (HN (.inl rfl) hm'.t) ?_
   rintro e ⟨e1,e2⟩
   refine tB (HN (.inr rfl) e2.keep.t) ?_
   rintro g ⟨g1,g2⟩
   exact tR ⟨⟨by simp,.inr ⟨rfl,rfl,_,rfl,e1⟩,.inl g1,by simp,by simp,by simp,by simp,by simp,⟨λ_=>rfl,λ_=>rfl⟩,by simp[Vu]⟩,g2.keep.t,g2.keep.h.trans e2.keep.h⟩
theorem Vn (hp:KE T R158 R86 depth k H) {m:AF} (hm:MK H m):B2 (Af R158 R86 m depth) (Good T k m):=by
 unfold Af
 refine tB (Eb hm.t (by omega)) ?_
 rintro v ⟨v1,v2⟩
 exact tI (λh=>tI (λ_=>V0 hp (λ_=>by simpa using h) hm v1.1 v2) λ_=>V0 hp (by simp) hm v1.1 v2) λ_=>V0 hp (by simp) hm v1.1 v2
end
section
variable {T:ByteArray->Prop}
theorem TS {R:AF->Int->Option (AK×AF)} {depth:Int} {k H:Nat} (hR:∀m,MK H m->B2 (R m depth) λr=>KD T k r.1/\GO m r.2) {m:AF} (hm:MK H m) {nv:Int} (hn:0≤nv/\nv≤3):
 B2 (Bg R m depth nv) λr=>((r.1.length:Int)≤nv/\∀x∈r.1,KD T k x)/\GO m r.2:=by
 have hb:=Bx
 have key:∀n (i:Nat) (m':AF) (l:List AK),10<n+i->(i:Int)≤nv->l.length≤i->(∀x∈l,KD T k x)->GO m m'->B2 (Bg.Ac R depth nv n m' l i) λr=>((r.1.length:Int)≤nv/\∀x∈r.1,KD T k x)/\GO m r.2:=by
  intro n
  induction n with
  |zero=>intro i m' l h1 h2;omega
  |succ n ih=>
   intro i m' l h1 h2 h3 h4 h5
   have J:∀b,(b=true->(i:Int)<nv)->B2 (Bg.J1 (Bg.Ac R depth nv n) R depth i l m' b) λr=>((r.1.length:Int)≤nv/\∀x∈r.1,KD T k x)/\GO m r.2:=by
    intro b hb
    unfold Bg.J1 Bg.J2
    refine tI (λh=> ?_) λ_=>tR ⟨⟨by simp only;omega,h4⟩,h5⟩
    have h:=hb h
    refine tB (hR _ (GO.mk' hm h5)) ?_
    rintro e ⟨e1,e2⟩
    refine tC (Ba (by omega)) ?_
    rw[A0 (by omega)]
    refine ih (i+1) _ _ (by omega) (by omega) (by simp;omega) ?_ (h5.trans e2)
    intro x hx
    rcases List.mem_append.1 hx with hx|hx
    . exact h4 x hx
    . simp only[List.mem_singleton]at hx;subst hx;exact e1
   unfold Bg.Ac Bg.L1
   exact tI (λh=>tI (λ_=>J _ λ_=>by simpa using h) λ_=>J _ λ_=>by simpa using h) λ_=>J _ (by simp)
 exact key Bo 0 m [] (by omega) (by omega) (by simp) (by simp) ⟨hm.t,rfl⟩
theorem dW {n:Nat}:∀{s:AK},KD T n s->KD T (n+1) s:=by
 induction n with
 |zero=>exactλh=>h.elim
 |succ n ih=>exactλ⟨h1,h2,h3,h4,h5,h6,h7,h8,h9⟩=>⟨h1,h2,h3,h4,h5,h6,λx hx=>ih (h7 x hx),λx hx=>ih (h8 x hx),h9⟩
theorem sE {a b:Nat} (h:a≤b) {s:AK} (hs:KD T a s):KD T b s:=by
 induction h with
 |refl=>exact hs
 |step _ ih=>exact dW ih
theorem Yd {R86:AF->Int->Int->Option (List AK×AF)} {d:Int} {k H:Nat} {m:AF} (hm:MK H m) (hH:H<500) (s:ByteArray)
 (h:∀m n,MK (H+1) m->(n=1∨n=2)->B2 (R86 m d n) λr=>okL T k r.1/\GO m r.2):B2 (E2 R86 m s d) λr=>okL T k r.1/\GO m r.2:=by
 have hh:=hm.h
 unfold E2
 refine tC (Ba (by omega)) (tB (Eb hm.t (by omega)) ?_)
 rintro v ⟨v1,v2⟩
 refine tB (h (AF.mk v.2 m.BG m.left m.E5 m.tx m.atomic m.loop (m.held++[s])) _ ⟨v2,by simp;omega⟩ (by rw[Ct (by omega) (by omega)];omega)) ?_
 rintro e ⟨e1,e2⟩
 have e3:e.2.held=m.held++[s]:=e2.h
 simp only[e3,List.length_append,List.length_cons,List.length_nil]
 rw[Ct (by omega) (by omega)]
 refine tC (by omega) (tR ⟨e1,e2.t,?_⟩)
 show(m.held++[s]).take _=m.held
 rw[show(((m.held.length+(0+1):Nat):Int)-1).toNat=m.held.length from by omega,List.take_left]
theorem TF {H n:Nat} (h2:H<500) (h3:3≤n):
 (∀m,MK H m->B2 (D5 n m (0:Nat)) (Good T 0 m))/\∀m nv,MK H m->0≤nv/\nv≤3->B2 (Cp (n+1) m (0:Nat) nv) λr=>((r.1.length:Int)≤nv/\∀x∈r.1,KD T 2 x)/\GO m r.2:=by
 have key:∀m,MK H m->B2 (D5 n m (0:Nat)) (Good T 0 m):=by
  intro m hm
  obtain⟨n,rfl⟩:∃k,n=k+1:=⟨n-1,by omega⟩
  exact Vn (R158:=G3 n) (R86:=Cp n) (H:=H) ⟨by omega,λh=>by simp at h,λh=>by simp at h⟩ hm
 exact⟨key,λm nv hm hn=>TS (R:=D5 n) key hm hn⟩
theorem dO (d:Nat):∀(H n:Nat),d<50->H+d<500->3*d+3≤n->
 (∀m,MK H m->B2 (D5 n m d) (Good T d m))/\∀m nv,MK H m->0≤nv/\nv≤3->B2 (Cp (n+1) m d nv) λr=>((r.1.length:Int)≤nv/\∀x∈r.1,KD T (d+2) x)/\GO m r.2:=by
 induction d with
 |zero=>exactλH n _ h2 h3=>TF (by omega) (by omega)
 |succ d ih=>
  intro H n h1 h2 h3
  have sub:∀(H' n':Nat) (m:AF) (d' nv:Int),H'≤H+1->3*d+4≤n'->MK H' m->(d'=0∨d'=((d+1:Nat):Int)-1)->(nv=1∨nv=2)->B2 (Cp n' m d' nv) λr=>okL T (d+2) r.1/\GO m r.2:=by
   intro H' n' m d' nv g1 g2 hm hd hn
   obtain⟨n',rfl⟩:∃k,n'=k+1:=⟨n'-1,by omega⟩
   rcases hd with rfl|rfl
   . exact tM ((TF (n:=n') (by omega) (by omega)).2 m nv hm (by omega)) λr h=>⟨⟨by have:=h.1.1;omega,λx hx=>sE (by omega) (h.1.2 x hx)⟩,h.2⟩
   . rw[show((d+1:Nat):Int)-1=(d:Int)from by omega]
     exact tM ((ih H' n' (by omega) (by omega) (by omega)).2 m nv hm (by omega)) λr h=>⟨⟨by have:=h.1.1;omega,h.1.2⟩,h.2⟩
  have key:∀m,MK H m->B2 (D5 n m (d+1:Nat)) (Good T (d+1) m):=by
   intro m hm
   obtain⟨n,rfl⟩:∃k,n=k+2:=⟨n-2,by omega⟩
   refine Vn (R158:=G3 (n+1)) (R86:=Cp (n+1)) (H:=H) (k:=d+1) ⟨by omega,λ_ m s hm=> ?_,λ_ m d' nv hm hd hn=> ?_⟩ hm
   . exact Yd (R86:=Cp n) hm (by omega) s λm nv hm hn=>sub (H+1) n m _ nv (by omega) (by omega) hm (.inr rfl) hn
   . exact sub H (n+1) m d' nv (by omega) (by omega) hm hd hn
  exact⟨key,λm nv hm hn=>TS (R:=D5 n) key hm hn⟩
end
section
variable {T:ByteArray->Prop}
abbrev TT {α:Type} (o:Option α):Prop:=B2 o λ_=>True
theorem tD {α:Type} {p:Prop} [Decidable p] {a b:Option α} {R:α->Prop} (h1:p->B2 a R) (h2:¬p->B2 b R):B2 (if decide p=true then a else b) R:=by
 by_cases h:p
 . simpa[h]using h1 h
 . simpa[h]using h2 h
theorem GN {α β:Type} {o:Option α} {f:α->Option β} {R:β->Prop} (h:TT o) (k:∀x,B2 (f x) R):B2 (o.bind f) R:=tB h λx _=>k x
theorem tE {α β:Type} {o:Option α} {y:α} {f:α->Option β} {R:β->Prop} (h:o=some y) (k:B2 (f y) R):B2 (o.bind f) R:=by rw[h];exact k
theorem XS {α β:Type} {l:List α} {i:Nat} {f:α->Option β} {R:β->Prop} (h:i<l.length) (k:B2 (f l[i]) R):B2 ((gt l (i:Int)).bind f) R:=by rw[DG h];exact k
theorem tL {α:Type} {Q:α->Prop} (N:Nat) {F:Nat->Int->Option α} (hN:N<1000000000000) (h:∀n (i:Nat),i≤N->(i<N->B2 (F n (BE (i+1))) Q)->B2 (F (n+1) i) Q):B2 (F Bo 0) Q:=by
 have hb:=Bx
 have key:∀n (i:Nat),N<n+i->i≤N->B2 (F n i) Q:=by
  intro n
  induction n with
  |zero=>intro i h1 h2;omega
  |succ n ih=>
   intro i h1 h2
   refine h n i h2 λh3=> ?_
   rw[A0 (by omega)]
   exact ih (i+1) (by omega) h3
 exact key Bo 0 (by omega) (by omega)
theorem tLk {σ α:Type} {Q:α->Prop} (N j:Nat) (I:Nat->σ->Prop) {F:Nat->σ->Int->Option α} (hN:N<1000000000000) (hj:j≤N) {s0:σ} (h0:I j s0)
 (h:∀n (i:Nat) s,i≤N->I i s->(∀s',i<N->I (i+1) s'->B2 (F n s' (BE (i+1))) Q)->B2 (F (n+1) s i) Q):B2 (F Bo s0 j) Q:=by
 have hb:=Bx
 have key:∀n (i:Nat) s,N<n+i->i≤N->I i s->B2 (F n s i) Q:=by
  intro n
  induction n with
  |zero=>intro i s h1 h2;omega
  |succ n ih=>
   intro i s h1 h2 h3
   refine h n i s h2 h3 λs' h4 h5=> ?_
   rw[A0 (by omega)]
   exact ih (i+1) s' (by omega) h4 h5
 exact key Bo j s0 (by omega) hj h0
theorem My {σ α:Type} {Q:α->Prop} (N:Nat) (I:Nat->σ->Prop) {F:Nat->σ->Int->Option α} (hN:N<1000000000000) {s0:σ} (h0:I 0 s0)
 (h:∀n (i:Nat) s,i≤N->I i s->(∀s',i<N->I (i+1) s'->B2 (F n s' (BE (i+1))) Q)->B2 (F (n+1) s i) Q):B2 (F Bo s0 0) Q:=tLk N 0 I hN (by omega) h0 h
theorem IM (s:ByteArray):TT (BV s):=⟨_,Je s,trivial⟩
def dE:Nat->As->Prop
 |0,_=>False
 |n+1,e=>e.L.length≤2/\∀x∈e.L,dE n x
theorem Pr.d {n:Nat}:∀{e:As},Pr n e->dE n e:=by
 induction n with
 |zero=>exactλh=>h.elim
 |succ n ih=>
  intro e h
  rcases h with⟨_,h⟩|⟨_,h,_⟩|⟨_,_,a,h,h1⟩|⟨_,a,b,h,h1,h2⟩<;>refine⟨by simp[h],?_⟩<;>rw[h]<;>simp
  . exact ih h1
  . exact⟨ih h1,ih h2⟩
theorem KD.e {n:Nat} {s:AK} (h:KD T n s):dE 2 s.Expr:=by
 cases n with
 |zero=>exact h.elim
 |succ n=>
  rcases h.2.2.1 with h|⟨_,h⟩
  . exact h.d
  . rw[h];exact⟨by simp[noE],by simp[noE]⟩
theorem KD.i {n:Nat} {s:AK} (h:KD T n s):s.Index=[]∨∃a,s.Index=[a]/\dE 2 a:=by
 cases n with
 |zero=>exact h.elim
 |succ n=>exact h.2.1.imp id λ⟨_,_,a,h,k⟩=>⟨a,h,k.d⟩
theorem Re (d:DK):TT (Bs d):=by
 have j2:∀b,TT (Bs.J2 d b):=by
  intro b;unfold Bs.J2 Bs.J3
  repeat' first|exact tR trivial|refine tI (λ_=> ?_) λ_=> ?_
 have j1:∀b,TT (Bs.J1 d b):=by
  intro b;unfold Bs.J1
  repeat' first|exact tR trivial|exact j2 _|refine GN (IM _) λ_=> ?_|refine tI (λ_=> ?_) λ_=> ?_
 unfold Bs
 repeat' first|exact j1 _|refine GN (IM _) λ_=> ?_|refine tI (λ_=> ?_) λ_=> ?_
theorem Th (o:Int):TT (Cu o):=by
 unfold Cu Cu.J1 Cu.J2 Cu.J3
 repeat' first|exact tR trivial|refine tI (λ_=> ?_) λ_=> ?_
theorem QD (d:Nat):∀(n:Nat) (e:As),d≤n->dE d e->TT (CE n e):=by
 induction d with
 |zero=>exactλn e _ h=>h.elim
 |succ d ih=>
  intro n e hn ⟨h1,h2⟩
  obtain⟨n,rfl⟩:∃k,n=k+1:=⟨n-1,by omega⟩
  show TT (Bi (CE n) e)
  have j2:∀b,TT (Bi.J2 (CE n) e b):=by
   intro b;unfold Bi.J2
   refine tI (λ_=>tR trivial) λ_=>tL e.L.length (by omega) λm i hi k=> ?_
   unfold Bi.Ac Bi.L1
   refine tD (λ_=>tG (by omega) λx hx=>GN (ih n x (by omega) (h2 x hx)) λ_=>tI (λ_=>tR trivial) λ_=>k (by omega)) λ_=>tR trivial
  have j1:∀b,TT (Bi.J1 (CE n) e b):=by
   intro b;unfold Bi.J1
   refine GN (Th _) λ_=> ?_
   repeat' first|exact j2 _|refine GN (IM _) λ_=> ?_|refine tI (λ_=> ?_) λ_=> ?_
  unfold Bi
  exact tI (λ_=>j1 _) λ_=>j1 _
theorem Lm {n:Nat} (h:n≤1000):n≤Bo:=by have:=Bx;omega
theorem V5 {e:As} (h:dE 2 e):TT (CE Bo e):=QD 2 _ e (Lm (by omega)) h
theorem QE {k:Nat} {s:AK} {R:List AK->Option Bool} (hs:KD T k s) (hb:TT (R s.Body)) (he:TT (R s.Else)):TT (Aj R s):=by
 have j9:∀b,TT (Aj.J9 R s b):=by
  intro b;unfold Aj.J9 Aj.Oj
  repeat' first|exact tR trivial|refine GN hb λ_=> ?_|refine GN he λ_=> ?_|refine tI (λ_=> ?_) λ_=> ?_
 have j8:∀b,TT (Aj.J8 R s b):=by
  intro b;unfold Aj.J8
  repeat' first|exact j9 _|refine tI (λ_=> ?_) λ_=> ?_
 have j7:∀b,TT (Aj.J7 R s b):=by
  intro b;unfold Aj.J7
  repeat' first|exact tR trivial|exact j8 _|refine tI (λ_=> ?_) λ_=> ?_
 have j6:∀b,TT (Aj.J6 R s b):=by
  intro b;unfold Aj.J6
  refine tI (λ_=>GN (V5 hs.e) λ_=>tI (λ_=>j7 _) λ_=>j7 _) λ_=>GN ?_ λ_=>j7 _
  unfold FA FA.J1
  repeat' first|exact tR trivial|refine tI (λ_=> ?_) λ_=> ?_
 have j5:∀b,TT (Aj.J5 R s b):=by
  intro b;unfold Aj.J5
  repeat' first|exact tR trivial|exact j6 _|refine tI (λ_=> ?_) λ_=> ?_
 have j4:∀b,TT (Aj.J4 R s b):=by
  intro b;unfold Aj.J4
  rcases hs.i with h|⟨a,h,ha⟩<;>rw[h]
  . repeat' first|exact tR trivial|exact j5 _|refine tI (λ_=> ?_) λ_=> ?_|contradiction
  . repeat' first|exact tR trivial|exact j5 _|refine tI (λ_=> ?_) λ_=> ?_|refine tE (y:=a) rfl ?_|refine GN (V5 ha) λ_=> ?_
 have j3:∀b,TT (Aj.J3 R s b):=by
  intro b;unfold Aj.J3
  repeat' first|exact tR trivial|exact j4 _|refine tI (λ_=> ?_) λ_=> ?_|refine GN (IM _) λ_=> ?_
 have j2:∀b,TT (Aj.J2 R s b):=by
  intro b;unfold Aj.J2
  repeat' first|exact j3 _|refine tI (λ_=> ?_) λ_=> ?_|refine GN (IM _) λ_=> ?_
 have j1:∀b,TT (Aj.J1 R s b):=by
  intro b;unfold Aj.J1
  repeat' first|exact tR trivial|exact j2 _|refine tI (λ_=> ?_) λ_=> ?_
 unfold Aj
 exact tI (λ_=>j1 _) λ_=>j1 _
def Qw (T:ByteArray->Prop) (k:Nat) (l:List AK):Prop:=l.length≤10/\∀x∈l,KD T k x
theorem KD.body {k:Nat} {s:AK} (h:KD T (k+1) s):Qw T k s.Body:=⟨by have:=h.2.2.2.2.1;omega,h.2.2.2.2.2.2.1⟩
theorem KD.tX {k:Nat} {s:AK} (h:KD T (k+1) s):Qw T k s.Else:=⟨by have:=h.2.2.2.2.2.1;omega,h.2.2.2.2.2.2.2.1⟩
theorem PF (d:Nat):∀(n:Nat) (l:List AK),2*d+1≤n->Qw T d l->TT (Ed n l):=by
 induction d with
 |zero=>
  intro n l hn ⟨_,h⟩
  obtain⟨n,rfl⟩:∃k,n=k+1:=⟨n-1,by omega⟩
  have:l=[]:=List.eq_nil_iff_forall_not_mem.2 λx hx=>(h x hx).elim
  subst this
  show TT (Bu (G7 n) [])
  exact tR trivial
 |succ d ih=>
  intro n l hn ⟨h1,h2⟩
  obtain⟨n,rfl⟩:∃k,n=k+2:=⟨n-2,by omega⟩
  show TT (Bu (G7 (n+1)) l)
  unfold Bu
  refine tL l.length (by omega) λm i hi k=> ?_
  unfold Bu.Ac Bu.L1 Bu.J1
  refine tD (λ_=>tG (by omega) λx hx=> ?_) λ_=>tR trivial
  refine GN (QE (R:=Ed n) (h2 x hx) (ih n _ (by omega) (h2 x hx).body) (ih n _ (by omega) (h2 x hx).tX)) λ_=>tI (λ_=>tR trivial) λ_=>k (by omega)
def JW:List ByteArray:=[⟨#[109,97,105,110]⟩,⟨#[116,49]⟩,⟨#[116,50]⟩,⟨#[116,51]⟩]
def UR:List ByteArray:=[⟨#[97]⟩,⟨#[98]⟩]
structure MP (p:AL):Prop where
 d:Dz=some p.Decls
 t:p.AA.length≤4
 l:∀t∈p.AA,t.EY.length≤2
 b:∀t∈p.AA,Qw (λs=>s∈p.AA.map (·.Name)) 4 t.Body
 nm:∃n,1≤n/\n≤4/\p.AA.map (·.Name)=JW.take n
 lo:∀t∈p.AA,t.EY=UR
theorem MP.dl {p:AL} (h:MP p):p.Decls.length=9:=by
 have h:=h.d
 unfold Dz at h
 rw[← Option.some.inj h];rfl
theorem Ub {p:AL} (h:MP p):TT (Bh p):=by
 have hd:=h.dl;have ht:=h.t
 have j3:∀{F:Int->Option Bool} {i:Int} (b:Bool),TT (F (BE (i+1)))->TT (Bh.J3 F i b):=by
  intro F i b k;unfold Bh.J3 Bh.J4
  exact tI (λ_=>tR trivial) λ_=>k
 unfold Bh
 refine tL 9 (by omega) λm i hi k=> ?_
 unfold Bh.Ac Bh.L1 Bh.J1
 refine tD (λ_=>tG (by omega) λx hx=>GN (Re x) λ_=>tI (λ_=>tR trivial) λ_=>k (by omega)) λ_=>tL p.AA.length (by omega) λm i hi k=> ?_
 unfold Bh.Da Bh.L2 Bh.J5
 refine tD (λ_=>tG (by omega) λx hx=>tL x.EY.length (by have:=h.l x hx;omega) λm i hi k2=> ?_) λ_=>tR trivial
 unfold Bh.Gx Bh.L3 Bh.J2
 refine tD (λ_=>tG (by omega) λx hx=>GN (IM _) λ_=>tI (λ_=>tR trivial) λ_=>k2 (by omega)) λ_=>GN (IM _) λ_=>tI (λ_=>j3 _ (k (by omega))) λ_=>GN (PF 4 _ _ (Lm (by omega)) (h.b x hx)) λ_=>j3 _ (k (by omega))
end
section
variable {T:ByteArray->Prop}
theorem MF (l:List DK) (s:ByteArray) (hl:l.length<1000000):B2 (Bz l s) λr=> -1≤r/\r<l.length:=by
 unfold Bz
 refine tL l.length (by omega) λn i hi k=> ?_
 unfold Bz.Ac Bz.L1 Bz.J1
 exact tD (λ_=>tG (by omega) λx _=>tI (λ_=>tR (by omega)) λ_=>k (by omega)) λ_=>tR (by omega)
theorem Hr (l:List CA) (s:ByteArray) (hl:l.length<1000000):B2 (Bv l s) λr=> -1≤r/\r<l.length:=by
 unfold Bv
 refine tL l.length (by omega) λn i hi k=> ?_
 unfold Bv.Ac Bv.L1 Bv.J1
 exact tD (λ_=>tG (by omega) λx _=>tI (λ_=>tR (by omega)) λ_=>k (by omega)) λ_=>tR (by omega)
theorem XQ {p:AL} (h:MP p):TT (FC p.Decls):=by
 have hd:=h.dl
 have key:B2 (Dz.bind FC) λ_=>True:=⟨(0,0),by decide +kernel,trivial⟩
 rw[h.d]at key
 exact key
theorem Ta {p:AL} (h:MP p):TT (BU p):=by
 have hd:=h.dl;have ht:=h.t
 have j1:∀{F:Int->Option (Int×Int)} {i:Int} {x:CA} (b:Bool),TT (F (BE (i+1)))->TT (BU.J1 F i x b):=by
  intro F i x b k;unfold BU.J1
  exact tI (λ_=>tR trivial) λ_=>k
 have j3:∀{F:Int->Option (Int×Int)} {i:Int} {x:CA} (b:Bool),TT (F (BE (i+1)))->TT (BU.J3 F i x b):=by
  intro F i x b k;unfold BU.J3
  exact tI (λ_=>tR trivial) λ_=>k
 unfold BU
 refine tL p.AA.length (by omega) λn i hi k=> ?_
 unfold BU.Ac BU.L1 BU.J2
 refine tD (λ_=>tG (by omega) λx hx=>tB (MF _ _ (by omega)) λ_ _=>tI (λ_=>j1 _ (k (by omega))) λ_=>tC (by omega) (tB (Hr _ _ (by simp;omega)) λ_ _=>j1 _ (k (by omega)))) λ_=> ?_
 refine tL p.AA.length (by omega) λn i hi k=> ?_
 unfold BU.Da BU.L2
 refine tD (λ_=>tG (by omega) λx hx=>tI (λ_=>tR trivial) λ_=>tL x.EY.length (by have:=h.l x hx;omega) λm j hj k2=> ?_) λ_=>tR trivial
 have hl:=h.l x hx
 unfold BU.Gx BU.L3 BU.J4
 refine tD (λ_=>tG (by omega) λy hy=>tB (MF _ _ (by omega)) λ_ _=>tI (λ_=>j3 _ (k2 (by omega))) λ_=>tB (Hr _ _ (by omega)) λ_ _=>tI (λ_=>j3 _ (k2 (by omega))) λ_=>tC (by omega) (tB (JC _ _ (by simp;omega)) λ_ _=>j3 _ (k2 (by omega)))) λ_=>k (by omega)
theorem X8 (d:Nat):∀(n:Nat) (l:List AK),d+1≤n->Qw T d l->TT (FW n l):=by
 induction d with
 |zero=>
  intro n l hn ⟨_,h⟩
  obtain⟨n,rfl⟩:∃k,n=k+1:=⟨n-1,by omega⟩
  have:l=[]:=List.eq_nil_iff_forall_not_mem.2 λx hx=>(h x hx).elim
  subst this
  show TT (C1 (FW n) [])
  exact tR trivial
 |succ d ih=>
  intro n l hn ⟨h1,h2⟩
  obtain⟨n,rfl⟩:∃k,n=k+1:=⟨n-1,by omega⟩
  show TT (C1 (FW n) l)
  unfold C1
  refine My l.length (λ_ _=>True) (F:=λn s i=>C1.Ac _ l n s i) (by omega) trivial λm i s hi _ k=> ?_
  unfold C1.Ac C1.L1 C1.J1
  exact tD (λ_=>tG (by omega) λx hx=>GN (ih n _ (by omega) (h2 x hx).body) λ_=>GN (ih n _ (by omega) (h2 x hx).tX) λ_=>k _ (by omega) trivial) λ_=>tR trivial
theorem Wx {wv:A1} (h:wv.EN.length≤100) (a b:Int) (s:ByteArray):B2 (BD wv a b s) λr=>r.2=wv:=by
 have j1:∀{F:Int->Option (Bool×A1)} {i:Int} (b:Bool),B2 (F (BE (i+1))) (λr=>r.2=wv)->B2 (BD.J1 F i wv b) λr=>r.2=wv:=by
  intro F i b k;unfold BD.J1
  exact tI (λ_=>tR rfl) λ_=>k
 unfold BD
 refine tL wv.EN.length (by omega) λn i hi k=> ?_
 unfold BD.Ac BD.L1 BD.J2
 refine tD (λ_=>tG (by omega) λx hx=> ?_) λ_=>tR rfl
 repeat' first|exact j1 _ (k (by omega))|refine tI (λ_=> ?_) λ_=> ?_
theorem V2 {p:AL} (h:MP p) (t:Int) (s:ByteArray):TT (DQ p t s):=by
 have hd:=h.dl;have ht:=h.t
 have j1:∀b,TT (DQ.J1 p s b):=by
  intro b;unfold DQ.J1
  refine tI (λ_=>tR trivial) λ_=>tB (MF _ _ (by omega)) λv hv=>tD (λ_=>tB (Hr _ _ (by omega)) λ_ _=>tI (λ_=>tR trivial) λ_=>tR trivial) λ_=>tG (by omega) λx _=> ?_
  have j2:∀b,TT (DQ.J2 p v b):=by
   intro b;unfold DQ.J2
   exact tI (λ_=>tG (by omega) λ_ _=>tR trivial) λ_=>tR trivial
  repeat' first|exact tR trivial|exact j2 _|refine tI (λ_=> ?_) λ_=> ?_
 unfold DQ
 exact tD (λ_=>tD (λ_=>tG (by omega) λx hx=>tB (JC _ _ (by have:=h.l x hx;omega)) λ_ _=>j1 _) λ_=>j1 _) λ_=>j1 _
theorem Hj {p:AL} (h:MP p) (t:Int) (s:ByteArray) (a b:Int):TT (CS p t s a b):=by
 unfold CS CS.J1
 refine GN (V2 h t s) λ_=> ?_
 repeat' first|exact tR trivial|refine tI (λ_=> ?_) λ_=> ?_
theorem YD (d:Nat):∀(n:Nat) (e:As),d≤n->dE d e->TT (G8 n e):=by
 induction d with
 |zero=>exactλn e _ h=>h.elim
 |succ d ih=>
  intro n e hn ⟨h1,h2⟩
  obtain⟨n,rfl⟩:∃k,n=k+1:=⟨n-1,by omega⟩
  show TT (Dw (G8 n) e)
  unfold Dw
  refine My e.L.length (λ_ _=>True) (F:=λn (s:Int×Int) i=>Dw.Ac _ e n s.1 s.2 i) (by omega) (s0:=(1,0)) trivial λm i s hi _ k=> ?_
  unfold Dw.Ac Dw.L1 Dw.J1
  exact tD (λ_=>tG (by omega) λx hx=>GN (ih n x (by omega) (h2 x hx)) λv=>k (_,_) (by omega) trivial) λ_=>tR trivial
theorem ZK {p:AL} (h:MP p) (t:Int) (d:Nat):∀(n:Nat) (e:As),d≤n->dE d e->TT (GL n p t e):=by
 induction d with
 |zero=>exactλn e _ h=>h.elim
 |succ d ih=>
  intro n e hn ⟨h1,h2⟩
  obtain⟨n,rfl⟩:∃k,n=k+1:=⟨n-1,by omega⟩
  show TT (Cv (GL n) p t e)
  have j1:∀r,TT (Cv.J1 (GL n) e p t r):=by
   intro r;unfold Cv.J1
   refine My e.L.length (λ_ _=>True) (F:=λm s i=>Cv.Ac _ e p t m s i) (by omega) trivial λm i s hi _ k=> ?_
   unfold Cv.Ac Cv.L1 Cv.J2 Cv.J3
   exact tD (λ_=>tI (λ_=>tG (by omega) λx hx=>GN (ih n x (by omega) (h2 x hx)) λv=>k _ (by omega) trivial) λ_=>tR trivial) λ_=>tI (λh=>by cases h) λ_=>tR trivial
  unfold Cv
  exact tI (λ_=>GN (Hj h _ _ _ _) λ_=>j1 _) λ_=>tI (λ_=>GN (Hj h _ _ _ _) λ_=>j1 _) λ_=>j1 _
theorem UW {p:AL} (h:MP p) (t:Int) {e:As} (he:dE 2 e):TT (Dn p t e):=by
 have j1:∀b,TT (Dn.J1 e p t b):=by
  intro b;unfold Dn.J1
  exact tI (λ_=>tR trivial) λ_=>GN (ZK h t 2 _ e (Lm (by omega)) he) λ_=>tR trivial
 unfold Dn
 exact GN (V5 he) λ_=>tI (λ_=>tR trivial) λ_=>GN (YD 2 _ e (Lm (by omega)) he) λ_=>tI (λ_=>j1 _) λ_=>j1 _
theorem JR (a b:Int):TT (Dp a b):=by
 unfold Dp;exact tI (λ_=>tR trivial) λ_=>tR trivial
theorem Fu (b:Bool):TT (BO b):=by
 unfold BO;exact tI (λ_=>tR trivial) λ_=>tR trivial
structure WK (p:AL) (A K:Nat) (wv:A1):Prop where
 p:wv.p=p
 a:wv.EN.length=A
 s:wv.IU.length≤K
 t:wv.RZ.length≤K
theorem WK.mono {p:AL} {A K L:Nat} {wv:A1} (h:WK p A K wv) (hl:K≤L):WK p A L wv:=⟨h.p,h.a,by have:=h.s;omega,by have:=h.t;omega⟩
theorem jU {p:AL} (h:MP p) {A K:Nat} {wv:A1} (hw:WK p A K wv) (hA:A≤100) (hK:K≤900000) {k:Nat} {s:AK} (hs:KD T (k+1) s):B2 (Ay wv s) λr=>WK p A (K+1) r.2:=by
 have hd:=h.dl;have ht:=h.t;have ha:=hw.a;have h1:=hw.s;have h2:=hw.t
 obtain rfl:=hw.p
 have W:WK wv.p A (K+1) wv:=hw.mono (by omega)
 have I:=λa b s=>Wx (wv:=wv) (by omega) a b s
 have E:=UW h wv.BG hs.e
 have j12:∀(b:Bool) e,B2 (Ay.Z8 s (b,wv) wv e) λr=>WK wv.p A (K+1) r.2:=by
  intro b e;unfold Ay.Z8
  exact tC (Ba (by simp only;omega)) (GN E λ_=>GN (JR _ _) λ_=>tR ⟨rfl,ha,W.s,by simp;omega⟩)
 have j11:∀(b c:Bool) e,B2 (Ay.XY e s (b,wv) wv c) λr=>WK wv.p A (K+1) r.2:=by
  intro b c e;unfold Ay.XY
  exact tI (λ_=>j12 _ _) λ_=>j12 _ _
 have j10:∀(b:Bool) e,B2 (Ay.Oj s (b,wv) wv e) λr=>WK wv.p A (K+1) r.2:=by
  intro b e;unfold Ay.Oj
  exact tI (λ_=>tB (JC _ _ (by simp only;omega)) λ_ _=>j11 _ _ _) λ_=>j11 _ _ _
 have j8:∀(b c:Bool),B2 (Ay.J8 s (b,wv) c) λr=>WK wv.p A (K+1) r.2:=by
  intro b c;unfold Ay.J8
  exact tI (λ_=>tR W) λ_=>tB (JC _ _ (by simp only;omega)) λ_ _=>tI (λ_=>tR W) λ_=>tC (Ba (by simp only;omega)) (tR ⟨rfl,ha,by simp;omega,W.t⟩)
 have hc:s.Op∈[(9:Int),10,11]->B2 (Bz wv.p.Decls s.Name) λr=>0≤r/\r<9:=by
  intro ho
  rw[hs.2.2.2.1 ho]
  have key:Dz.bind (λl=>Bz l cN)=some 7:=by decide +kernel
  rw[h.d]at key
  exact⟨7,key,by omega⟩
 have j6:∀(b c d t:Bool),(t=true->s.Op∈[(9:Int),10,11])->B2 (Ay.J6 s (b,wv) (c,wv) (d,wv) wv t) λr=>WK wv.p A (K+1) r.2:=by
  intro b c d t h9;unfold Ay.J6 Ay.J7 Ay.J9
  refine tI (λht=>GN (Hj h _ _ _ _) λ_=>tI (λ_=>tR W) λ_=>tB (hc (h9 ht)) λ_ _=>tG (by omega) λx _=>tB (I _ _ _) ?_) λ_=> ?_
  . rintro⟨e,_⟩ rfl
    repeat' first|exact tR W|refine GN (Fu _) λ_=> ?_|refine tI (λ_=> ?_) λ_=> ?_
  . repeat' first|exact tR W|refine GN (Hj h _ _ _ _) λ_=> ?_|refine GN (Fu _) λ_=> ?_|refine GN (JR _ _) λ_=> ?_|exact j8 _ _|exact j10 _ _|refine tB (Hr _ _ (by omega)) λ_ _=> ?_|refine tI (λ_=> ?_) λ_=> ?_
 have j3:∀(b c d t:Bool),B2 (Ay.J3 s (b,wv) (c,wv) (d,wv) wv t) λr=>WK wv.p A (K+1) r.2:=by
  intro b c d t;unfold Ay.J3 Ay.J4 Ay.J5
  refine tI (λht=>GN (Hj h _ _ _ _) λ_=>tI (λ_=>GN (Fu _) λ_=>GN (JR _ _) λ_=>tR W) λ_=>tB (I _ _ _) ?_) λ_=> ?_
  . rintro⟨e,_⟩ rfl
    exact GN (Fu _) λ_=>GN (JR _ _) λ_=>tR W
  . repeat' first|exact tR W|refine GN (Fu _) λ_=> ?_|exact j6 _ _ _ _ (λh=>by simp_all)|refine tI (λ_=> ?_) λ_=> ?_
 have j1:∀(b c d t:Bool),B2 (Ay.J1 s (b,wv) (c,wv) (d,wv) wv t) λr=>WK wv.p A (K+1) r.2:=by
  intro b c d t;unfold Ay.J1 Ay.J2
  refine tI (λht=>GN E λ_=>tR W) λ_=>tI (λ_=>GN (Hj h _ _ _ _) λ_=>tI (λ_=>GN (Fu _) λ_=>GN (JR _ _) λ_=>tR W) λ_=>tB (I _ _ _) ?_) λ_=>tI (λ_=>j3 _ _ _ _) λ_=>j3 _ _ _ _
  rintro⟨e,_⟩ rfl
  exact GN (Fu _) λ_=>GN (JR _ _) λ_=>tR W
 unfold Ay
 refine tB (I _ _ _) ?_
 rintro⟨b,w⟩ e
 obtain rfl:wv=w:=e.symm
 refine tB (I _ _ _) ?_
 rintro⟨c,w⟩ e
 obtain rfl:wv=w:=e.symm
 refine tB (I _ _ _) ?_
 rintro⟨d,w⟩ e
 obtain rfl:wv=w:=e.symm
 refine tI (λ_=> ?_) λ_=>tI (λ_=>j1 _ _ _ _) λ_=>j1 _ _ _ _
 refine tI (λ_=>GN (Hj h _ _ _ _) λ_=>GN E λ_=>GN (JR _ _) λ_=>tR W) λhi=>GN (Hj h _ _ _ _) λ_=> ?_
 rcases hs.i with e|⟨a,e,ha⟩
 . rw[e]at hi;cases hi
 . rw[e]
   exact tE (y:=a) rfl (GN (UW h wv.BG ha) λ_=>GN E λ_=>GN (JR _ _) λ_=>GN (JR _ _) λ_=>tR W)
def KB:Nat->Nat
 |0=>0
 |d+1=>1+20*KB d
theorem fH {p:AL} (h:MP p) (d:Nat):∀(n A K:Nat) (wv:A1) (l:List AK),d+1≤n->A+d≤50->K+10*KB d≤900000->WK p A K wv->Qw T d l->B2 (DR n wv l) λr=>WK p A (K+10*KB d) r.2.2:=by
 induction d with
 |zero=>
  intro n A K wv l hn hA hK hw ⟨_,h⟩
  obtain⟨n,rfl⟩:∃k,n=k+1:=⟨n-1,by omega⟩
  have:l=[]:=List.eq_nil_iff_forall_not_mem.2 λx hx=>(h x hx).elim
  subst this
  show B2 (BR (DR n) wv []) _
  exact tR hw
 |succ d ih=>
  intro n A K wv l hn hA hK hw ⟨h1,h2⟩
  obtain⟨n,rfl⟩:∃k,n=k+1:=⟨n-1,by omega⟩
  show B2 (BR (DR n) wv l) _
  unfold BR
  have hc:KB (d+1)=1+20*KB d:=rfl
  refine My l.length (λi wv=>WK p A (K+i*KB (d+1)) wv) (F:=λn s i=>BR.Ac _ l n s i) (by omega) (by simpa using hw) λm i s hi hs k=> ?_
  have hm:i*KB (d+1)≤10*KB (d+1):=Nat.mul_le_mul_right _ (by omega)
  have fin:∀{w},WK p A (K+i*KB (d+1)) w->WK p A (K+10*KB (d+1)) w:=λh=>h.mono (by omega)
  unfold BR.Ac BR.L1 BR.J3
  refine tD (λhlt=>tG (by omega) λx hx=>tB (jU h hs (by omega) (by omega) (h2 x hx)) λv hv=> ?_) λ_=>tR (fin hs)
  have hm':(i+1)*KB (d+1)≤10*KB (d+1):=Nat.mul_le_mul_right _ (by omega)
  have he:(i+1)*KB (d+1)=i*KB (d+1)+KB (d+1):=Nat.succ_mul _ _
  have j2:∀(w:A1) (e c:Int),WK p (A+1) (K+(i+1)*KB (d+1)) w->B2 (BR.J2 (BR.Ac (DR n) l m) i w e c) λr=>WK p A (K+10*KB (d+1)) r.2.2:=by
   intro w e c hw
   have ha:=hw.a
   unfold BR.J2
   rw[Ct (n:=(w.EN.length:Int)-1) (by omega) (by omega)]
   have wk:WK p A (K+(i+1)*KB (d+1)) (A1.mk w.p w.BG (w.EN.take ((w.EN.length:Int)-1).toNat) w.IU w.RZ):=⟨hw.p,by simp;omega,hw.s,hw.t⟩
   exact tC (by omega) (tI (λ_=>tR (wk.mono (by omega))) λ_=>k _ (by omega) wk)
  have j1:∀e,B2 (BR.J1 (BR.Ac (DR n) l m) (DR n) i v x e) λr=>WK p A (K+10*KB (d+1)) r.2.2:=by
   intro e
   have ha:=hv.a
   unfold BR.J1
   refine tI (λ_=>tR (hv.mono (by omega))) λ_=>tC (Ba (by omega)) (tG (by simp;omega) λ_ _=> ?_)
   refine tB (ih n (A+1) (K+i*KB (d+1)+1) _ _ (by omega) (by omega) (by omega) ⟨hv.p,by simp;omega,hv.s,hv.t⟩ (h2 x hx).body) λv1 hv1=> ?_
   refine tI (λ_=> ?_) λ_=>j2 _ _ _ (hv1.mono (by omega))
   exact tB (ih n (A+1) _ _ _ (by omega) (by omega) (by omega) hv1 (h2 x hx).tX) λv2 hv2=>j2 _ _ _ (hv2.mono (by omega))
  exact tI (λ_=>j1 _) λ_=>j1 _
theorem Sl {p:AL} (h:MP p):TT (BH p):=by
 have hd:=h.dl;have ht:=h.t
 have hc:KB 4=8421:=rfl
 unfold BH
 refine GN (Ub h) λ_=>tI (λ_=>tR trivial) λ_=>GN (XQ h) λ_=>tI (λ_=>tR trivial) λ_=>tI (λ_=>tR trivial) λ_=>GN (Ta h) λ_=>tI (λ_=>tR trivial) λ_=> ?_
 refine My p.AA.length (λ_ _=>True) (F:=λn s i=>BH.Ac p n s i) (by omega) trivial λm i s hi _ k=> ?_
 unfold BH.Ac BH.L1 BH.J1
 refine tD (λ_=>tG (by omega) λx hx=>GN (X8 4 _ _ (Lm (by omega)) (h.b x hx)) λ_=>k _ (by omega) trivial) λ_=>tI (λ_=>tR trivial) λ_=> ?_
 refine My p.AA.length (λi w=>WK p 0 (i*84210) w) (F:=λn s i=>BH.Da p n s i) (by omega) ⟨rfl,rfl,by simp,by simp⟩ λm i s hi hs k=> ?_
 unfold BH.Da BH.L2 BH.J2
 refine tD (λhlt=>tG (by omega) λx hx=> ?_) λ_=>tR trivial
 refine tB (fH h 4 _ 0 (i*84210) _ _ (Lm (by omega)) (by omega) (by omega) ⟨hs.p,hs.a,hs.s,hs.t⟩ (h.b x hx)) λv hv=>tI (λ_=>tR trivial) λ_=>k _ (by omega) (hv.mono (by omega))
end
section
variable {T:ByteArray->Prop}
structure MK1 (N i:Nat) (m:AF) (p:AL):Prop where
 t:Ge m.t
 h:m.held=[]
 d:Dz=some p.Decls
 n:p.AA.length=i
 b:∀t∈p.AA,Qw (λs=>s∈JW.take N) 4 t.Body
 nm:p.AA.map (·.Name)=JW.take i
 lo:∀t∈p.AA,t.EY=UR
theorem eY {i:Nat} (h:i<JW.length):JW.take i++[JW[i]]=JW.take (i+1):=List.take_append_getElem h
abbrev MPO (p:AL):Prop:=MP p/\∃l,BH p=some (0,l)
theorem UZ {l:List Int} (hl:l.length≤1000) (hu:∀x∈l,0≤x/\x<256):B2 (BL l) MPO:=by
 have hd:∃D,Dz=some D:=⟨_,rfl⟩
 obtain⟨D,hD⟩:=hd
 have h4:JW.length=4:=rfl
 unfold BL
 refine tE hD (tB (Eb (t:=⟨l,0⟩) ⟨hl,by simp,hu⟩ (by omega)) ?_)
 rintro⟨v,tp⟩ ⟨hv,htp⟩
 simp only at hv htp
 have hw:BE (2+v)=2+v:=Ct (by omega) (by omega)
 refine My (2+v).toNat (λi (s:AF×AL)=>MK1 (2+v).toNat i s.1 s.2) (F:=λn s i=>BL.Ac (v,tp) n s.1 s.2 i) (by omega) (s0:=(_,_)) ⟨htp,rfl,hD,rfl,by simp,rfl,by simp⟩ λn i s hi hs k=> ?_
 unfold BL.Ac BL.L1
 simp only[hw]
 -- the end
 have j5:¬(i:Int)<2+v->B2 (BL.J5 s.2) MPO:=by
  intro hge
  have hi:i=(2+v).toNat:=by omega
  have hm:MP s.2:=⟨hs.d,by have:=hs.n;omega,λt ht=>by rw[hs.lo t ht];simp[UR],by rw[hs.nm,hi];exact hs.b,⟨i,by omega,by omega,hs.nm⟩,hs.lo⟩
  unfold BL.J5 G4 DX
  obtain⟨q,hq,_⟩:=Sl hm
  refine tE hq (tI (λ_=>tE hD ?_) λh=>tR ⟨hm,q.2,hq.trans (congrArg some (Prod.ext (by simpa using h) rfl))⟩)
  simp only[Option.bind_some]
  have key:Dz.bind (λD=>BH ⟨D,[⟨⟨#[109,97,105,110]⟩,0,[⟨#[97]⟩,⟨#[98]⟩],[⟨1,0,⟨#[120]⟩,⟨#[]⟩,[],⟨1,1,⟨#[]⟩,[]⟩,[],[]⟩]⟩]⟩)=some (0,0):=by decide +kernel
  rw[hD,Option.bind_some]at key
  refine tR ⟨⟨hD,by simp,by simp,?_,⟨1,by omega,by omega,rfl⟩,by simp[UR]⟩,0,key⟩
  simp only[List.mem_singleton,forall_eq]
  refine⟨by simp,?_⟩
  simp only[List.mem_singleton,forall_eq]
  exact Hy (.inl ⟨rfl,rfl⟩) (Qu (by decide)) _
 have j3:∀m t,(hi:i<(2+v).toNat)->Ge m.t->m.held=[]->(t.EY=UR/\t.Name=JW[i]'(by omega))->Qw (λs=>s∈JW.take (2+v).toNat) 4 t.Body->B2 (BL.J3 (λm p i=>BL.Ac (v,tp) n m p i) i s.2 m t) MPO:=by
  intro m t h0 h1 h2 h3 h4
  unfold BL.J3 BL.J4
  have hn:=hs.n
  refine tC (Ba (by omega)) (k (m,_) h0 ⟨h1,h2,hs.d,by simp;omega,?_,?_,?_⟩)
  . simp only[List.mem_append,List.mem_singleton]
    rintro x (hx|rfl)
    . exact hs.b x hx
    . exact h4
  . simp only[List.map_append,hs.nm,List.map_cons,List.map_nil,h3.2]
    exact eY _
  . simp only[List.mem_append,List.mem_singleton]
    rintro x (hx|rfl)
    . exact hs.lo x hx
    . exact h3.1
 have j1:∀t,(hi:i<(2+v).toNat)->(t.EY=UR/\t.Name=JW[i]'(by omega))->t.Body.length≤3->(∀x∈t.Body,KD (λs=>s∈JW.take (2+v).toNat) 4 x)->B2 (BL.J1 (λm p i=>BL.Ac (v,tp) n m p i) i s.1 s.2 t) MPO:=by
  intro t h0 h1 h2 h3
  have hh:s.1.held=[]:=hs.h
  unfold BL.J1
  refine tB (Eb hs.t (by omega)) λa ha=> ?_
  rw[Ct (n:=1+a.1) (by omega) (by omega)]
  have hb:=Bx
  obtain⟨b1,hb1⟩:∃n,Bo=n+1:=⟨Bo-1,by omega⟩
  rw[hb1]
  refine tB ((dO (T:=λs=>s∈JW.take (2+v).toNat) 2 0 b1 (by omega) (by omega) (by omega)).2 (AF.mk a.2 i s.1.left s.1.E5 s.1.tx s.1.atomic s.1.loop s.1.held) (1+a.1) ⟨ha.2,by rw[show _=s.1.held from rfl,hh];simp⟩ (by omega)) λb hb=> ?_
  obtain⟨⟨g1,g2⟩,g3⟩:=hb
  have hb2:b.2.held=[]:=g3.h.trans hh
  have g0:∀x∈t.Body++b.1,KD (λs=>s∈JW.take (2+v).toNat) 4 x:=λx hx=>(List.mem_append.1 hx).elim (h3 x) (g2 x)
  refine tC (Ba (by omega)) (tI (λ_=>tB (Eb g3.t (by omega)) λc hc=> ?_) λ_=> ?_)<;>unfold BL.J2
  . refine tI (λ_=>tC (Ba (by simp;omega)) (j3 _ _ h0 hc.2 hb2 h1 ⟨by simp;omega,?_⟩)) λ_=>j3 _ _ h0 hc.2 hb2 h1 ⟨by simp;omega,g0⟩
    intro x hx
    rcases List.mem_append.1 hx with hx|hx
    . exact g0 x hx
    . rw[List.mem_singleton.1 hx]
      refine Kd (by decide) (by decide) (by decide) ⟨by simp,by simp,by simp,λ_=> ?_,by simp,by simp⟩
      exact List.mem_take_iff_getElem.2 ⟨1,by omega,rfl⟩
  . exact tI (λh=>by cases h) λ_=>j3 _ _ h0 g3.t hb2 h1 ⟨by simp;omega,g0⟩
 refine tD (λh=>XS (l:=JW) (by omega) (tI (λ_=> ?_) λ_=>j1 _ (by omega) ⟨rfl,rfl⟩ (by simp) (by simp))) j5
 refine tLk (2+v).toNat 1 (λk (t:CA)=>(t.EY=UR/\t.Name=JW[i]'(by omega))/\t.Body.length+1≤k/\∀x∈t.Body,KD (λs=>s∈JW.take (2+v).toNat) 4 x) (F:=λn t k=>BL.Da _ _ _ _ _ n t k) (by omega) (by omega) ⟨⟨rfl,rfl⟩,by simp,by simp⟩ λm q t hq ht k2=> ?_
 obtain⟨t1,t2,t3⟩:=ht
 unfold BL.Da BL.L2
 simp only[hw]
 refine tD (λ_=>XS (l:=JW) (by omega) (tC (Ba (by omega)) (k2 _ (by omega) ⟨t1,by simp;omega,?_⟩))) λ_=>j1 _ (by omega) t1 (by omega) t3
 intro x hx
 rcases List.mem_append.1 hx with hx|hx
 . exact t3 x hx
 . rw[List.mem_singleton.1 hx]
   refine Kd (by decide) (by decide) (by simp) ⟨by simp,by simp,by simp,λ_=> ?_,by simp,by simp⟩
   exact List.mem_take_iff_getElem.2 ⟨q,by omega,rfl⟩
theorem US {l:List Int} (hl:l.length≤1000):B2 (DP l) λr=>r.length≤l.length:=by
 unfold DP
 refine My l.length (λi (s:List CC)=>s.length≤i) (F:=λn s i=>DP.Ac l n s i) (by omega) (by simp) λn i s hi hs k=> ?_
 unfold DP.Ac DP.L1 DP.J1
 exact tD (λ_=>tG (by omega) λx _=>tC (Ba (by omega)) (k _ (by omega) (by simp;omega))) λ_=>tR (by omega)
theorem Zg (d:Nat):∀(n K:Nat) (o:List DO) (t nv:Int) (l:List AK),d+1≤n->K+10*KB d≤900000->o.length≤K->Qw T d l->B2 (FY n o t nv l) λr=>r.1.length≤K+10*KB d:=by
 induction d with
 |zero=>
  intro n K o t nv l hn hK hw ⟨_,h⟩
  obtain⟨n,rfl⟩:∃k,n=k+1:=⟨n-1,by omega⟩
  have:l=[]:=List.eq_nil_iff_forall_not_mem.2 λx hx=>(h x hx).elim
  subst this
  show B2 (C2 (FY n) o t nv []) _
  exact tR hw
 |succ d ih=>
  intro n K o t nv l hn hK hw ⟨h1,h2⟩
  obtain⟨n,rfl⟩:∃k,n=k+1:=⟨n-1,by omega⟩
  show B2 (C2 (FY n) o t nv l) _
  unfold C2
  have hc:KB (d+1)=1+20*KB d:=rfl
  refine My l.length (λi (s:List DO×Int)=>s.1.length≤K+i*KB (d+1)) (F:=λm s i=>C2.Ac _ l t m s.1 s.2 i) (s0:=(o,nv)) (by omega) (by simpa using hw) λm i s hi hs k=> ?_
  have hm:i*KB (d+1)≤10*KB (d+1):=Nat.mul_le_mul_right _ (by omega)
  unfold C2.Ac C2.L1 C2.J1
  refine tD (λhlt=>tG (by omega) λx hx=>tC (Ba (by omega)) ?_) λ_=>tR (by simp only;omega)
  have hm':(i+1)*KB (d+1)≤10*KB (d+1):=Nat.mul_le_mul_right _ (by omega)
  have he:(i+1)*KB (d+1)=i*KB (d+1)+KB (d+1):=Nat.succ_mul _ _
  refine tB (ih n (K+i*KB (d+1)+1) _ _ _ _ (by omega) (by omega) (by simp;omega) (h2 x hx).body) λv hv=> ?_
  refine tB (ih n _ _ _ _ _ (by omega) (by omega) hv (h2 x hx).tX) λw hw=>k (_,_) (by omega) (by simp only;omega)
structure MW (w:AB):Prop where
 q:B2 (Bp w qS) λr=>0≤r/\r<w.Cells.length
 c:w.Cells.length≤100
 l:w.AG.length≤100
 d:w.Au.length≤100
 f:w.AH.length≤100
 t:w.AA.length≤4
def Mx:List DJ:=[⟨⟨#[120]⟩,0,0,false,0⟩,⟨⟨#[121]⟩,0,0,false,1⟩,⟨⟨#[118]⟩,0,0,true,0⟩,⟨⟨#[113]⟩,0,2,false,0⟩,⟨⟨#[113]⟩,1,2,false,0⟩]
theorem XP {p:AL} (h:MP p) (ho:∃l,BH p=some (0,l)):B2 (CI p) MW:=by
 obtain⟨l,ho⟩:=ho
 have ht:=h.t
 have hc:KB 4=8421:=rfl
 unfold CI
 refine tE ho (tI (λh=>by cases h) λ_=> ?_)
 have key:∀D T,Dz=some D->CI.Ac ⟨D,T⟩ Bo (AB.mk [] [] [] [] [] []) 0=CI.J4 ⟨D,T⟩ ⟨Mx,[⟨⟨#[109]⟩,false⟩,⟨⟨#[110]⟩,false⟩,⟨⟨#[114]⟩,true⟩],[⟨⟨#[99]⟩,0⟩],[⟨#[102]⟩],[],[]⟩:=by
  intro D T hD
  unfold Dz at hD
  obtain rfl:=Option.some.inj hD
  kernel_rfl
 rw[show CI.Ac p Bo (AB.mk [] [] [] [] [] []) 0=_ from key p.Decls p.AA h.d]
 unfold CI.J4
 rw[show AL.mk p.Decls p.AA=p from rfl]
 refine My p.AA.length (λi w=>w.BA.length≤i*84210/\w.AA.length=i/\w.Cells=Mx/\w.AG.length=3/\w.Au.length=1/\w.AH.length=1) (F:=λn s i=>CI.Gx _ n s i) (by omega) ⟨by simp,rfl,rfl,rfl,rfl,rfl⟩ λn i w hi hw k=> ?_
 obtain⟨w1,w2,w3,w4,w5,w6⟩:=hw
 unfold CI.Gx CI.L3 CI.J5
 refine tD (λ_=>tG (by omega) λx hx=>tC (Ba (by omega)) (tB (Zg 4 _ (i*84210) _ _ _ _ (Lm (by omega)) (by omega) w1 (h.b x hx)) λv hv=>k _ (by omega) ⟨by simp only;omega,by simp;omega,w3,w4,w5,w6⟩)) λ_=>tR ⟨?_,by rw[w3];decide,by omega,by omega,by omega,by omega⟩
 rw[w3]
 have key2:∀w:AB,w.Cells=Mx->Bp w qS=some 3:=by
  intro w hw
  obtain⟨c,l,d,f,t,s⟩:=w
  simp only at hw
  subst hw
  kernel_rfl
 exact⟨3,key2 w w3,by omega,by decide⟩
end
section
variable {T:ByteArray->Prop}
structure GS (g:Aw) (n:Nat) (r:Aw):Prop where
 w:r.w=g.w
 l:r.locals=g.locals
 a:g.out.length≤r.out.length
 b:r.out.length≤g.out.length+n
structure GB (g:Aw) (n:Nat):Prop where
 w:MW g.w
 l:g.locals.length≤2
 n:g.out.length+n≤8000000
theorem GS.refl (g:Aw) (n:Nat):GS g n g:=⟨rfl,rfl,by omega,by omega⟩
theorem GS.trans {g h r:Aw} {m n k:Nat} (a:GS g m h) (b:GS h n r) (hk:m+n≤k):GS g k r:=⟨b.w.trans a.w,b.l.trans a.l,by have:=a.a;have:=b.a;omega,by have:=a.b;have:=b.b;omega⟩
theorem GB.next {g h:Aw} {m n k:Nat} (a:GB g k) (s:GS g m h) (hk:m+n≤k):GB h n:=⟨by rw[s.w];exact a.w,by rw[s.l];exact a.l,by have:=s.b;have:=a.n;omega⟩
theorem GB.less {g:Aw} {n k:Nat} (a:GB g k) (hk:n≤k):GB g n:=a.next (GS.refl g 0) (by omega)
theorem LI {g:Aw} (h:GB g 1) (i:AW):B2 (Az g i) λr=>GS g 1 r/\r.out.length=g.out.length+1:=by
 have:=h.n
 unfold Az
 exact tC (Ba (by omega)) (tR ⟨⟨rfl,rfl,by simp,by simp⟩,by simp⟩)
theorem Fv {g:Aw} (h:GB g 1) (i:AW):B2 ((Az g i).bind λv=>some v) (GS g 1):=tB (LI h i) λ_ h=>tR h.1
theorem P7 {w:AB} (h:MW w) (s:ByteArray):TT (Bp w s):=by
 have hc:=h.c
 unfold Bp
 refine tL w.Cells.length (by omega) λn i hi k=> ?_
 unfold Bp.Ac Bp.L1 Bp.J1
 exact tD (λ_=>tG (by omega) λx _=>tI (λ_=>tR trivial) λ_=>k (by omega)) λ_=>tR trivial
theorem Wz {w:AB} (h:MW w) (s:ByteArray):TT (Cr w.AG s):=by
 have hc:=h.l
 unfold Cr
 refine tL w.AG.length (by omega) λn i hi k=> ?_
 unfold Cr.Ac Cr.L1 Cr.J1
 exact tD (λ_=>tG (by omega) λx _=>tI (λ_=>tR trivial) λ_=>k (by omega)) λ_=>tR trivial
theorem bX {g:Aw} (h:MW g.w) (s:ByteArray):B2 (CG g s) λr=>r.2=g:=by
 have hc:=h.d
 unfold CG
 refine tL g.w.Au.length (by omega) λn i hi k=> ?_
 unfold CG.Ac CG.L1 CG.J1
 exact tD (λ_=>tG (by omega) λx _=>tI (λ_=>tR rfl) λ_=>k (by omega)) λ_=>tR rfl
theorem Uu {w:AB} (h:MW w) {s:ByteArray} (hs:s=qS) {α:Type} {f:Int->DJ->Option α} {Q:α->Prop} (k:∀i c,B2 (f i c) Q):B2 ((Bp w s).bind λi=>(gt w.Cells i).bind (f i)) Q:=by
 rw[hs]
 exact tB h.q λi hi=>tG hi λc _=>k i c
theorem Zj (d:Nat):∀(n:Nat) (g:Aw) (e:As) (r:Int),d≤n->Pr d e->GB g (3^d)->B2 (CX n g e r) (GS g (3^d)):=by
 induction d with
 |zero=>exactλn g e r _ h=>h.elim
 |succ d ih=>
  intro n g e r hn he hg
  obtain⟨n,rfl⟩:∃k,n=k+1:=⟨n-1,by omega⟩
  have hp:3^(d+1)=3*3^d:=by rw[Nat.pow_succ];omega
  have h0:0<3^d:=Nat.pow_pos (by omega)
  show B2 (Ez (CX n) g e r) _
  have up:∀{r},GS g 1 r->GS g (3^(d+1)) r:=λh=>h.trans (GS.refl _ 0) (by omega)
  unfold Ez
  rcases he with⟨e1,_⟩|⟨e1,_⟩|⟨e1,e2,a,e3,e4⟩|⟨e1,a,b,e3,e4,e5⟩
  . simp only[e1]
    exact tI (λ_=>tM (Fv (hg.less (by omega)) _) λ_=>up) λh=>by cases h
  . simp only[e1]
    refine tI (λh=>by cases h) λ_=>tI (λ_=>tB (JC _ _ (by have:=hg.l;omega)) λ_ _=>tI (λ_=>tM (Fv (hg.less (by omega)) _) λ_=>up) λ_=> ?_) λh=>by cases h
    exact GN (P7 hg.w _) λ_=>tM (Fv (hg.less (by omega)) _) λ_=>up
  . simp only[e1,e3]
    refine tI (λh=>by cases h) λ_=>tI (λh=>by cases h) λ_=>tI (λ_=>tE (y:=a) rfl ?_) λh=>by cases h
    refine tB (ih n g a r (by omega) e4 (hg.less (by omega))) λv hv=> ?_
    have hg2:GB v 1:=hg.next hv (by omega)
    exact Uu hg2.w e2 λi c=>tM (Fv hg2 _) λ_ h=>hv.trans h (by omega)
  . have n1:e.Op≠1:=λh=>by rw[h]at e1;simp at e1
    have n2:e.Op≠2:=λh=>by rw[h]at e1;simp at e1
    have n3:e.Op≠3:=λh=>by rw[h]at e1;simp at e1
    rw[if_neg (by simpa using n1),if_neg (by simpa using n2),if_neg (by simpa using n3),e3]
    refine tI (λh=>by cases h) λ_=>tE (y:=a) rfl (tB (ih n g a r (by omega) e4 (hg.less (by omega))) λv hv=>tE (y:=b) rfl (tB (ih n v b _ (by omega) e5 (hg.next hv (by omega))) λu hu=> ?_))
    exact tM (Fv (hg.next (hv.trans hu (Nat.le_refl _)) (by omega)) _) λ_ h=>(hv.trans hu (Nat.le_refl _)).trans h (by omega)
theorem OG {g:Aw} {e:As} (he:Pr 2 e) (hg:GB g 9) (r:Int):B2 (CX Bo g e r) (GS g 9):=Zj 2 _ g e r (Lm (by omega)) he hg
theorem WH {g:Aw} (hg:GB g 30) {k:Nat} {s:AK} (hs:KD T (k+1) s) (ho:s.Op=1):B2 (El g s) (GS g 30):=by
 have he:Pr 2 s.Expr:=hs.2.2.1.resolve_right λh=>h.1 (by simp[ho])
 unfold El
 rcases hs.2.1 with h|⟨_,hq,a,h,ha⟩
 . rw[h]
   refine tI (λh=>by cases h) λ_=>tB (OG he (hg.less (by omega)) _) λv hv=> ?_
   have h2:GB v 1:=hg.next hv (by omega)
   refine tB (JC _ _ (by have:=h2.l;omega)) λ_ _=>tI (λ_=>tM (Fv h2 _) λ_ h=>hv.trans h (by omega)) λ_=>GN (P7 h2.w _) λ_=>tM (Fv h2 _) λ_ h=>hv.trans h (by omega)
 . rw[h]
   refine tI (λ_=>tE (y:=a) rfl ?_) λh=>by cases h
   refine tB (OG ha (hg.less (by omega)) _) λv hv=>tB (OG he (hg.next hv (by omega)) _) λu hu=> ?_
   have h2:GB u 1:=hg.next (hv.trans hu (Nat.le_refl _)) (by omega)
   exact Uu h2.w hq λi c=>tM (Fv h2 _) λ_ h=>(hv.trans hu (Nat.le_refl _)).trans h (by omega)
def cg:Nat->Nat
 |0=>0
 |d+1=>40+20*cg d
theorem GS.site {g r:Aw} {n:Nat} (h:GS g n r) (a b:Int):GS g n ⟨r.w,r.locals,r.out,a,b⟩:=⟨h.w,h.l,h.a,h.b⟩
theorem GS.set {g r:Aw} {n:Nat} (h:GS g n r) (i:Nat) (x:AW) (a b:Int):GS g n ⟨r.w,r.locals,r.out.set i x,a,b⟩:=⟨h.w,h.l,by simpa using h.a,by simpa using h.b⟩
section
variable {R:Aw->List AK->Option Aw} {g:Aw} {s:AK} {n:Nat}
theorem WE (hg:GB g (n+2)) (hR:∀g,GB g n->B2 (R g s.Body) (GS g n)) (a b c:Int):B2 (Du R g s a b c) (GS g (n+2)):=by
 unfold Du
 refine tB (LI (hg.less (by omega)) _) λv hv=>tB (hR v (hg.next hv.1 (by omega))) λu hu=> ?_
 have h1:GS g (n+1) ⟨u.w,u.locals,u.out,g.site,u.next⟩:=(hv.1.trans hu (by omega)).site _ _
 exact tM (Fv (hg.next h1 (by omega)) _) λ_ h=>h1.trans h (by omega)
theorem Tk (hg:GB g (2*n+11)) (he:Pr 2 s.Expr) (hR:∀g,GB g n->B2 (R g s.Body) (GS g n)) (hE:∀g,GB g n->B2 (R g s.Else) (GS g n)):B2 (DM R g s) (GS g (2*n+11)):=by
 unfold DM
 refine tB (OG he (hg.less (by omega)) _) λv hv=>tB (LI (hg.next hv (by omega)) _) λu hu=> ?_
 have h1:GS g 10 u:=hv.trans hu.1 (by omega)
 refine tB (hR u (hg.next h1 (by omega))) λx hx=> ?_
 have h2:GS g (n+10) x:=h1.trans hx (by omega)
 have a1:=hu.2;have a2:=hx.a
 have h3:=h2.site g.site x.next
 refine tI (λ_=>tB (LI (hg.next h3 (by omega)) _) λy hy=>tG ?_ λ_ _=>tR ?_) λ_=>tI (λ_=>tG ?_ λ_ _=>tR ?_) λ_=>tB (LI (hg.next h3 (by omega)) _) λy hy=>tG ?_ λ_ _=> ?_
 . have:=hy.2;simp only at this;omega
 . exact((h3.trans hy.1 (Nat.le_refl _)).set _ _ _ _).trans (GS.refl _ 0) (by omega)
 . omega
 . exact(h2.set _ _ _ _).trans (GS.refl _ 0) (by omega)
 . have:=hy.2;simp only at this;omega
 . have h4:=(h3.trans hy.1 (Nat.le_refl _)).set v.out.length (AW.mk (‹AW›).Op (‹AW›).A (y.out.length:Int) (‹AW›).C (‹AW›).N (‹AW›).Site) y.site y.next
   refine tB (hE _ (hg.next h4 (by omega))) λz hz=>tG ?_ λ_ _=>tR (((h4.trans hz (Nat.le_refl _)).set _ _ _ _).trans (GS.refl _ 0) (by omega))
   have b1:=hy.2;have b2:=hz.a
   simp only[List.length_set]at b1 b2;omega
variable {R1:Aw->AK->Option Aw} {R2:Aw->AK->Int->Int->Int->Option Aw}
theorem Y3 (hn:30≤n) (hg:GB g n) {k:Nat} (hs:KD T (k+1) s) (h1:Pr 2 s.Expr->∀g,GB g n->B2 (R1 g s) (GS g n)) (h2:∀g a b c,GB g n->B2 (R2 g s a b c) (GS g n)):B2 (Cc R1 R2 g s) (GS g n):=by
  have hl:=hg.l;have hf:=hg.w.f;have ht:=hg.w.t
  have h0:GB (Aw.mk g.w g.locals g.out g.next (BE (g.next+1))) n:=hg.next ((GS.refl g 0).site _ _) (by omega)
  have up:∀{r},GS (Aw.mk g.w g.locals g.out g.next (BE (g.next+1))) n r->GS g n r:=λh=>⟨h.w,h.l,h.a,h.b⟩
  have up1:∀{m r},m≤n->GS (Aw.mk g.w g.locals g.out g.next (BE (g.next+1))) m r->GS g n r:=λhm h=>up (h.trans (GS.refl _ 0) hm)
  have A:∀a b c,B2 ((R2 (Aw.mk g.w g.locals g.out g.next (BE (g.next+1))) s a b c).bind λv=>some v) (GS g n):=λa b c=>tB (h2 _ a b c h0) λ_ h=>tR (up h)
  have P:∀i,B2 ((Az (Aw.mk g.w g.locals g.out g.next (BE (g.next+1))) i).bind λv=>some v) (GS g n):=λi=>tM (Fv (h0.less (by omega)) i) λ_ h=>up1 (by omega) h
  have j1:∀b,(b=true->s.Op∈[(2:Int),3])->B2 (Cc.J1 R1 R2 g s b) (GS g n):=by
    intro b hb;unfold Cc.J1
    refine tI (λh=>tB (h1 (hs.2.2.1.resolve_right λq=>q.1 ?_) _ h0) λ_ h=>tR (up h)) λ_=> ?_
    . have:=hb h;simp at this ⊢;omega
    repeat' first
      |exact A _ _ _
      |exact P _
      |exact tR (up (GS.refl _ _))
      |refine tI (λho=>tB (OG (hs.2.2.1.resolve_right λq=>q.1 (by have:=eq_of_beq ho;simp[this])) (h0.less (by omega)) _) λv hv=>tB (JC _ _ (by rw[hv.w];simp only;omega)) λ_ _=>tM (Fv (h0.next hv (by omega)) _) λ_ h=>up1 (by omega) (hv.trans h (Nat.le_refl _))) λ_=> ?_
      |refine tI (λ_=> ?_) λ_=> ?_
      |refine GN (Wz hg.w _) λ_=> ?_
      | (refine tB (bX h0.w _) ?_
         rintro⟨i,w⟩ rfl)
      |refine tB (JC _ _ (by omega)) λ_ _=> ?_
  unfold Cc
  refine tI (λh=>tB (WH (h0.less (by omega)) hs (eq_of_beq h)) λ_ h=>tR (up1 (by omega) h)) λ_=>tI (λh=>j1 _ λ_=> ?_) λ_=>j1 _ λh=> ?_
  . simp[eq_of_beq h]
  . simp[eq_of_beq h]
end
theorem VA (d:Nat):∀(n:Nat) (g:Aw) (l:List AK),3*d+1≤n->GB g (10*cg d)->Qw T d l->B2 (DD n g l) (GS g (10*cg d)):=by
 induction d with
 |zero=>
  intro n g l hn hg ⟨_,h⟩
  obtain⟨n,rfl⟩:∃k,n=k+1:=⟨n-1,by omega⟩
  have:l=[]:=List.eq_nil_iff_forall_not_mem.2 λx hx=>(h x hx).elim
  subst this
  show B2 (B8 (Jk n) g []) _
  exact tR (GS.refl _ _)
 |succ d ih=>
  intro n g l hn hg ⟨h1,h2⟩
  obtain⟨n,rfl⟩:∃k,n=k+3:=⟨n-3,by omega⟩
  show B2 (B8 (Cc (DM (DD n)) (Du (DD n))) g l) _
  have hc:cg (d+1)=40+20*cg d:=rfl
  unfold B8
  refine My l.length (λi s=>GS g (i*cg (d+1)) s) (F:=λm s i=>B8.Ac _ l m s i) (by omega) (GS.refl _ _) λm i s hi hs k=> ?_
  have hm:i*cg (d+1)≤10*cg (d+1):=Nat.mul_le_mul_right _ (by omega)
  unfold B8.Ac B8.L1
  refine tD (λhlt=>tG (by omega) λx hx=> ?_) λ_=>tR (hs.trans (GS.refl _ 0) (by omega))
  have hm':(i+1)*cg (d+1)≤10*cg (d+1):=Nat.mul_le_mul_right _ (by omega)
  have he:(i+1)*cg (d+1)=i*cg (d+1)+cg (d+1):=Nat.succ_mul _ _
  have hb:∀g,GB g (10*cg d)->B2 (DD n g x.Body) (GS g (10*cg d)):=λg hg=>ih n g _ (by omega) hg (h2 x hx).body
  have hl:∀g,GB g (10*cg d)->B2 (DD n g x.Else) (GS g (10*cg d)):=λg hg=>ih n g _ (by omega) hg (h2 x hx).tX
  refine tB (Y3 (n:=cg (d+1)) (by omega) (hg.next hs (by omega)) (h2 x hx) (λhe g hg=> ?_) λg a b c hg=> ?_) λv hv=>k _ (by omega) (hs.trans hv (by omega))
  . exact tM (Tk (n:=10*cg d) (hg.less (by omega)) he hb hl) λ_ h=>h.trans (GS.refl _ 0) (by omega)
  . exact tM (WE (n:=10*cg d) (hg.less (by omega)) hb a b c) λ_ h=>h.trans (GS.refl _ 0) (by omega)
def rg (i:AW):List Int:=(AQ i).getD []
theorem F8 (i:AW):AQ i=some (rg i)/\(rg i).length≤3:=by
 have key:B2 (AQ i) λr=>r.length≤3:=by
  unfold AQ AQ.J1 AQ.J2 AQ.J3
  repeat' first|exact tR (by simp)|refine tI (λ_=> ?_) λ_=> ?_
 obtain⟨r,h1,h2⟩:=key
 unfold rg
 rw[h1]
 exact⟨rfl,h2⟩
structure CK (c:BB):Prop where
 n:c.AA.length≤4
 i:∀t∈c.AA,t.B3.length≤8000000
theorem Uz {p:AL} (h:MP p):B2 (BC p) λr=>CK r.1:=by
 have ht:=h.t
 have hc:cg 4=336840:=rfl
 unfold BC
 obtain⟨v,hv,_⟩:=Sl h
 refine tE hv (tI (λ_=>tR ⟨by simp,by simp⟩) λhv0=>tB (XP h ⟨v.2,?_⟩) λw hw=> ?_)
 . rw[hv]
   have:v.1=0:=by simpa using hv0
   rw[← this]
 refine My p.AA.length (λi (s:BB×Int)=>s.1.World=w/\s.1.AA.length=i/\∀t∈s.1.AA,t.B3.length≤8000000) (F:=λn s i=>BC.Ac p n s.1 s.2 i) (s0:=(_,_)) (by omega) ⟨rfl,rfl,by simp⟩ λn i s hi hs k=> ?_
 obtain⟨s1,s2,s3⟩:=hs
 unfold BC.Ac BC.L1 BC.J4
 refine tD (λ_=>tG (by omega) λx hx=> ?_) λ_=>tR ⟨by simp only;omega,s3⟩
 have hl:=h.l x hx
 have g0:GB (Aw.mk s.1.World x.EY [] 0 s.2) 4000000:=⟨by rw[s1];exact hw,hl,by simp⟩
 refine tB (VA 4 _ _ _ (Lm (by omega)) (g0.less (by omega)) (h.b x hx)) λv hv=> ?_
 refine tB (LI (g0.next (hv.site (-1) v.next) (by omega)) _) λu hu=> ?_
 have hu2:=hu.2;have hv2:=hv.b
 simp only[List.length_nil]at hu2 hv2
 refine My u.out.length (λ_ (t:Ak)=>t.B3=u.out) (F:=λn t k=>BC.Da _ _ _ _ _ n t k) (by omega) rfl λm q t hq ht k2=> ?_
 unfold BC.Da BC.L2 BC.J2 BC.J3
 refine tD (λ_=>tG (by omega) λy _=> ?_) λ_=>tC (Ba (by omega)) (k (_,_) (by omega) ⟨s1,by simp;omega,?_⟩)
 . obtain⟨r1,r2⟩:=F8 y
   refine tE r1 (My (rg y).length (λ_ (t:Ak)=>t.B3=u.out) (F:=λn t k=>BC.Gx _ _ _ n t k) (by omega) ht λm q t hq ht k3=> ?_)
   unfold BC.Gx BC.L3 BC.J1
   exact tD (λ_=>tG (by omega) λ_ _=>k3 _ (by omega) ht) λ_=>k2 _ (by omega) ht
 . intro z hz
   rcases List.mem_append.1 hz with hz|hz
   . exact s3 z hz
   . rw[List.mem_singleton.1 hz,ht];omega
end
end Go.Abs
namespace Go.Abs
instance:Inhabited Iy:=⟨⟨⟨#[]⟩,false⟩⟩
theorem rK (a b:ByteArray):(a==b)=(a.data==b.data):=by cases a;cases b;rfl
theorem Yc (a b:ByteArray):(a.toList==b.toList)=(a==b):=by
 rw[rK,Bool.eq_iff_iff,beq_iff_eq,beq_iff_eq,ByteArray.toList_eq,ByteArray.toList_eq];exact Array.toList_inj
theorem Om (wv:AB) (L1:List ByteArray->Int->Option (List ByteArray×Bool)) (L1':List ByteArray->Int->Option (List ByteArray×Bool)) (F:List ByteArray×Bool->Option (List ByteArray×Bool))
 (hF:F ([],false)=some ([],false)) (hL:∀a b,L1 a b=(L1' a b).bind F) (i:Int) (l:List ByteArray) (x:DJ):
 ∀(m:Nat) (k:Int) (want:DJ),want.Name=x.Name->want.Bn=x.Bn->want.E0=false->want.Init=x.Init->
  A6.Da L1 i l wv x m k=(AP.Da L1' i wv.Cells l x m want k).bind F
 |0,k,want,_,_,_,_=>rfl
 |m+1,k,want,e1,e2,e3,e4=>by
  have ih:=λk'=>Om wv L1 L1' F hF hL i l x m k' ⟨want.Name,k,want.Bn,want.E0,want.Init⟩ e1 e2 e3 e4
  unfold A6.Da AP.Da A6.L2 AP.L2
  by_cases hk:k<x.Bn
  . rw[BI hk,BI hk]
    cases gt wv.Cells (BE (i+k))with
    |none=>rfl
    |some y=>
     simp only[Option.bind_some,A6.J2,ih,e1,e2,e3,e4]
     by_cases a1:y.Index=k<;>by_cases a2:y.Name.toList=x.Name.toList<;>by_cases a3:y.Bn=x.Bn<;>by_cases a4:y.Init=x.Init<;>cases a5:y.E0<;>simp[a1,a2,a3,a4,hF]
  . rw[Ab hk,Ab hk]
    simp only[A6.J3,AP.J2,hL,e2]
def Iq (wv:AB):List ByteArray×Bool->Option (List ByteArray×Bool):=λv=>if v.2=true then A6.J4 wv v.1 else some ([],false)
theorem Sk (wv:AB) (hc:wv.Cells.length≤12):∀(n:Nat) (names:List ByteArray) (i:Int),
 A6.Ac wv n names i=(AP.Ac wv.Cells n names i).bind (Iq wv)
 |0,_,_=>rfl
 |n+1,names,i=>by
  have ih:=Sk wv hc n
  unfold A6.Ac AP.Ac A6.L1 AP.L1
  by_cases hi:i<(wv.Cells.length:Int)
  . rw[BI hi,BI hi]
    cases hx:gt wv.Cells i with
    |none=>rfl
    |some x=>
     simp only[Option.bind_some]
     by_cases hr:Aq (names.length+1) 16=true
     . rw[if_pos hr,if_pos hr]
       by_cases h0:x.Bn=0
       . simp only[h0,beq_self_eq_true,if_true,ih]
         by_cases h1:x.Index=0<;>simp[h1,Iq]
       . simp only[h0,beq_iff_eq,if_false,A6.J1,AP.J1]
         by_cases h1:x.Bn<1
         . simp[h1,Iq]
         . by_cases h2:x.Bn>4
           . simp[h1,h2,Iq]
           . simp only[h1,h2,decide_false,Bool.false_eq_true,if_false]
             have hin:=Om wv _ _ (Iq wv) rfl (λa b=>ih a b) i names x Bo 0 x rfl rfl
             by_cases h3:x.Bn>BE ((wv.Cells.length:Int)-i)
             . cases x.E0<;>simp[h3,Iq]
             . simp only[h3,decide_false,Bool.false_eq_true,if_false]
               cases hv:x.E0 with
               |false=>simp only[Bool.false_eq_true,if_false];exact hin hv rfl
               |true=>
                simp only[if_true]
                have hi0:0≤i:=by
                 unfold gt at hx
                 by_cases h:0≤i
                 . exact h
                 . simp[h]at hx
                show A6.Da _ _ _ _ _ Bo 0=_
                rw[show Bo=18446744073709551615+1 from rfl]
                unfold A6.Da A6.L2
                rw[BI (by omega),Ct (by omega) (by omega),Int.add_zero,hx]
                simp only[Option.bind_some,A6.J2,hv]
                by_cases b1:x.Index=0<;>simp[b1,Iq]
     . rw[if_neg hr,if_neg hr];rfl
  . rw[Ab hi,Ab hi]
    simp[AP.J3,Iq]
theorem IW (l:List DJ) (hl:l.length≤12) (L1:List ByteArray->Int->Option (List ByteArray×Bool)) (names:List ByteArray) (x:DJ) (i:Nat) (h1:1≤x.Bn) (h4:x.Bn≤4) (hs:x.Bn≤(l.length:Int)-i) (Q:List ByteArray×Bool->Prop) (hQ:Q ([],false))
 (hL:∃v,L1 (names++[x.Name]) ((i+x.Bn.toNat:Nat):Int)=some v/\Q v):
 ∀(m k:Nat) (want:DJ),want.Bn=x.Bn->k≤x.Bn->x.Bn<(m+k:Nat)->∃v,AP.Da L1 (i:Int) l names x m want (k:Int)=some v/\Q v
 |0,k,want,e,h,h'=>by omega
 |m+1,k,want,e,h,h'=>by
  unfold AP.Da AP.L2
  by_cases hk:(k:Int)<x.Bn
  . rw[BI hk,Ct (by omega) (by omega),show(i:Int)+(k:Int)=((i+k:Nat):Int)from by omega,DG (by omega),Option.bind_some,A0 (by omega)]
    split
    . exact⟨_,rfl,hQ⟩
    . exact IW l hl L1 names x i h1 h4 hs Q hQ hL m (k+1) _ e (by omega) (by omega)
  . rw[Ab hk]
    unfold AP.J2
    rw[e,Ct (by omega) (by omega),show(i:Int)+x.Bn=((i+x.Bn.toNat:Nat):Int)from by omega]
    exact hL
theorem IX (l:List DJ) (hl:l.length≤12):∀(n i:Nat) (names:List ByteArray),i≤l.length->l.length<n+i->names.length≤i->∃v,AP.Ac l n names (i:Int)=some v/\v.1.length≤l.length
 |0,i,names,h1,h2,h3=>by omega
 |n+1,i,names,h1,h2,h3=>by
  unfold AP.Ac AP.L1
  by_cases hi:i<l.length
  . rw[BI (by omega),DG hi,Option.bind_some,BT (by omega)]
    have hno:∃v,some (([],false):List ByteArray×Bool)=some v/\v.1.length≤l.length:=⟨_,rfl,by simp⟩
    generalize l[i]=x
    by_cases h0:x.Bn=0
    . simp only[h0,beq_self_eq_true,if_true]
      rw[A0 (by omega)]
      split
      . exact hno
      . exact IX l hl n (i+1) _ (by omega) (by omega) (by simp;omega)
    . simp only[h0,beq_iff_eq,if_false,AP.J1]
      rw[Ct (n:=(l.length:Int)-i) (by omega) (by omega)]
      by_cases h1:x.Bn<1
      . simp[h1]
      . by_cases h2:x.Bn>4
        . simp[h1,h2]
        . by_cases h3:x.E0=true
          . simp[h1,h2,h3]
          . by_cases h5:x.Bn>(l.length:Int)-i
            . simp[h1,h2,h3,h5]
            . simp only[h1,h2,h3,h5,decide_false,Bool.false_eq_true,if_false]
              refine IW l hl _ names x i (by omega) (by omega) (by omega) _ (by simp) ?_ Bo 0 x rfl (by omega) (by have:=Bx;omega)
              exact IX l hl n (i+x.Bn.toNat) _ (by omega) (by omega) (by simp;omega)
  . rw[Ab (by omega)]
    exact⟨_,rfl,by simp;omega⟩
def HV (wv:AB):List ByteArray:=wv.AG.map (·.Name)++(wv.Au.map (·.Name)++(wv.AH++wv.AA))
def M9:List ByteArray->List ByteArray->Bool
 |_,[]=>true
 |seen,x::r=>KX x&& !(seen.any λy=>y==x)&&M9 (seen++[x]) r
structure Small (wv:AB):Prop where
 c:wv.Cells.length≤12
 l:wv.AG.length≤4
 d:wv.Au.length≤2
 f:wv.AH.length≤2
 t:wv.AA.length≤4
 s:wv.BA.length≤60
theorem names.L3 (wv:AB) (a:List ByteArray) (hl:(a++wv.AH++wv.AA).length≤1000):∀(n i:Nat) (seen:List ByteArray),i≤(a++wv.AH++wv.AA).length->(a++wv.AH++wv.AA).length<n+i->
 Ax.Gx a wv n (i:Int) seen=some (M9 seen ((a++wv.AH++wv.AA).drop i))
 |0,i,seen,h1,h2=>by omega
 |n+1,i,seen,h1,h2=>by
  unfold Ax.Gx Ax.L3
  by_cases hi:i<(a++wv.AH++wv.AA).length
  . rw[BI (by omega),DG hi,Option.bind_some,Po,Option.bind_some,EM hi]
    unfold Ax.J3
    rw[A0 (by omega),names.L3 wv a hl n (i+1) _ (by omega) (by omega)]
    generalize (a++wv.AH++wv.AA)[i]=x
    rw[M9]
    cases KX x<;>cases hs:(seen.any λy=>y==x)<;>simp
  . rw[Ab (by omega),Ey hi]
    rfl
theorem names.J2 (wv:AB) (hw:Small wv) (a:List ByteArray) (ha:a.length≤100):Ax.J2 wv a=some (M9 [] (a++(wv.AH++wv.AA))):=by
 have:=hw.f;have:=hw.t;have hb:=Bx
 unfold Ax.J2
 rw[BT (by omega),BT (by simp;omega)]
 have:=names.L3 wv a (by simp;omega) Bo 0 [] (by omega) (by simp;omega)
 rw[List.drop_zero,List.append_assoc]at this
 exact this
theorem names.L2 (wv:AB) (hw:Small wv):∀(n i:Nat) (a:List ByteArray),i≤wv.Au.length->wv.Au.length<n+i->a.length≤50+i->Ax.Da wv n a (i:Int)=some (M9 [] (a++((wv.Au.drop i).map (·.Name)++(wv.AH++wv.AA))))
 |0,i,a,h1,h2,h3=>by omega
 |n+1,i,a,h1,h2,h3=>by
  have:=hw.d
  unfold Ax.Da Ax.L2
  by_cases hi:i<wv.Au.length
  . rw[BI (by omega),DG hi,Option.bind_some,BT (by omega),A0 (by omega),names.L2 wv hw n (i+1) _ (by omega) (by omega) (by simp;omega),EM hi]
    simp only[List.map_cons,List.append_assoc,List.cons_append,List.nil_append]
  . rw[Ab (by omega),Ey hi,names.J2 wv hw a (by omega)]
    simp
theorem names.L1 (wv:AB) (hw:Small wv):∀(n i:Nat) (a:List ByteArray),i≤wv.AG.length->wv.AG.length<n+i->a.length≤20+i->Ax.Ac wv n a (i:Int)=some (M9 [] (a++((wv.AG.drop i).map (·.Name)++(wv.Au.map (·.Name)++(wv.AH++wv.AA)))))
 |0,i,a,h1,h2,h3=>by omega
 |n+1,i,a,h1,h2,h3=>by
  have:=hw.l;have:=hw.d;have hb:=Bx
  unfold Ax.Ac Ax.L1
  by_cases hi:i<wv.AG.length
  . rw[BI (by omega),DG hi,Option.bind_some,BT (by omega),A0 (by omega),names.L1 wv hw n (i+1) _ (by omega) (by omega) (by simp;omega),EM hi]
    simp only[List.map_cons,List.append_assoc,List.cons_append,List.nil_append]
  . rw[Ab (by omega),Ey hi]
    unfold Ax.J1
    have:=names.L2 wv hw Bo 0 a (by omega) (by omega) (by omega)
    rw[List.drop_zero]at this
    simpa using this
theorem dR (wv:AB) (hw:Small wv) (vars:List ByteArray) (hv:vars.length≤12):Ax wv vars=some (M9 [] (vars++HV wv)):=by
 have:=hw.l;have hb:=Bx
 unfold Ax
 rw[BT (by omega)]
 have:=names.L1 wv hw Bo 0 vars (by omega) (by omega) (by omega)
 rw[List.drop_zero]at this
 exact this
theorem JU.J6 (wv:AB) (hw:Small wv) (a:List ByteArray) (ha:a.length≤100):A6.J6 wv a=some (a++(wv.AH++wv.AA),true):=by
 have:=hw.f;have:=hw.t
 unfold A6.J6
 rw[BT (by omega),BT (by simp;omega),List.append_assoc]
theorem JU.L4 (wv:AB) (hw:Small wv):∀(n i:Nat) (a:List ByteArray),i≤wv.Au.length->wv.Au.length<n+i->a.length≤50+i->A6.tF wv n a (i:Int)=some (a++((wv.Au.drop i).map (·.Name)++(wv.AH++wv.AA)),true)
 |0,i,a,h1,h2,h3=>by omega
 |n+1,i,a,h1,h2,h3=>by
  have:=hw.d
  unfold A6.tF A6.L4
  by_cases hi:i<wv.Au.length
  . rw[BI (by omega),DG hi,Option.bind_some,BT (by omega),A0 (by omega),JU.L4 wv hw n (i+1) _ (by omega) (by omega) (by simp;omega),EM hi]
    simp only[List.map_cons,List.append_assoc,List.cons_append,List.nil_append]
  . rw[Ab (by omega),Ey hi,JU.J6 wv hw a (by omega)]
    simp
theorem JU.L3 (wv:AB) (hw:Small wv):∀(n i:Nat) (a:List ByteArray),i≤wv.AG.length->wv.AG.length<n+i->a.length≤20+i->A6.Gx wv n a (i:Int)=some (a++((wv.AG.drop i).map (·.Name)++(wv.Au.map (·.Name)++(wv.AH++wv.AA))),true)
 |0,i,a,h1,h2,h3=>by omega
 |n+1,i,a,h1,h2,h3=>by
  have:=hw.l;have:=hw.d;have hb:=Bx
  unfold A6.Gx A6.L3
  by_cases hi:i<wv.AG.length
  . rw[BI (by omega),DG hi,Option.bind_some,BT (by omega),A0 (by omega),JU.L3 wv hw n (i+1) _ (by omega) (by omega) (by simp;omega),EM hi]
    simp only[List.map_cons,List.append_assoc,List.cons_append,List.nil_append]
  . rw[Ab (by omega),Ey hi]
    unfold A6.J5
    have:=JU.L4 wv hw Bo 0 a (by omega) (by omega) (by omega)
    rw[List.drop_zero]at this
    simpa using this
theorem JU.J4 (wv:AB) (hw:Small wv) (a:List ByteArray) (ha:a.length≤12):A6.J4 wv a=some (a++HV wv,true):=by
 have:=hw.l;have hb:=Bx
 unfold A6.J4
 have:=JU.L3 wv hw Bo 0 a (by omega) (by omega) (by omega)
 rw[List.drop_zero]at this
 exact this
theorem Xc (l:List ByteArray) (x:ByteArray) (hl:l.length≤1000):∀(n i:Nat),i≤l.length->l.length<n+i->∃r,CF.Ac l x n (i:Int)=some r/\(0≤r↔((l.drop i).any λy=>y==x)=true)
 |0,i,h1,h2=>by omega
 |n+1,i,h1,h2=>by
  unfold CF.Ac CF.L1
  by_cases hi:i<l.length
  . rw[BI (by omega),DG hi,Option.bind_some,A0 (by omega),EM hi,Yc,List.any_cons]
    obtain⟨r,hr,hr'⟩:=Xc l x hl n (i+1) (by omega) (by omega)
    cases hx:(l[i]==x)with
    |true=>exact⟨_,rfl,by simp⟩
    |false=>exact⟨r,by simpa using hr,by simpa using hr'⟩
  . rw[Ab (by omega),Ey hi]
    exact⟨-1,rfl,by simp⟩
theorem u9 (l:List ByteArray) (x:ByteArray) (hl:l.length≤1000):∃r,CF l x=some r/\decide (r≥0)=(l.any λy=>y==x):=by
 obtain⟨r,h1,h2⟩:=Xc l x hl Bo 0 (by omega) (by have:=Bx;omega)
 rw[List.drop_zero]at h2
 refine⟨r,h1,?_⟩
 cases h:(l.any λy=>y==x)with
 |true=>simpa using h2.2 h
 |false=>
  simp only[decide_eq_false_iff_not,ge_iff_le]
  intro hr
  rw[h2.1 hr]at h;cases h
theorem O9 (wv:AB) (v:List ByteArray×Bool) (hl:v.1.length≤1000):∀(n i:Nat),i≤v.1.length->v.1.length<n+i->
 Ah.Ac v wv n (i:Int)=if M9 (v.1.take i) (v.1.drop i)=true then Ah.J3 wv else some false
 |0,i,h1,h2=>by omega
 |n+1,i,h1,h2=>by
  unfold Ah.Ac Ah.L1
  by_cases hi:i<v.1.length
  . rw[BI (by omega),DG hi,Option.bind_some,Je,Option.bind_some,EM hi,if_pos (c:=0≤(i:Int)/\(i:Int).toNat≤v.1.length) (by simp;omega),Int.toNat_natCast]
    obtain⟨r,h3,h4⟩:=u9 (v.1.take i) v.1[i] (by simp;omega)
    rw[h3,Option.bind_some,h4]
    unfold Ah.J2
    rw[A0 (by omega),O9 wv v hl n (i+1) (by omega) (by omega),M9,List.take_append_getElem hi]
    cases KX v.1[i]<;>cases((v.1.take i).any λy=>y==v.1[i])<;>simp
  . rw[Ab (by omega),Ey hi]
    rfl
def Fj (nt:Nat):Int->Int->List DO->Bool
 |_,_,[]=>true
 |t,n,x::r=>if x.Thread<t∨x.Thread≥nt then false else if x.Thread>t then x.Stmt==0&&Fj nt x.Thread 1 r else x.Stmt==n&&Fj nt t (n+1) r
theorem Mk (wv:AB) (hw:Small wv):∀(n i:Nat) (t:Int) (nx:Nat),i≤wv.BA.length->wv.BA.length<n+i->nx≤i->Bm.Ac wv n t (nx:Int) (i:Int)=some (Fj wv.AA.length t nx (wv.BA.drop i))
 |0,i,t,nx,h1,h2,h3=>by omega
 |n+1,i,t,nx,h1,h2,h3=>by
  have:=hw.s
  unfold Bm.Ac Bm.L1
  by_cases hi:i<wv.BA.length
  . rw[BI (by omega),DG hi,Option.bind_some,EM hi]
    simp only[Bm.J1,Bm.J2]
    rw[A0 (i:=i) (by omega),A0 (i:=nx) (by omega),show BE (0+1)=((1:Nat):Int)from rfl]
    rw[Mk wv hw n (i+1) _ (nx+1) (by omega) (by omega) (by omega),Mk wv hw n (i+1) _ 1 (by omega) (by omega) (by omega)]
    generalize wv.BA[i]=x
    rw[Fj]
    by_cases a1:x.Thread<t
    . simp[a1]
    . by_cases a2:x.Thread≥(wv.AA.length:Int)
      . simp[a1,a2]
      . by_cases a3:x.Thread>t
        . by_cases a4:x.Stmt=0<;>simp[a1,a2,a3,a4]
        . by_cases a4:x.Stmt=(nx:Int)<;>simp[a1,a2,a3,a4]
  . rw[Ab (by omega),Ey hi]
    rfl
theorem PA (wv:AB) (hw:Small wv):∀(n i:Nat) (t:Int) (nx:Nat),i≤wv.BA.length->wv.BA.length<n+i->nx≤i->(∀(h:0<i) (h':i-1<wv.BA.length),t=wv.BA[i-1].Thread/\(nx:Int)=wv.BA[i-1].Stmt+1)->(i=0->t=0/\nx=0)->0≤t->
 Ah.Gx wv n (i:Int)=some (Fj wv.AA.length t nx (wv.BA.drop i))
 |0,i,t,nx,h1,h2,h3,_,_,_=>by omega
 |n+1,i,t,nx,h1,h2,h3,h4,h5,h6=>by
  have:=hw.s
  unfold Ah.Gx Ah.L3
  by_cases hi:i<wv.BA.length
  . rw[BI (by omega),DG hi,Option.bind_some,EM hi]
    have ih:∀(t':Int) (nx':Nat),nx'≤i+1->(t'=wv.BA[i].Thread/\(nx':Int)=wv.BA[i].Stmt+1)->0≤t'->Ah.Gx wv n ((i+1:Nat):Int)=some (Fj wv.AA.length t' nx' (wv.BA.drop (i+1))):=
     λt' nx' a b c=>PA wv hw n (i+1) t' nx' (by omega) (by omega) a (λ_ _=>b) (by omega) c
    simp only[Ah.J6,Ah.J7,Ah.J8,Ah.J9]
    rw[A0 (i:=i) (by omega)]
    rw[Fj]
    by_cases a0:wv.BA[i].Thread<0
    . have:wv.BA[i].Thread<t:=by omega
      simp[a0,this]
    . by_cases a2:wv.BA[i].Thread≥(wv.AA.length:Int)
      . simp[a0,a2]
      . simp only[a0,a2,decide_false,or_false,Bool.false_eq_true,if_false]
        by_cases hz:i=0
        . subst hz
          obtain⟨rfl,rfl⟩:=h5 rfl
          simp only[Int.natCast_zero,beq_self_eq_true,if_true,a0,if_false,Int.lt_irrefl,gt_iff_lt,decide_false,Bool.false_eq_true]
          by_cases a4:wv.BA[0].Stmt=0
          . simp only[a4,bne_self_eq_false,Bool.false_eq_true,if_false,beq_self_eq_true,Bool.true_and]
            rw[ih wv.BA[0].Thread 1 (by omega) ⟨rfl,by simp[a4]⟩ (by omega)]
            split
            . rfl
            . rw[show wv.BA[0].Thread=0 from by omega];rfl
          . simp[a4]
        . have hb:((i:Int)==0)=false:=by simp;omega
          have hgt:gt wv.BA (BE ((i:Int)-1))=some wv.BA[i-1]:=by
           rw[Ct (by omega) (by omega),show(i:Int)-1=((i-1:Nat):Int)from by omega,DG (by omega)]
          obtain⟨e1,e2⟩:=h4 (by omega) (by omega)
          have hs:BE (wv.BA[i-1].Stmt+1)=(nx:Int):=by rw[← e2];exact Ct (by omega) (by omega)
          have hp:decide ((i:Int)>0)=true:=by simp;omega
          simp only[hb,hgt,Option.bind_some,Bool.false_eq_true,if_false,hs,← e1,hp,if_true]
          by_cases a3:t=wv.BA[i].Thread
          . have b1:¬wv.BA[i].Thread<t:=by omega
            have b2:¬wv.BA[i].Thread>t:=by omega
            simp only[a3,bne_self_eq_false,Bool.false_eq_true,if_false,Int.lt_irrefl,gt_iff_lt]
            by_cases a4:wv.BA[i].Stmt=(nx:Int)
            . simp only[a4,bne_self_eq_false,Bool.false_eq_true,if_false,beq_self_eq_true,Bool.true_and]
              rw[ih wv.BA[i].Thread (nx+1) (by omega) ⟨rfl,by omega⟩ (by omega)]
              rfl
            . simp[a4]
          . have hne:(t != wv.BA[i].Thread)=true:=by simpa using a3
            simp only[hne,if_true]
            by_cases a4:wv.BA[i].Stmt=0
            . by_cases a5:wv.BA[i].Thread<t
              . simp[a4,a5]
              . have b2:wv.BA[i].Thread>t:=by omega
                have b3:¬t>wv.BA[i].Thread:=by omega
                simp only[a4,a5,b2,b3,bne_self_eq_false,Bool.false_eq_true,if_false,decide_false,if_true,beq_self_eq_true,Bool.true_and]
                rw[ih wv.BA[i].Thread 1 (by omega) ⟨rfl,by simp[a4]⟩ (by omega)]
                rfl
            . by_cases a5:wv.BA[i].Thread<t
              . simp[a4,a5]
              . have b2:wv.BA[i].Thread>t:=by omega
                simp[a4,a5,b2]
  . rw[Ab (by omega),Ey hi]
    rfl
theorem eN (wv:AB) (hw:Small wv):Bm wv=some (Fj wv.AA.length 0 0 wv.BA):=by
 have:=Mk wv hw Bo 0 0 0 (by omega) (by have:=hw.s;have:=Bx;omega) (by omega)
 rw[List.drop_zero]at this
 exact this
theorem Za (wv:AB) (hw:Small wv):Ah.J5 wv=some (Fj wv.AA.length 0 0 wv.BA):=by
 have:=PA wv hw Bo 0 0 0 (by omega) (by have:=hw.s;have:=Bx;omega) (by omega) (by omega) (by simp) (by omega)
 rw[List.drop_zero]at this
 exact this
def ND (wv:AB) (c:QC):Bool:=Fe c.Mutex wv.AG.length&& !(ix wv.AG c.Mutex).RW
theorem OK (i:Int) (n:Nat):Dg i (n:Int)=some (Fe i n):=by
 unfold Dg Dg.J1 Fe
 simp only[ge_iff_le]
 cases decide (0≤i)<;>rfl
theorem QV (wv:AB) (hw:Small wv):∀(n i:Nat),i≤wv.Au.length->wv.Au.length<n+i->BJ.Ac wv n (i:Int)=if(wv.Au.drop i).all (ND wv)=true then some (Fj wv.AA.length 0 0 wv.BA)else some false
 |0,i,h1,h2=>by omega
 |n+1,i,h1,h2=>by
  have:=hw.d
  unfold BJ.Ac BJ.L1
  by_cases hi:i<wv.Au.length
  . rw[BI (by omega),DG hi,Option.bind_some,EM hi,A0 (by omega),QV wv hw n (i+1) (by omega) (by omega),List.all_cons]
    generalize wv.Au[i]=c
    unfold EG
    rw[OK,Option.bind_some]
    unfold ND EG.J1
    cases h:Fe c.Mutex wv.AG.length with
    |false=>simp
    |true=>
     rw[if_pos rfl,Co h,Option.bind_some,Option.bind_some]
     cases(ix wv.AG c.Mutex).RW<;>simp
  . rw[Ab (by omega),Ey hi]
    unfold BJ.J4
    rw[eN wv hw];rfl
theorem O0 (wv:AB) (hw:Small wv):∀(n i:Nat),i≤wv.Au.length->wv.Au.length<n+i->Ah.Da wv n (i:Int)=if(wv.Au.drop i).all (ND wv)=true then some (Fj wv.AA.length 0 0 wv.BA)else some false
 |0,i,h1,h2=>by omega
 |n+1,i,h1,h2=>by
  have:=hw.d
  unfold Ah.Da Ah.L2
  by_cases hi:i<wv.Au.length
  . unfold Ah.J4
    rw[BI (by omega),DG hi,Option.bind_some,EM hi,A0 (by omega),O0 wv hw n (i+1) (by omega) (by omega),List.all_cons]
    generalize wv.Au[i]=c
    unfold ND
    by_cases a1:c.Mutex<0
    . have:Fe c.Mutex wv.AG.length=false:=by simp[Fe];omega
      simp[a1,this]
    . by_cases a2:c.Mutex≥(wv.AG.length:Int)
      . have:Fe c.Mutex wv.AG.length=false:=by simp[Fe];omega
        simp[a1,a2,this]
      . have h:Fe c.Mutex wv.AG.length=true:=by simp[Fe];omega
        rw[Ab a1,Ab a2,Co h,Option.bind_some,h]
        cases(ix wv.AG c.Mutex).RW<;>simp
  . rw[Ab (by omega),Ey hi]
    exact Za wv hw
def DZ (wv:AB):Bool:=decide (wv.Cells.length≤12)&&decide (wv.AG.length≤4)&&decide (wv.Au.length≤2)&&decide (wv.AH.length≤2)&&decide (1≤wv.AA.length)&&decide (wv.AA.length≤4)&&decide (wv.BA.length≤60)&&
 (match AP wv.Cells with
 |some v=>v.2&&M9 [] (v.1++HV wv)&&wv.Au.all (ND wv)&&Fj wv.AA.length 0 0 wv.BA
 |none=>false)
theorem Rt (wv:AB):BJ wv=some (DZ wv):=by
 unfold BJ BJ.J1
 by_cases a1:wv.Cells.length≤12
 . by_cases a2:wv.AG.length≤4
   . by_cases a3:wv.Au.length≤2
     . by_cases a4:wv.AH.length≤2
       . by_cases a5:wv.BA.length≤60
         . rw[Ab (by omega),Ab (by omega),Ab (by omega),Ab (by omega),if_neg (by simp;omega)]
           unfold BJ.J2
           by_cases a6:1≤wv.AA.length
           . by_cases a7:wv.AA.length≤4
             . have hw:Small wv:=⟨a1,a2,a3,a4,a7,a5⟩
               obtain⟨v,hv,hvl⟩:=IX wv.Cells a1 Bo 0 [] (by omega) (by have:=Bx;omega) (by simp)
               have hv':AP wv.Cells=some v:=hv
               rw[Ab (by omega),if_neg (by simp;omega),hv',Option.bind_some]
               have hs:DZ wv=(v.2&&M9 [] (v.1++HV wv)&&wv.Au.all (ND wv)&&Fj wv.AA.length 0 0 wv.BA):=by
                unfold DZ;rw[hv'];simp[a1,a2,a3,a4,a5,a6,a7]
               rw[hs,dR wv hw v.1 (by omega),Option.bind_some]
               unfold BJ.J3
               have hc:=QV wv hw Bo 0 (by omega) (by have:=Bx;omega)
               rw[List.drop_zero]at hc
               rw[show(0:Int)=((0:Nat):Int)from rfl,hc]
               cases v.2<;>cases M9 [] (v.1++HV wv)<;>cases wv.Au.all (ND wv)<;>simp
             . rw[Ab (by omega),if_pos (by simp;omega)]
               simp[DZ,a7]
           . rw[BI (by omega),if_pos rfl]
             simp[DZ,a6]
         . rw[Ab (by omega),Ab (by omega),Ab (by omega),Ab (by omega),if_pos (by simp;omega)]
           simp[DZ,a5]
       . rw[Ab (by omega),Ab (by omega),Ab (by omega),BI (by omega),if_pos rfl]
         simp[DZ,a4]
     . rw[Ab (by omega),Ab (by omega),BI (by omega),if_pos rfl]
       simp[DZ,a3]
   . rw[Ab (by omega),BI (by omega),if_pos rfl]
     simp[DZ,a2]
 . rw[BI (by omega),if_pos rfl]
   simp[DZ,a1]
theorem Nh (wv:AB):Ah wv=some (DZ wv):=by
 unfold Ah Ah.J1
 by_cases a1:wv.Cells.length≤12
 . by_cases a2:wv.AG.length≤4
   . by_cases a3:wv.Au.length≤2
     . by_cases a4:wv.AH.length≤2
       . by_cases a6:1≤wv.AA.length
         . by_cases a7:wv.AA.length≤4
           . by_cases a5:wv.BA.length≤60
             . have hw:Small wv:=⟨a1,a2,a3,a4,a7,a5⟩
               obtain⟨v,hv,hvl⟩:=IX wv.Cells a1 Bo 0 [] (by omega) (by have:=Bx;omega) (by simp)
               have hv':AP wv.Cells=some v:=hv
               rw[Ab (by omega),Ab (by omega),Ab (by omega),Ab (by omega),Ab (by omega),Ab (by omega),if_neg (by simp;omega)]
               have hs:DZ wv=(v.2&&M9 [] (v.1++HV wv)&&wv.Au.all (ND wv)&&Fj wv.AA.length 0 0 wv.BA):=by
                unfold DZ;rw[hv'];simp[a1,a2,a3,a4,a5,a6,a7]
               have hn:A6 wv=Iq wv v:=by
                have:=Sk wv a1 Bo [] 0
                rw[show(0:Int)=((0:Nat):Int)from rfl,hv]at this
                exact this
               rw[hn,hs]
               unfold Iq
               have hc:=O0 wv hw Bo 0 (by omega) (by have:=Bx;omega)
               rw[List.drop_zero]at hc
               cases hv2:v.2 with
               |false=>simp
               |true=>
                rw[if_pos rfl,JU.J4 wv hw v.1 (by omega),Option.bind_some,if_neg (by simp)]
                have hlen:(v.1++HV wv).length≤1000:=by simp[HV];omega
                have hr:=O9 wv (v.1++HV wv,true) hlen Bo 0 (by omega) (by have:=Bx;simp only;omega)
                rw[List.take_zero,List.drop_zero]at hr
                rw[show(0:Int)=((0:Nat):Int)from rfl,hr]
                unfold Ah.J3
                rw[show(0:Int)=((0:Nat):Int)from rfl,hc]
                cases M9 [] (v.1++HV wv)<;>cases wv.Au.all (ND wv)<;>simp
             . rw[Ab (by omega),Ab (by omega),Ab (by omega),Ab (by omega),Ab (by omega),Ab (by omega),if_pos (by simp;omega)]
               simp[DZ,a5]
           . rw[Ab (by omega),Ab (by omega),Ab (by omega),Ab (by omega),Ab (by omega),BI (by omega),if_pos rfl]
             simp[DZ,a7]
         . rw[Ab (by omega),Ab (by omega),Ab (by omega),Ab (by omega),BI (by omega),if_pos rfl]
           simp[DZ,a6]
       . rw[Ab (by omega),Ab (by omega),Ab (by omega),BI (by omega),if_pos rfl]
         simp[DZ,a4]
     . rw[Ab (by omega),Ab (by omega),BI (by omega),if_pos rfl]
       simp[DZ,a3]
   . rw[Ab (by omega),BI (by omega),if_pos rfl]
     simp[DZ,a2]
 . rw[BI (by omega),if_pos rfl]
   simp[DZ,a1]
theorem Fm {wv:AB} (h:DZ wv=true):Small wv:=by
 unfold DZ at h
 simp only[Bool.and_eq_true,decide_eq_true_eq]at h
 obtain⟨⟨⟨⟨⟨⟨⟨h1,h2⟩,h3⟩,h4⟩,h5⟩,h6⟩,h7⟩,h8⟩:=h
 exact⟨h1,h2,h3,h4,h6,h7⟩
instance:Inhabited QC:=⟨⟨⟨#[]⟩,0⟩⟩
instance:Inhabited DJ:=⟨⟨⟨#[]⟩,0,0,false,0⟩⟩
instance:Inhabited DO:=⟨⟨0,0,0⟩⟩
instance:Inhabited AY:=⟨⟨0,[]⟩⟩
instance:Inhabited AD:=⟨⟨0,0,false⟩⟩
def IA (wv:AB):AO:=⟨List.replicate wv.AG.length ⟨-1,[]⟩, -1,List.replicate wv.AH.length false,(List.replicate wv.AA.length ⟨0,0,false⟩).set 0 ⟨1,0,false⟩⟩
theorem start.L1 (wv:AB) (hw:Small wv) (D:List Bool) (T:List AD) (tx:Int):∀(n i:Nat),i≤wv.AG.length->wv.AG.length<n+i->
 Cq.Ac wv n ⟨List.replicate i ⟨-1,[]⟩++List.replicate (wv.AG.length-i) ⟨0,[]⟩,tx,D,T⟩ (i:Int)=Cq.J1 ⟨List.replicate wv.AG.length ⟨-1,[]⟩,tx,D,T⟩
 |0,i,h1,h2=>by omega
 |n+1,i,h1,h2=>by
  have:=hw.l
  unfold Cq.Ac Cq.L1
  by_cases hi:i<wv.AG.length
  . rw[BI (by simp;omega)]
    have e:List.replicate (wv.AG.length-i) (AY.mk 0 [])=AY.mk 0 []::List.replicate (wv.AG.length-(i+1)) (AY.mk 0 []):=by
     rw[show wv.AG.length-i=(wv.AG.length-(i+1))+1 from by omega,List.replicate_succ]
    have hx:gt (List.replicate i (AY.mk (-1) [])++List.replicate (wv.AG.length-i) (AY.mk 0 [])) (i:Int)=some ⟨0,[]⟩:=by
     rw[JM,e,List.getElem?_append_right (by simp)];simp
    have hset:(List.replicate i (AY.mk (-1) [])++List.replicate (wv.AG.length-i) (AY.mk 0 [])).set i (AY.mk (-1) [])=List.replicate (i+1) (AY.mk (-1) [])++List.replicate (wv.AG.length-(i+1)) (AY.mk 0 []):=by
     rw[e,List.set_append_right _ _ (by simp)]
     simp only[List.length_replicate,Nat.sub_self,List.set_cons_zero]
     rw[List.replicate_succ'];simp
    simp only[hx,Option.bind_some,Int.toNat_natCast,hset]
    rw[A0 (by omega)]
    exact start.L1 wv hw D T tx n (i+1) (by omega) (by omega)
  . rw[Ab (by simp;omega)]
    have:i=wv.AG.length:=by omega
    subst this;simp
theorem PR (wv:AB) (hw:Small wv):Cq wv=some (IA wv):=by
 have h1:=hw.l;have h2:=hw.f;have h3:=hw.t;have hb:=Bx
 unfold Cq
 rw[if_pos ⟨by omega,by omega,Ba (by omega)⟩,if_pos ⟨by omega,by omega,Ba (by omega)⟩,if_pos ⟨by omega,by omega,Ba (by omega)⟩]
 have:=start.L1 wv hw (List.replicate wv.AH.length false) (List.replicate wv.AA.length (AD.mk 0 0 false)) (-1) Bo 0 (by omega) (by omega)
 simp only[List.replicate_zero,List.nil_append,Nat.sub_zero,Int.natCast_zero]at this
 rw[this]
 unfold Cq.J1 Cq.J2 IA
 simp only[List.length_replicate]
 by_cases h:wv.AA.length=0
 . simp[h]
 . have h':0<wv.AA.length:=by omega
   rw[BI (by omega)]
   have:gt (List.replicate wv.AA.length (AD.mk 0 0 false)) 0=some ⟨0,0,false⟩:=by
    show gt _ ((0:Nat):Int)=_
    rw[JM];simp[h']
   rw[this];rfl
theorem Kp.L3 (wv:AB) (hw:Small wv) (L:List AY) (D:List Bool) (tx:Int):∀(n i:Nat),i≤wv.AA.length->wv.AA.length<n+i->
 Bj.Gx wv n ⟨L,tx,D,(List.replicate i ⟨0,0,false⟩).set 0 ⟨1,0,false⟩⟩ (i:Int)=some ⟨L,tx,D,(List.replicate wv.AA.length ⟨0,0,false⟩).set 0 ⟨1,0,false⟩⟩
 |0,i,h1,h2=>by omega
 |n+1,i,h1,h2=>by
  have:=hw.t
  unfold Bj.Gx Bj.L3
  by_cases hi:i<wv.AA.length
  . unfold Bj.J3
    rw[BI (by omega)]
    simp only[List.length_set,List.length_replicate]
    rw[BT (by omega),BT (by omega),A0 (by omega)]
    have e:∀x,(if((i:Int)==0)=true then Bj.Gx wv n ⟨L,tx,D,(List.replicate i ⟨0,0,false⟩).set 0 ⟨1,0,false⟩++[⟨1,0,false⟩]⟩ x else Bj.Gx wv n ⟨L,tx,D,(List.replicate i ⟨0,0,false⟩).set 0 ⟨1,0,false⟩++[⟨0,0,false⟩]⟩ x)=Bj.Gx wv n ⟨L,tx,D,(List.replicate (i+1) ⟨0,0,false⟩).set 0 ⟨1,0,false⟩⟩ x:=by
     intro x
     cases i with
     |zero=>rfl
     |succ i=>
      rw[if_neg (by simp;omega),List.replicate_succ' (n:=i+1),List.set_append_left _ _ (by simp)]
    rw[e]
    exact Kp.L3 wv hw L D tx n (i+1) (by omega) (by omega)
  . rw[Ab (by omega)]
    have:i=wv.AA.length:=by omega
    subst this;rfl
theorem Kp.L2 (wv:AB) (hw:Small wv) (L:List AY) (tx:Int):∀(n i:Nat),i≤wv.AH.length->wv.AH.length<n+i->
 Bj.Da wv n ⟨L,tx,List.replicate i false,[]⟩ (i:Int)=some ⟨L,tx,List.replicate wv.AH.length false,(List.replicate wv.AA.length ⟨0,0,false⟩).set 0 ⟨1,0,false⟩⟩
 |0,i,h1,h2=>by omega
 |n+1,i,h1,h2=>by
  have:=hw.f
  unfold Bj.Da Bj.L2
  by_cases hi:i<wv.AH.length
  . rw[BI (by omega)]
    simp only[List.length_replicate]
    rw[BT (by omega),A0 (by omega),← List.replicate_succ']
    exact Kp.L2 wv hw L tx n (i+1) (by omega) (by omega)
  . rw[Ab (by omega)]
    have:i=wv.AH.length:=by omega
    subst this
    unfold Bj.J2
    exact Kp.L3 wv hw L _ tx Bo 0 (by omega) (by have:=hw.t;have:=Bx;omega)
theorem Kp.L1 (wv:AB) (hw:Small wv):∀(n i:Nat),i≤wv.AG.length->wv.AG.length<n+i->
 Bj.Ac wv n ⟨List.replicate i ⟨-1,[]⟩, -1,[],[]⟩ (i:Int)=some (IA wv)
 |0,i,h1,h2=>by omega
 |n+1,i,h1,h2=>by
  have:=hw.l
  unfold Bj.Ac Bj.L1
  by_cases hi:i<wv.AG.length
  . rw[BI (by omega)]
    simp only[List.length_replicate]
    rw[BT (by omega),A0 (by omega),← List.replicate_succ']
    exact Kp.L1 wv hw n (i+1) (by omega) (by omega)
  . rw[Ab (by omega)]
    have:i=wv.AG.length:=by omega
    subst this
    unfold Bj.J1
    exact Kp.L2 wv hw _ (-1) Bo 0 (by omega) (by have:=hw.f;have:=Bx;omega)
theorem O4 (wv:AB) (hw:Small wv):Bj wv=some (IA wv):=Kp.L1 wv hw Bo 0 (by omega) (by have:=hw.l;have:=Bx;omega)
def Kt (wv:AB):AM:=⟨IA wv,wv.Cells.map (·.Init),List.replicate wv.AH.length 0,List.replicate wv.AA.length 0⟩
theorem fC.L1 (wv:AB) (hw:Small wv) (S:AO) (F C:List Int):∀(n i:Nat),i≤wv.Cells.length->wv.Cells.length<n+i->
 CT.Ac wv n ⟨S,(wv.Cells.take i).map (·.Init),F,C⟩ (i:Int)=some ⟨S,wv.Cells.map (·.Init),F,C⟩
 |0,i,h1,h2=>by omega
 |n+1,i,h1,h2=>by
  have:=hw.c
  unfold CT.Ac CT.L1
  by_cases hi:i<wv.Cells.length
  . rw[BI (by omega),DG hi,Option.bind_some]
    simp only
    rw[BT (by simp;omega),A0 (by omega)]
    have e:(wv.Cells.take i).map (·.Init)++[wv.Cells[i].Init]=(wv.Cells.take (i+1)).map (·.Init):=by rw[← List.take_append_getElem hi,List.map_append];rfl
    rw[e]
    exact fC.L1 wv hw S F C n (i+1) (by omega) (by omega)
  . rw[Ab (by omega),List.take_of_length_le (by omega)];rfl
theorem Lk (wv:AB) (hw:Small wv):CT wv=some (Kt wv):=by
 have h1:=hw.c;have h2:=hw.f;have h3:=hw.t;have hb:=Bx
 unfold CT
 rw[PR wv hw,Option.bind_some,if_pos ⟨by omega,by omega,Ba (by omega)⟩,if_pos ⟨by omega,by omega,Ba (by omega)⟩,if_pos ⟨by omega,by omega,Ba (by omega)⟩]
 exact fC.L1 wv hw (IA wv) _ _ Bo 0 (by omega) (by omega)
end Go.Abs
namespace Go.Abs
set_option maxHeartbeats 4000000
theorem take_one {α:Type} {l:List α} {i:Nat} (h:i<l.length) {P:α->Prop} (h1:∀x∈l.take i,P x) (h2:P l[i]):∀x∈l.take (i+1),P x:=by
 intro x hx
 rw[← List.take_append_getElem h]at hx
 rcases List.mem_append.1 hx with hx|hx
 . exact h1 x hx
 . rw[List.mem_singleton.1 hx];exact h2
theorem Rh {α:Type} {l:List α} {i:Nat} (h:l.length≤i) {P:α->Prop} (h1:∀x∈l.take i,P x):∀x∈l,P x:=by rwa [List.take_of_length_le h]at h1
theorem Fl {α:Type} {l:List α} {i:Int} (h:0≤i/\i<l.length):∃x,gt l i=some x/\l[i.toNat]? =some x/\x∈l:=by
 have:i.toNat<l.length:=by omega
 exact⟨l[i.toNat],by simp[gt,h.1,this],by simp[this],List.getElem_mem this⟩
theorem Ir (i n:Int):B2 (Cs i n) λb=>b=true->0≤i/\i<n:=by
 unfold Cs Cs.J1
 exact tD (λh=>tR λh2=>⟨h,of_decide_eq_true h2⟩) λ_=>tR λh=>by cases h
def MH (w:AB) (b n:Int):Prop:=∃x,gt w.Cells b=some x/\x.Index=0/\x.Bn≠0/\x.Bn=n
theorem Sh (w:AB) (b n:Int):B2 (EI w b n) λr=>r=true->MH w b n:=by
 have N:∀{α:Prop},B2 (some false) λb:Bool=>b=true->α:=tR λh=>by cases h
 unfold EI EI.J1
 refine tB (Ir _ _) λv hv=>tI (λh=> ?_) λ_=>N
 obtain⟨x,hx,_⟩:=Fl (hv h)
 exact tE hx (tI (λh1=>tI (λh2=>tR λh3=>⟨x,hx,eq_of_beq h1,by simpa using h2,eq_of_beq h3⟩) λ_=>N) λ_=>N)
theorem VQ (w:AB) (i:AW):B2 (Ad w i) λb=>b=true->(i.Op=7->MH w i.B i.N)/\(i.Op=9->MH w i.A i.N):=by
 have j8:∀b,TT (Ad.J8 i w b):=by
  intro b;unfold Ad.J8 Ad.J9 Ad.Oj
  repeat' first|exact tR trivial|refine tB (Ir _ _) λ_ _=> ?_|refine tI (λ_=> ?_) λ_=> ?_
 have j7:∀b,TT (Ad.J7 i w b):=by
  intro b;unfold Ad.J7
  repeat' first|exact tR trivial|exact j8 _|refine tB (Ir _ _) λ_ _=> ?_|refine tI (λ_=> ?_) λ_=> ?_
 have j5:∀b,TT (Ad.J5 i w b):=by
  intro b;unfold Ad.J5 Ad.J6
  refine tI (λ_=>tB (Ir _ _) λv hv=>tI (λh=>tG (hv h) λx _=>tR trivial) λ_=>tR trivial) λ_=> ?_
  repeat' first|exact j7 _|refine tI (λ_=> ?_) λ_=> ?_
 have j3:∀b,TT (Ad.J3 i w b):=by
  intro b;unfold Ad.J3 Ad.J4
  refine tI (λ_=>tB (Ir _ _) λv hv=>tI (λh=>tG (hv h) λx _=>tR trivial) λ_=>tR trivial) λ_=> ?_
  repeat' first|exact j5 _|refine tI (λ_=> ?_) λ_=> ?_
 unfold Ad Ad.J1 Ad.J2
 have M:∀{o:Option Bool},TT o->i.Op≠7->i.Op≠9->B2 o λb=>b=true->(i.Op=7->MH w i.B i.N)/\(i.Op=9->MH w i.A i.N):=λh h7 h9=>tM h λ_ _ _=>⟨λh=>absurd h h7,λh=>absurd h h9⟩
 refine tI (λh=>M (tB (Ir _ _) λv hv=>tI (λh=>tG (hv h) λx _=>tR trivial) λ_=>tR trivial) ?_ ?_) λn6=>tI (λh=>M (tB (Ir _ _) λv hv=>tI (λh=>tG (hv h) λx _=>tR trivial) λ_=>tR trivial) ?_ ?_) λn8=> ?_
 . rw[eq_of_beq h];decide
 . rw[eq_of_beq h];decide
 . rw[eq_of_beq h];decide
 . rw[eq_of_beq h];decide
 . refine tI (λh=>tB (Sh _ _ _) λv hv=>tR λh1=>⟨λ_=>hv h1,λh2=> ?_⟩) λn7=>tI (λh=>tB (Sh _ _ _) λv hv=>tR λh1=>⟨λh2=> ?_,λ_=>hv h1⟩) λn9=> ?_
   . rw[eq_of_beq h]at h2;cases h2
   . rw[eq_of_beq h]at h2;cases h2
   . exact M (tI (λ_=>j3 _) λ_=>j3 _) (by simpa using n7) (by simpa using n9)
def Vw (o:Int):Bool:=decide (1≤o)&&decide (o≤5)
theorem P5 (o:Int):ED o=some (Vw o):=by
 unfold ED ED.J1 Vw
 by_cases h:o≥1<;>simp[h]
theorem ZE {l:List AW} (hl:l.length≤8000000) (a:Int):TT (Ca l a):=by
 unfold Ca
 refine My (l.length+1) (λ_ _=>True) (F:=λn s i=>Ca.Ac l n s i) (by omega) trivial λn i s hi _ k=> ?_
 unfold Ca.Ac Ca.L1 Ca.J1 Ca.J2 Ca.J3
 refine tD (λ_=>tD (λ_=>tR trivial) λ_=>tD (λ_=>tR trivial) λ_=>tG (by omega) λx _=>tE (P5 _) ?_) λ_=>tR trivial
 exact tI (λ_=>tR trivial) λ_=>tI (λ_=>k _ (by omega) trivial) λ_=>k _ (by omega) trivial
def TP (w:AB) (t:Int) (x:AW):Prop:=if x.Op=28 then x.Site= -1 else∃y,gt w.BA x.Site=some y/\y.Thread=t
structure VI (w:AB) (t R:Int) (x:AW):Prop where
 o:1≤x.Op/\x.Op≤28
 g:∀y∈rg x,0≤y/\y<R
 s:TP w t x
 a:(x.Op=7->MH w x.B x.N)/\(x.Op=9->MH w x.A x.N)
structure VT (w:AB) (t:Int) (c:Ak):Prop where
 r:0≤c.CN/\c.CN≤32
 i:∀x∈c.B3,VI w t c.CN x
theorem Pq (w:AB) (t:Int) {c:Ak} (hc:c.B3.length≤8000000):B2 (AU w t c) λb=>b=true->VT w t c:=by
 have N:∀{α:Prop},B2 (some false) λb:Bool=>b=true->α:=tR λh=>by cases h
 have j1:∀b,(b=false->0≤c.CN/\c.CN≤32)->B2 (AU.J1 c t w b) λb=>b=true->VT w t c:=by
  intro b hb;unfold AU.J1
  refine tI (λ_=>N) λh0=>My c.B3.length (λi (_:Unit)=>∀x∈c.B3.take i,VI w t c.CN x) (s0:=()) (F:=λn _ i=>AU.Ac c t w n i) (by omega) (by simp) λn i _ hi hs k=> ?_
  unfold AU.Ac AU.L1 AU.J6
  refine tD (λhlt=>XS (by omega) ?_) λhge=>tR λ_=>⟨hb h0,Rh (by omega) hs⟩
  have hlt:i<c.B3.length:=by omega
  generalize hx:c.B3[i]=x
  have j4:∀b,(b=false->(1≤x.Op/\x.Op≤28)/\TP w t x/\(x.Op=7->MH w x.B x.N)/\(x.Op=9->MH w x.A x.N))->B2 (AU.J4 (AU.Ac c t w n) c i x b) λb=>b=true->VT w t c:=by
   intro b ho;unfold AU.J4
   refine tI (λ_=>N) λh1=>tE (F8 x).1 (My (rg x).length (λi (_:Unit)=>∀y∈(rg x).take i,0≤y/\y<c.CN) (s0:=()) (F:=λn _ i=>AU.Da _ c _ (rg x) n i) (by have:=(F8 x).2;omega) (by simp) λm j _ hj hs2 k2=> ?_)
   unfold AU.Da AU.L2 AU.J5
   refine tD (λ_=>XS (by omega) (tB (Ir _ _) λv hv=>tI (λ_=>N) λh=>k2 () (by omega) (take_one (by omega) hs2 (hv (by simpa using h))))) λ_=>k () hlt (take_one hlt hs (by rw[hx];exact⟨(ho h1).1,Rh (by omega) hs2,(ho h1).2.1,(ho h1).2.2⟩))
  have j3:∀b,(b=false->(1≤x.Op/\x.Op≤28)/\TP w t x/\(x.Op=7->MH w x.B x.N)/\(x.Op=9->MH w x.A x.N))->B2 (AU.J3 (AU.Ac c t w n) c i x b) λb=>b=true->VT w t c:=by
   intro b ho;unfold AU.J3
   refine tI (λ_=>N) λh1=> ?_
   repeat' first|exact j4 _ λ_=>ho h1|refine tB (Ir _ _) λ_ _=> ?_|refine tI (λ_=> ?_) λ_=> ?_
  have j2:∀b,(b=false->(1≤x.Op/\x.Op≤28)/\(x.Op=7->MH w x.B x.N)/\(x.Op=9->MH w x.A x.N))->B2 (AU.J2 (AU.Ac c t w n) c i t w x b) λb=>b=true->VT w t c:=by
   intro b ho;unfold AU.J2
   refine tI (λ_=>N) λh1=> ?_
   obtain⟨o1,o2⟩:=ho h1
   have T:∀b,b=true->B2 (AU.J3 (AU.Ac c t w n) c i x b) λb=>b=true->VT w t c:=λb hb=>j3 b λh=>by rw[hb]at h;cases h
   refine tI (λh28=>tI (λ_=>T _ rfl) λhs28=>tI (λh=>by rw[eq_of_beq h28]at h;cases h) λ_=>j3 _ λ_=>⟨o1,?_,o2⟩) λh28=>tI (λ_=> ?_) λh=>by simp at h h28;omega
   . unfold TP;rw[if_pos (eq_of_beq h28)];simpa using hs28
   . refine tB (Ir _ _) λv hv=>tI (λ_=>T _ rfl) λh=> ?_
     obtain⟨y,hy,_⟩:=Fl (hv (by simpa using h))
     refine tE hy (j3 _ λht=>⟨o1,?_,o2⟩)
     unfold TP
     rw[if_neg (by simpa using h28)]
     exact⟨y,hy,by simpa using ht⟩
  refine tD (λ_=>j2 _ λh=>by cases h) λ_=>tD (λ_=>j2 _ λh=>by cases h) λ_=> ?_
  have ho:1≤x.Op/\x.Op≤28:=by omega
  exact tI (λ_=>j2 _ λh=>by cases h) λ_=>tB (VQ _ _) λv hv=>tI (λ_=>j2 _ λh=>by cases h) λh=>GN (ZE hc _) λ_=>j2 _ λ_=>⟨ho,hv (by simpa using h)⟩
 unfold AU
 exact tD (λ_=>j1 _ λh=>by cases h) λ_=>tD (λ_=>j1 _ λh=>by cases h) λ_=>j1 _ λ_=>by omega
structure VC (c:BB):Prop where
 w:DZ c.World=true
 n:c.AA.length=c.World.AA.length
 t:∀(i:Nat) t,c.AA[i]? =some t->VT c.World i t
theorem OJ {c:BB} (hc:CK c):B2 (CH c) λb=>b=true->VC c:=by
 have N:∀{α:Prop},B2 (some false) λb:Bool=>b=true->α:=tR λh=>by cases h
 have hn:=hc.n
 have j1:∀b,(b=false->DZ c.World=true/\c.AA.length=c.World.AA.length)->B2 (CH.J1 c b) λb=>b=true->VC c:=by
  intro b hb;unfold CH.J1
  refine tI (λ_=>N) λh0=>My c.AA.length (λi (_:Unit)=>∀(j:Nat) x,j<i->c.AA[j]? =some x->VT c.World j x) (s0:=()) (F:=λn _ i=>CH.Ac c n i) (by omega) (λj _ h=>by omega) λn i _ hi hs k=> ?_
  unfold CH.Ac CH.L1 CH.J2
  refine tD (λhlt=>XS (by omega) (tB (Pq _ _ (hc.i _ (List.getElem_mem (by omega)))) λv hv=>tI (λ_=>N) λh=>k () (by omega) ?_)) λ_=>tR λ_=>⟨(hb h0).1,(hb h0).2,λj x hx=>hs j x ?_ hx⟩
  . intro j x hj hx
    by_cases e:j<i
    . exact hs j x e hx
    . obtain rfl:j=i:=by omega
      rw[List.getElem?_eq_getElem (by omega)]at hx
      rw[← Option.some.inj hx]
      exact hv (by simpa using h)
  . have:=(List.getElem?_eq_some_iff.1 hx).1;omega
 unfold CH
 refine tE (Nh _) (tI (λ_=>j1 _ λh=>by cases h) λh=>j1 _ λh2=>⟨by simpa using h,?_⟩)
 have:=of_decide_eq_true (by simpa using h2:decide ((c.AA.length:Int)=(c.World.AA.length:Int))=true)
 omega
end Go.Abs
