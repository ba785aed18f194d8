/- What the typed programs give, in plain Lean. -/
import Derived.Test.YtdojkofgkcmagaaGreatDoorWalkM
import Derived.Lib.SlicesCompact
import Derived.Shelf.Slices.SearchI
set_option linter.all false
namespace Go.Abs
def CY{n:Int}(h: -9223372036854775808<=n)(a:n<9223372036854775808):A9 n=n:=by simp only[A9,IntKind.wrap,IntKind.bits,IntKind.signed];simp;omega
variable{i:Nat}
theorem AW(h:i<9223372036854775807):A9 ((i:Int)+1)=((i+1:Nat):Int):=by rw[CY ah ah];rfl
variable{a:Type}
theorem Kw(l:List a)(i:Nat):gt l (i:Int)=l[i]? :=by simp[gt]
theorem Be{l:List a}(h:i<l.length):gt l (i:Int)=some l[i]:=by rw[Kw];simp[h]
def B4(i:Int)(n:Nat):Bool:=decide (0<=i)&&decide (i<(n:Int))
def br{p:Prop}(h:p:=by simp[B4];omega):p:=h
def ix[Inhabited a](l:List a)(i:Int):a:=(l[i.toNat]?).getD default
variable{n:Nat}
theorem As{i:Int}:B4 i n=true↔0<=i/\i<n:=by simp[B4]
theorem Bv[Inhabited a]{l:List a}{i:Int}(h:B4 i l.length):gt l i=some (ix l i):=by obtain⟨b,c⟩:=As.1 h;have:i.toNat<l.length:=ah;simp[gt,ix,b,this]
theorem CH[Inhabited a]{l:List a}(h:i<l.length):ix l (i:Int)=l[i]:=by simp[ix,h]
theorem Cd{b:Nat}(h:n*b<=70368744177664):Aq n b:=by simp[Aq,h]
def Bg{x y:a}(h:n*i<=70368744177664):(if Aq n i=true then x else y)=x:=AAQ (Cd h)
theorem Ay{p:Prop}[Decidable p]{x y:a}(h:p):(if decide p=true then x else y)=x:=by rw[AAQ (by simpa using h)]
theorem AR{p:Prop}[Decidable p]{x y:a}(h:¬p):(if decide p=true then x else y)=y:=by rw[AAP (by simpa using h)]
def DQ{l:List a}(h:i<l.length):l.drop i=l[i]::l.drop (i+1):=ABH h
theorem EW{l:List a}(h:¬i<l.length):l.drop i=[]:=List.drop_eq_nil_of_le ah
theorem BN:BQ=18446744073709551616:=rfl
def aS{p:Prop}(h:p:=by have:=BN;omega):p:=h
variable{P:Int->Prop}
theorem kinds(N:P 1)(O:P 2)(Q:P 3)(R:P 4)(S:P 5)(T:P 6)(U:P 7)(V:P 8)(W:P 9)(m:P 10)(n:P 11)(o:P 12)(p:P 13)(q:P 14)(r:P 15)(s:P 16)(t:P 17)(u:P 18)(v:P 19)(w:P 20)(x:P 21)(y:P 22)(z:P 23)(X:∀k,k≠1->k≠2->k≠3->k≠4->k≠5->k≠6->k≠7->k≠8->k≠9->k≠10->k≠11->k≠12->k≠13->k≠14->k≠15->k≠16->k≠17->k≠18->k≠19->k≠20->k≠21->k≠22->k≠23->P k)(k:Int):P k:=by by_cases B:k=1;exact B▸N;by_cases C:k=2;exact C▸O;by_cases D:k=3;exact D▸Q;by_cases E:k=4;exact E▸R;by_cases F:k=5;exact F▸S;by_cases G:k=6;exact G▸T;by_cases H:k=7;exact H▸U;by_cases I:k=8;exact I▸V;by_cases J:k=9;exact J▸W;by_cases a:k=10;exact a▸m;by_cases b:k=11;exact b▸n;by_cases L:k=12;exact L▸o;by_cases c:k=13;exact c▸p;by_cases d:k=14;exact d▸q;by_cases e:k=15;exact e▸r;by_cases M:k=16;exact M▸s;by_cases f:k=17;exact f▸t;by_cases g:k=18;exact g▸u;by_cases h:k=19;exact h▸v;by_cases K:k=20;exact K▸w;by_cases i:k=21;exact i▸x;by_cases j:k=22;exact j▸y;by_cases l:k=23;exact l▸z;exact X k B C D E F G H I J a b L c d e M f g h K i j l
variable{b:Type}{u:Bool}
section
set_option maxHeartbeats 4000000
def CX(o:ABm a)(Q:a->Prop):Prop:=∃r,o=some r/\Q r
def tR{r:a}{Q:a->Prop}(h:Q r):CX (some r) Q:=⟨r,rfl,h⟩
theorem tB{o:ABm a}{Q:a->Prop}{f:a->ABm b}{R:b->Prop}(h:CX o Q)(k:∀x,Q x->CX (f x) R):CX (o.bind f) R:=by obtain⟨x,rfl,c⟩:=h;exact k x c
theorem tI{d b:ABm a}{R:a->Prop}(e:u=true->CX d R)(f:u=false->CX b R):CX (if u=true then d else b) R:=by cases u with|true=>simpa using e rfl|false=>simpa using f rfl
theorem tM{o:ABm a}{Q R:a->Prop}(h:CX o Q)(k:∀x,Q x->R x):CX o R:=by obtain⟨x,e,b⟩:=h;exact⟨x,e,k x b⟩
structure FG (t:AZ):Prop where
 l:t.L.length<=4000000000000000000
 a:0<=t.At/\t.At<=t.L.length
 u:∀x∈t.L,0<=x/\x<256
def qS:ABn:=⟨#[113]⟩
def vN:List ABn:=[⟨#[97]⟩,⟨#[98]⟩,⟨#[120]⟩,⟨#[121]⟩,⟨#[118]⟩]
def bY:Nat->BU->Prop|0,_=>False|n+1,e=>e.Op=1/\e.L=[]\/(e.Op=2/\e.L=[]/\e.dq∈vN)\/(e.Op=3/\e.dq=qS/\∃a,e.L=[a]/\bY n a)\/(e.Op∈[(6:Int),7,8,11,13,17]/\∃a b,e.L=[a,b]/\bY n a/\bY n b)
end
variable{l W:iT}
theorem iE(d:l.Pairwise (· < ·))(f:W.Pairwise (· < ·))(h:∀x,x∈l↔x∈W):l=W:=by induction l generalizing W with|nil=>(cases W with|nil=>rfl|cons y W=>have:=(h y).2 ak;grind)|cons x l ih=>cases W with|nil=>grind|cons y W=>(rw[List.pairwise_cons]at d f;have g:x=y:=by(have c:=(h x).1 ak;have i:=(h y).2 ak;rcases AAk.1 c with e|c);exact e;grind);grind
theorem TK(d:Array Int)(hd:∀i j,i<=j->j<d.size->d[i]! <=d[j]!):∀m,m<=d.size->(∀x,x∈Lib.compactUpTo d m↔∃i,i<m/\d[i]! =x)/\(Lib.compactUpTo d m).Pairwise (· < ·):=by intro m;induction m with|zero=>intro _;exact⟨λx=>by simp[Lib.compactUpTo],by simp[Lib.compactUpTo]⟩|succ m ih=>intro n;obtain⟨g,b⟩:=ih ah;rw[Lib.compactUpTo_succ];by_cases a:Lib.keeps d m=true;rw[AAQ a];refine⟨λx=>?_,?_⟩;grind;rw[List.pairwise_append];refine⟨b,ak,λx h y c=>?_⟩;rw[AAg]at c;subst c;obtain⟨i,hi,e⟩:=(g x).1 h;have f:m=0\/d[m]! ≠d[m-1]! :=(by simpa[Lib.keeps]using a);have k:=hd i (m-1) ah ah;have l:=hd (m-1) m ah ah;omega;rw[AAP a,ABU];refine⟨λx=>?_,b⟩;have f:¬(m=0\/d[m]! ≠d[m-1]!):=(by simpa[Lib.keeps]using a);grind
def Sr(l:iT):List Int:=l.mergeSort λx y=>decide (x<=y)
def Ol(l:iT):List Int:=Lib.compact (Sr l)
theorem Uz(l:iT):(Sr l).length=l.length:=by simp[Sr]
theorem mem_msort(l:iT)(x:Int):x∈Sr l↔x∈l:=by simp[Sr]
theorem U3(l:iT):(Sr l).Pairwise (· <= ·):=by have:=List.pairwise_mergeSort (le:=λx y:Int=>decide (x<=y)) an an l;simpa[Sr]using this
theorem Sl(l:iT)(h:l.Pairwise (· <= ·)):(∀x,x∈Lib.compact l↔x∈l)/\(Lib.compact l).Pairwise (· < ·):=by
 have hd:∀i j,i<=j->j<l.toArray.size->l.toArray[i]! <=l.toArray[j]! :=by
  intro i j b d;have f:j<l.length:=by simpa using d
  rcases Nat.lt_or_eq_of_le b with a|rfl
  have:=List.pairwise_iff_getElem.1 h i j ah f a;grind;omega
 obtain⟨a,c⟩:=TK l.toArray hd l.length ak;refine⟨λx=>?_,c⟩;show x∈Lib.compactUpTo l.toArray l.length↔_;rw[a x,List.mem_iff_getElem];constructor;grind;rintro⟨i,hi,e⟩;exact⟨i,hi,am⟩
theorem sO(l:iT):(Lib.compact l).length<=l.length:=by unfold Lib.compact Lib.compactUpTo;grind
theorem Kp(l:iT)(x:Int):x∈Ol l↔x∈l:=by unfold Ol;rw[(Sl _ (U3 l)).1,mem_msort]
def NM(l:iT):(Ol l).Pairwise (· < ·):=(Sl _ (U3 l)).2
theorem Vj(l:iT):(Ol l).length<=l.length:=by have:=sO (Sr l);rw[Uz]at this;exact this
def IJ(out:iT)(x:Int):Nat:=(out.takeWhile λy=>decide (y<x)).length
def ins(out:iT)(x:Int):List Int:=if out[IJ out x]? =some x then out else out.take (IJ out x)++x::out.drop (IJ out x)
theorem fE(out:iT)(x:Int)(i:Nat)(hi:i<=out.length)(a:∀(k:Nat)(b:k<out.length),k<i->out[k]<x)(e:∀(d:i<out.length),¬out[i]<x):IJ out x=i:=by unfold IJ;induction out generalizing i with|nil=>simp_all|cons y out ih=>by_cases f:y<x;(cases i with|zero=>simp_all|succ i=>rw[List.takeWhile_cons_of_pos am,ABJ];rw[ih i am (λk b c=>aA) (λd=>am)]);cases i with|zero=>simp_all|succ i=>have:=a 0 ak ah;grind
theorem ZN(out:iT)(x:Int):(ins out x).length<=out.length+1:=by unfold ins;grind
def insAll(l:iT):List Int:=l.foldl ins []
theorem ins_facts(out:iT)(x:Int)(h:out.Pairwise (· < ·)):(ins out x).Pairwise (· < ·)/\∀z,z∈ins out x↔z∈out\/z=x:=by
 have key:∀(out:iT),out.Pairwise (· < ·)->(∀(k:Nat)(a:k<out.length),k<IJ out x->out[k]<x)/\(∀(k:Nat)(a:k<out.length),IJ out x<=k->x<=out[k])/\IJ out x<=out.length:=by intro out;induction out with|nil=>intro _;simp[IJ]|cons y out ih=>intro b;rw[List.pairwise_cons]at b;obtain⟨f,g2,g⟩:=ih b.2;by_cases c:y<x;have e:IJ (y::out) x=IJ out x+1:=(by unfold IJ;rw[List.takeWhile_cons_of_pos (by simp_all)];rfl);grind;have e:IJ (y::out) x=0:=(by unfold IJ;rw[List.takeWhile_cons_of_neg (by simp_all)];rfl);rw[e];refine⟨λk a j=>ah,λk a _=>?_,ak⟩;cases k with|zero=>simp;omega|succ k=>(have i:k<out.length:=by simpa using a);have:=b.1 out[k] (AAW i);simp;omega
 obtain⟨f,g2,g⟩:=key out h;unfold ins;split;grind;(. rename_i p;have l:out=out.take (IJ out x)++out.drop (IJ out x):=(ABY _ _).symm;refine⟨?_,λz=>?_⟩;rw[List.pairwise_append,List.pairwise_cons];refine⟨h.sublist (List.take_sublist _ _),⟨λz d=>?_,h.sublist (List.drop_sublist _ _)⟩,λy c z d=>?_⟩;obtain⟨k,a,rfl⟩:=List.mem_iff_getElem.1 d;rw[List.getElem_drop];rw[List.length_drop]at a;have m:=g2 (IJ out x+k) ah ah;by_cases q:k=0;grind;have n:=g2 (IJ out x) ah ah;have o:=List.pairwise_iff_getElem.1 h (IJ out x) (IJ out x+k) ah ah ah;omega;obtain⟨k,a,rfl⟩:=List.mem_iff_getElem.1 c;grind;(. rw[AAc,AAk];constructor;all_goals grind))
theorem insAll_eq(l:iT):insAll l=Ol l:=by
 have key:∀(l a:iT),a.Pairwise (· < ·)->(l.foldl ins a).Pairwise (· < ·)/\∀z,z∈l.foldl ins a↔z∈a\/z∈l:=by intro l;induction l with|nil=>simp_all|cons x l ih=>intro a h;obtain⟨b,c⟩:=ins_facts a x h;grind
 obtain⟨b,c⟩:=key l [] ak;exact iE b (NM l) λz=>by rw[Kp];have:=c z;simpa[insAll]using this
def Jw(c:Int):Bool:=(decide (97<=c)&&decide (c<=122))||(decide (65<=c)&&decide (c<=90))
def PJ(c:Int):Bool:=Jw c||((decide (48<=c)&&decide (c<=57))||c==95)
def Ky(s:ABn)(i:Nat):Int:=((s.get! i).toNat:Int)
def Qf(s:ABn)(i:Nat):Bool:=Jw (Ky s i)||(decide (0<i)&&((decide (48<=Ky s i)&&decide (Ky s i<=57))||Ky s i==95))
theorem gW(s:ABn)(i:Nat)(h:(s.get! i).toNat<128):Utf8.decode s i=((s.get! i).toNat,1):=by unfold Utf8.decode;simp[h]
theorem sQ(s:ABn)(i:Nat)(h:¬(s.get! i).toNat<128):128<=(Utf8.decode s i).1:=by unfold Utf8.decode;simp only[Nat.add_zero,h,AAd];have a:128<=Utf8.runeError:=bk;grind
def xB(c:Int)(pos:Nat):Bool:=Jw c||(decide (0<pos)&&((decide (48<=c)&&decide (c<=57))||c==95))
theorem Vq(s:ABn)(L:Nat->ABm Bool)(pos:Nat)(a:pos<s.size):C0.L1 s L pos=if xB ((Utf8.decode s pos).1:Int) pos=true then L (pos+(Utf8.decode s pos).2)else some false:=by unfold C0.L1;rw[Ay a];unfold C0.J2 C0.J3 xB Jw;grind
theorem Nk(s:ABn):∀(n pos:Nat),pos<=s.size->s.size<n+pos->C0.AU s n pos=some ((List.range' pos (s.size-pos)).all (Qf s))|0,pos,h1,h2=>ah|n+1,pos,h1,h2=>by unfold C0.AU;by_cases c:pos<s.size;rw[Vq s _ pos c];have d:List.range' pos (s.size-pos)=pos::List.range' (pos+1) (s.size-(pos+1)):=(by rw[show s.size-pos=(s.size-(pos+1))+1 from by omega,List.range'_succ]);rw[d,AA8];by_cases a:(s.get! pos).toNat<128;rw[gW s pos a,Nk s n (pos+1) ah ah];show(if Qf s pos=true then _ else _)=_;grind;have b:=sQ s pos a;have f:Qf s pos=false:=(by unfold Qf Jw Ky;simp;omega);have e:xB ((Utf8.decode s pos).1:Int) pos=false:=(by unfold xB Jw;simp;omega);simp_all;unfold C0.L1;rw[AR c];have:s.size-pos=0:=ah;simp[C0.J4,this]
theorem xY{s:ABn}(h:i<s.size):sgt s (i:Int)=some (s.get! i):=by
 unfold sgt;rw[AAQ ah];simp only[AAi];rw[getElem?_pos s i h];congr 1;have e:s.get! i=s[i]:=by simp[ByteArray.get!,getElem!_pos,h];rfl
 grind
theorem Px(c:Int):GH c=some (Jw c):=by unfold GH GH.J1 Jw;grind
theorem Zo(c:Int):Hj c=some (PJ c):=by unfold Hj IW;rw[Px,AAK];unfold Hj.J1 IW.J1 PJ;grind
theorem Ng(s:ABn)(c:s.size<=12):∀(n i:Nat),i<=s.size->s.size<n+i->CU.AU s n i=some ((List.range' i (s.size-i)).all λk=>PJ (Ky s k))|0,pos,h1,h2=>ah|n+1,i,h1,h2=>by unfold CU.AU CU.L1;by_cases b:i<s.size;rw[Ay ah,xY b,AAK,Zo,AAK,AW ah,Ng s c n (i+1) ah ah];have a:List.range' i (s.size-i)=i::List.range' (i+1) (s.size-(i+1)):=(by rw[show s.size-i=(s.size-(i+1))+1 from by omega,List.range'_succ]);rw[a,AA8];show(if(!(PJ (Ky s i)))=true then _ else _)=_;grind;rw[AR ah];have:s.size-i=0:=ah;simp[CU.J2,this]
theorem Qq(s:ABn):∀(n i:Nat),i<=22->22<n+i->D2.AU s n i=some ((Mq.drop i).any λx=>s.toList==x.toList)|0,pos,h1,h2=>ah|n+1,i,h1,h2=>by have b:Mq.length=22:=rfl;unfold D2.AU D2.L1;by_cases c:i<22;have a:i<Mq.length:=ah;rw[Ay ah,AAQ ah,Be a,AAK,AW ah,Qq s n (i+1) ah ah,DQ a,List.any_cons];grind;rw[AR ah];have:Mq.drop i=[]:=List.drop_eq_nil_of_le ah;simp[D2.J1,this]
def isKw(s:ABn):Bool:=Mq.any λx=>s.toList==x.toList
theorem T5(s:ABn):D2 s=some (isKw s):=Qq s BQ 0 ah bk
theorem VH:Kf=some Mq:=rfl
theorem Le(s:ABn)(v:jq)(b:v.length<=100):∀(n i:Nat),i<=v.length->v.length<n+i->DR.AU s v n i=some ((v.drop i).any λx=>x.toList==s.toList)|0,pos,h1,h2=>ah|n+1,i,h1,h2=>by unfold DR.AU DR.L1;by_cases a:i<v.length;rw[Ay ah,Be a,AAK,AW ah,Le s v b n (i+1) ah ah,DQ a,List.any_cons];grind;rw[AR ah];have:v.drop i=[]:=List.drop_eq_nil_of_le ah;simp[DR.J1,this]
theorem Ts(s:ABn):DR s=some (isKw s):=by unfold DR;rw[VH,AAK];refine(Le s Mq bk BQ 0 ah bk).trans ?_;rw[AAr];congr 1;unfold isKw;grind
def U4(s:ABn):Bool:=decide (1<=s.size)&&decide (s.size<=12)&& !isKw s&&(List.range' 0 s.size).all (Qf s)
theorem YF(s:ABn):C0 s=some (U4 s):=by unfold C0;by_cases c:s.size<1;rw[Ay ah];simp[C0.J1,U4];omega;rw[AR ah];by_cases d:s.size>12;rw[Ay ah];simp[C0.J1,U4];omega;rw[AR ah,T5,AAK];unfold C0.J1;rw[Nk s BQ 0 ah (by have:BQ=18446744073709551616:=rfl;omega)];have a:1<=s.size:=ah;have b:s.size<=12:=ah;simp only[U4,a,b,decide_true,AAj,Nat.sub_zero];grind
theorem uB(s:ABn)(h:0<s.size):(Jw (Ky s 0)&&(List.range' 0 s.size).all λk=>PJ (Ky s k))=(List.range' 0 s.size).all (Qf s):=by
 have b:List.range' 0 s.size=0::List.range' 1 (s.size-1):=by rw[show s.size=(s.size-1)+1 from by omega,List.range'_succ];simp
 rw[b,AA8,AA8];have c:Qf s 0=Jw (Ky s 0):=by simp[Qf]
 have d:PJ (Ky s 0)=(Jw (Ky s 0)||((decide (48<=Ky s 0)&&decide (Ky s 0<=57))||Ky s 0==95)):=rfl;have f:(List.range' 1 (s.size-1)).all (Qf s)=(List.range' 1 (s.size-1)).all λk=>PJ (Ky s k):=by
  rw[Bool.eq_iff_iff,AAS,AAS];have e:∀k∈List.range' 1 (s.size-1),Qf s k=PJ (Ky s k):=λk a=>by have:0<k:=(by have:=List.mem_range'_1.1 a;omega);simp[Qf,PJ,this]
  exact⟨λh k a=>e k a▸h k a,λh k a=>(e k a).symm▸h k a⟩
 grind
theorem Rz(s:ABn):CU s=some (U4 s):=by unfold CU;by_cases c:s.size<1;rw[Ay ah];simp[CU.J1,U4];omega;rw[AR ah];by_cases d:s.size>12;rw[Ay ah];simp[CU.J1,U4];omega;rw[AR ah,show(0:Int)=((0:Nat):Int)from rfl,xY ah,AAK,Px,AAK,Ts,AAK];unfold CU.J1;rw[show(0:Int)=((0:Nat):Int)from rfl,Ng s ah BQ 0 ah (by have:BQ=18446744073709551616:=rfl;omega)];have a:1<=s.size:=ah;have b:s.size<=12:=ah;simp only[U4,a,b,decide_true,AAj,Nat.sub_zero];rw[<- uB s ah];show(if(!Jw (Ky s 0))=true then _ else _)=_;grind
instance:Inhabited KH:=⟨⟨⟨#[]⟩,false⟩⟩
theorem ba_beq(a b:ABn):(a==b)=(a.data==b.data):=by cases a;cases b;rfl
theorem zQ(a b:ABn):(a.toList==b.toList)=(a==b):=by rw[ba_beq,Bool.eq_iff_iff,AAb,AAb,ByteArray.toList_eq,ByteArray.toList_eq];simp_all
theorem Wx(wv:AG)(L1 L1':ln)(F:List ABn×Bool->ABm (List ABn×Bool))(e:F ([],false)=some ([],false))(f:∀a b,L1 a b=(L1' a b).bind F)(i:Int)(l:jq)(x:Dy):∀(m:Nat)(k:Int)(c:Dy),c.dq=x.dq->c.Ca=x.Ca->c.Hh=false->c.de=x.de->Br.B9 L1 i l wv x m k=(Ah.B9 L1' i wv.dg l x m c k).bind F|0,k,c,_,_,_,_=>rfl|m+1,k,c,e1,e2,e3,e4=>by have o:=λp=>Wx wv L1 L1' F e f i l x m p ⟨c.dq,k,c.Ca,c.Hh,c.de⟩ e1 e2 e3 e4;unfold Br.B9 Ah.B9 Br.L2 Ah.L2;by_cases d:k<x.Ca;(rw[Ay d,Ay d];cases gt wv.dg (A9 (i+k))with|none=>rfl|some y=>simp only[AAK,Br.J2,o,e1,e2,e3,e4];by_cases g:y.d6=k<;>by_cases h:y.dq.toList=x.dq.toList<;>by_cases j:y.Ca=x.Ca<;>by_cases n:y.de=x.de<;>cases a5:y.Hh<;>simp[g,h,j,n,e]);rw[AR d,AR d];simp only[Br.J3,Ah.J2,f,e2]
def Np(wv:AG):List ABn×Bool->ABm (List ABn×Bool):=λv=>if v.2=true then Br.J4 wv v.1 else some ([],false)
theorem eT(wv:AG)(l:wv.dg.length<=12):∀(n:Nat)(names:jq)(i:Int),Br.AU wv n names i=(Ah.AU wv.dg n names i).bind (Np wv)|0,_,_=>rfl|n+1,names,i=>by have j:=eT wv l n;unfold Br.AU Ah.AU Br.L1 Ah.L1;by_cases hi:i<(wv.dg.length:Int);(rw[Ay hi,Ay hi];cases hx:gt wv.dg i with|none=>rfl|some x=>simp only[AAK];by_cases g:Aq (names.length+1) 16=true;(rw[AAQ g,AAQ g];by_cases d:x.Ca=0;simp only[d,ABK,AAq,j];by_cases c:x.d6=0<;>simp[c,Np];simp only[d,AAb,AAd,Br.J1,Ah.J1];by_cases c:x.Ca<1;simp[c,Np];by_cases e:x.Ca>4;simp[c,e,Np];simp only[c,e,decide_false,AAU,AAd];have m:=Wx wv _ _ (Np wv) rfl (λa b=>j a b) i names x BQ 0 x rfl rfl;by_cases f:x.Ca>A9 ((wv.dg.length:Int)-i);cases x.Hh<;>simp[f,Np];simp only[f,decide_false,AAU,AAd];cases hv:x.Hh with|false=>simp_all|true=>(simp only[AAq];have o:0<=i:=by unfold gt at hx;by_cases h:0<=i;exact h;simp_all);show Br.B9 _ _ _ _ _ BQ 0=_;rw[show BQ=18446744073709551615+1 from rfl];unfold Br.B9 Br.L2;rw[Ay ah,CY ah ah,Int.add_zero,hx];simp only[AAK,Br.J2,hv];by_cases k:x.d6=0<;>simp[k,Np]);simp_all);rw[AR hi,AR hi];simp[Ah.J3,Np]
theorem NU(l:nj)(j:l.length<=12)(L1:ln)(names:jq)(x:Dy)(i:Nat)(d:1<=x.Ca)(f:x.Ca<=4)(n:x.Ca<=(l.length:Int)-i)(Q:List ABn×Bool->Prop)(g:Q ([],false))(b:∃v,L1 (names++[x.dq]) ((i+x.Ca.toNat:Nat):Int)=some v/\Q v):∀(m k:Nat)(a:Dy),a.Ca=x.Ca->k<=x.Ca->x.Ca<(m+k:Nat)->∃v,Ah.B9 L1 (i:Int) l names x m a (k:Int)=some v/\Q v|0,k,a,e,h,h'=>ah|m+1,k,a,e,h,h'=>by unfold Ah.B9 Ah.L2;by_cases c:(k:Int)<x.Ca;rw[Ay c,CY ah ah,show(i:Int)+(k:Int)=((i+k:Nat):Int)from by omega,Be ah,AAK,AW ah];split;simp_all;exact NU l j L1 names x i d f n Q g b m (k+1) _ e ah ah;rw[AR c];unfold Ah.J2;rw[e,CY ah ah,show(i:Int)+x.Ca=((i+x.Ca.toNat:Nat):Int)from by omega];exact b
theorem NV(l:nj)(d:l.length<=12):∀(n i:Nat)(names:jq),i<=l.length->l.length<n+i->names.length<=i->∃v,Ah.AU l n names (i:Int)=some v/\v.1.length<=l.length|0,i,names,a,b,c=>ah|n+1,i,names,a,b,c=>by unfold Ah.AU Ah.L1;by_cases hi:i<l.length;rw[Ay ah,Be hi,AAK,Bg ah];have f:∃v,some (([],false):List ABn×Bool)=some v/\v.1.length<=l.length:=⟨_,rfl,ak⟩;generalize l[i]=x;by_cases e:x.Ca=0;simp only[e,ABK,AAq];rw[AW ah];split;exact f;exact NV l d n (i+1) _ ah ah an;simp only[e,AAb,AAd,Ah.J1];rw[CY (n:=(l.length:Int)-i) ah ah];by_cases a:x.Ca<1;simp[a];by_cases b:x.Ca>4;simp[a,b];by_cases c:x.Hh=true;simp_all;by_cases g:x.Ca>(l.length:Int)-i;simp_all;simp only[a,b,c,g,decide_false,AAU,AAd];refine NU l d _ names x i ah ah ah _ ak ?_ BQ 0 x rfl ah aS;exact NV l d n (i+x.Ca.toNat) _ ah ah an;rw[AR ah];exact⟨_,rfl,an⟩
def Nb(wv:AG):List ABn:=wv.AK.map (·.dq)++(wv.Aj.map (·.dq)++(wv.AM++wv.AB))
def Xb:List ABn->List ABn->Bool|_,[]=>true|seen,x::r=>U4 x&& !(seen.any λy=>y==x)&&Xb (seen++[x]) r
structure Small (wv:AG):Prop where
 c:wv.dg.length<=12
 l:wv.AK.length<=4
 d:wv.Aj.length<=2
 f:wv.AM.length<=2
 t:wv.AB.length<=4
 s:wv.Bu.length<=60
theorem names.L3(wv:AG)(a:jq)(c:(a++wv.AM++wv.AB).length<=1000):∀(n i:Nat)(b:jq),i<=(a++wv.AM++wv.AB).length->(a++wv.AM++wv.AB).length<n+i->BZ.Fw a wv n (i:Int) b=some (Xb b ((a++wv.AM++wv.AB).drop i))|0,i,b,h1,h2=>ah|n+1,i,b,h1,h2=>by unfold BZ.Fw BZ.L3;by_cases hi:i<(a++wv.AM++wv.AB).length;rw[Ay ah,Be hi,AAK,YF,AAK,DQ hi];unfold BZ.J3;rw[AW ah,names.L3 wv a c n (i+1) _ ah ah];generalize (a++wv.AM++wv.AB)[i]=x;rw[Xb];grind;rw[AR ah,EW hi];rfl
theorem names.J2(wv:AG)(b:Small wv)(a:jq)(c:a.length<=100):BZ.J2 wv a=some (Xb [] (a++(wv.AM++wv.AB))):=by have:=b.f;have:=b.t;have d:=BN;unfold BZ.J2;rw[Bg ah,Bg an];have:=names.L3 wv a an BQ 0 [] ah an;simp_all
theorem names.L2(wv:AG)(b:Small wv):∀(n i:Nat)(a:jq),i<=wv.Aj.length->wv.Aj.length<n+i->a.length<=50+i->BZ.B9 wv n a (i:Int)=some (Xb [] (a++((wv.Aj.drop i).map (·.dq)++(wv.AM++wv.AB))))|0,i,a,h1,h2,h3=>ah|n+1,i,a,h1,h2,h3=>by have:=b.d;unfold BZ.B9 BZ.L2;by_cases hi:i<wv.Aj.length;rw[Ay ah,Be hi,AAK,Bg ah,AW ah,names.L2 wv b n (i+1) _ ah ah an,DQ hi];grind;rw[AR ah,EW hi,names.J2 wv b a ah];simp
theorem names.L1(wv:AG)(b:Small wv):∀(n i:Nat)(a:jq),i<=wv.AK.length->wv.AK.length<n+i->a.length<=20+i->BZ.AU wv n a (i:Int)=some (Xb [] (a++((wv.AK.drop i).map (·.dq)++(wv.Aj.map (·.dq)++(wv.AM++wv.AB)))))|0,i,a,h1,h2,h3=>ah|n+1,i,a,h1,h2,h3=>by have:=b.l;have:=b.d;have c:=BN;unfold BZ.AU BZ.L1;by_cases hi:i<wv.AK.length;rw[Ay ah,Be hi,AAK,Bg ah,AW ah,names.L1 wv b n (i+1) _ ah ah an,DQ hi];grind;rw[AR ah,EW hi];unfold BZ.J1;have:=names.L2 wv b BQ 0 a ah ah ah;simp_all
theorem names_eq(wv:AG)(b:Small wv)(a:jq)(d:a.length<=12):BZ wv a=some (Xb [] (a++Nb wv)):=by have:=b.l;have c:=BN;unfold BZ;rw[Bg ah];have:=names.L1 wv b BQ 0 a ah ah ah;rw[AAr]at this;exact this
theorem Pc.J6(wv:AG)(b:Small wv)(a:jq)(c:a.length<=100):Br.J6 wv a=some (a++(wv.AM++wv.AB),true):=by have:=b.f;have:=b.t;unfold Br.J6;rw[Bg ah,Bg an,ABL]
theorem Pc.L4(wv:AG)(b:Small wv):∀(n i:Nat)(a:jq),i<=wv.Aj.length->wv.Aj.length<n+i->a.length<=50+i->Br.gD wv n a (i:Int)=some (a++((wv.Aj.drop i).map (·.dq)++(wv.AM++wv.AB)),true)|0,i,a,h1,h2,h3=>ah|n+1,i,a,h1,h2,h3=>by have:=b.d;unfold Br.gD Br.L4;by_cases hi:i<wv.Aj.length;rw[Ay ah,Be hi,AAK,Bg ah,AW ah,Pc.L4 wv b n (i+1) _ ah ah an,DQ hi];grind;rw[AR ah,EW hi,Pc.J6 wv b a ah];simp
theorem Pc.L3(wv:AG)(b:Small wv):∀(n i:Nat)(a:jq),i<=wv.AK.length->wv.AK.length<n+i->a.length<=20+i->Br.Fw wv n a (i:Int)=some (a++((wv.AK.drop i).map (·.dq)++(wv.Aj.map (·.dq)++(wv.AM++wv.AB))),true)|0,i,a,h1,h2,h3=>ah|n+1,i,a,h1,h2,h3=>by have:=b.l;have:=b.d;have c:=BN;unfold Br.Fw Br.L3;by_cases hi:i<wv.AK.length;rw[Ay ah,Be hi,AAK,Bg ah,AW ah,Pc.L3 wv b n (i+1) _ ah ah an,DQ hi];grind;rw[AR ah,EW hi];unfold Br.J5;have:=Pc.L4 wv b BQ 0 a ah ah ah;simp_all
theorem Pc.J4(wv:AG)(b:Small wv)(a:jq)(c:a.length<=12):Br.J4 wv a=some (a++Nb wv,true):=by have:=b.l;have d:=BN;unfold Br.J4;have:=Pc.L3 wv b BQ 0 a ah ah ah;rw[AAr]at this;exact this
theorem wH(l:jq)(x:ABn)(a:l.length<=1000):∀(n i:Nat),i<=l.length->l.length<n+i->∃r,Cz.AU l x n (i:Int)=some r/\(0<=r↔((l.drop i).any λy=>y==x)=true)|0,i,h1,h2=>ah|n+1,i,h1,h2=>by unfold Cz.AU Cz.L1;by_cases hi:i<l.length;rw[Ay ah,Be hi,AAK,AW ah,DQ hi,zQ,List.any_cons];obtain⟨r,b,c⟩:=wH l x a n (i+1) ah ah;grind;rw[AR ah,EW hi];exact⟨-1,rfl,ak⟩
theorem at_eq(l:jq)(x:ABn)(c:l.length<=1000):∃r,Cz l x=some r/\decide (r>=0)=(l.any λy=>y==x):=by obtain⟨r,a,b⟩:=wH l x c BQ 0 ah aS;rw[AAr]at b;refine⟨r,a,?_⟩;grind
theorem XM(wv:AG)(v:List ABn×Bool)(d:v.1.length<=1000):∀(n i:Nat),i<=v.1.length->v.1.length<n+i->A6.AU v wv n (i:Int)=if Xb (v.1.take i) (v.1.drop i)=true then A6.J3 wv else some false|0,i,h1,h2=>ah|n+1,i,h1,h2=>by unfold A6.AU A6.L1;by_cases hi:i<v.1.length;rw[Ay ah,Be hi,AAK,Rz,AAK,DQ hi,AAQ (c:=0<=(i:Int)/\(i:Int).toNat<=v.1.length) an,AAi];obtain⟨r,a,b⟩:=at_eq (v.1.take i) v.1[i] an;rw[a,AAK,b];unfold A6.J2;rw[AW ah,XM wv v d n (i+1) ah ah,Xb,AAn hi];grind;rw[AR ah,EW hi];rfl
def Hz(nt:Nat):Int->Int->List EF->Bool|_,_,[]=>true|t,n,x::r=>if x.cT<t\/x.cT>=nt then false else if x.cT>t then x.ew==0&&Hz nt x.cT 1 r else x.ew==n&&Hz nt t (n+1) r
theorem T3(wv:AG)(b:Small wv):∀(n i:Nat)(t:Int)(a:Nat),i<=wv.Bu.length->wv.Bu.length<n+i->a<=i->Cj.AU wv n t (a:Int) (i:Int)=some (Hz wv.AB.length t a (wv.Bu.drop i))|0,i,t,a,h1,h2,h3=>ah|n+1,i,t,a,h1,h2,h3=>by have:=b.s;unfold Cj.AU Cj.L1;by_cases hi:i<wv.Bu.length;rw[Ay ah,Be hi,AAK,DQ hi];simp only[Cj.J1,Cj.J2];rw[AW (i:=i) ah,AW (i:=a) ah,show A9 (0+1)=((1:Nat):Int)from rfl];rw[T3 wv b n (i+1) _ (a+1) ah ah ah,T3 wv b n (i+1) _ 1 ah ah ah];generalize wv.Bu[i]=x;rw[Hz];grind;rw[AR ah,EW hi];rfl
theorem XO(wv:AG)(j:Small wv):∀(n i:Nat)(t:Int)(e:Nat),i<=wv.Bu.length->wv.Bu.length<n+i->e<=i->(∀(h:0<i)(y:i-1<wv.Bu.length),t=wv.Bu[i-1].cT/\(e:Int)=wv.Bu[i-1].ew+1)->(i=0->t=0/\e=0)->0<=t->A6.Fw wv n (i:Int)=some (Hz wv.AB.length t e (wv.Bu.drop i))|0,i,t,e,h1,h2,h3,_,_,_=>ah|n+1,i,t,e,h1,h2,h3,h4,h5,h6=>by have:=j.s;unfold A6.Fw A6.L3;by_cases hi:i<wv.Bu.length;rw[Ay ah,Be hi,AAK,DQ hi];have v:∀(f:Int)(d:Nat),d<=i+1->(f=wv.Bu[i].cT/\(d:Int)=wv.Bu[i].ew+1)->0<=f->A6.Fw wv n ((i+1:Nat):Int)=some (Hz wv.AB.length f d (wv.Bu.drop (i+1))):=λf d a b c=>XO wv j n (i+1) f d ah ah a (λ_ _=>b) ah c;simp only[A6.J6,A6.J7,A6.J8,A6.J9];rw[AW (i:=i) ah];rw[Hz];by_cases a0:wv.Bu[i].cT<0;grind;by_cases k:wv.Bu[i].cT>=(wv.AB.length:Int);grind;simp only[a0,k,decide_false,ABB,AAU,AAd];by_cases z:i=0;grind;have q:((i:Int)==0)=false:=an;have g:gt wv.Bu (A9 ((i:Int)-1))=some wv.Bu[i-1]:=(by rw[CY ah ah,show(i:Int)-1=((i-1:Nat):Int)from by omega,Be ah]);obtain⟨o,p⟩:=h4 ah ah;have u:A9 (wv.Bu[i-1].ew+1)=(e:Int):=(by rw[<- p];exact CY (by omega) (by omega));have r:decide ((i:Int)>0):=an;simp only[q,g,AAK,AAU,AAd,u,<- o,r,AAq];by_cases l:t=wv.Bu[i].cT;have w:¬wv.Bu[i].cT<t:=ah;have x:¬wv.Bu[i].cT>t:=ah;simp only[l,bne_self_eq_false,AAU,AAd,Int.lt_irrefl,gt_iff_lt];by_cases m:wv.Bu[i].ew=(e:Int);simp only[m,bne_self_eq_false,AAU,AAd,ABK,AAj];rw[v wv.Bu[i].cT (e+1) ah ⟨rfl,ah⟩ ah];rfl;grind;grind;rw[AR ah,EW hi];rfl
theorem sites_eq(wv:AG)(a:Small wv):Cj wv=some (Hz wv.AB.length 0 0 wv.Bu):=by have:=T3 wv a BQ 0 0 0 ah (by have:=a.s;have:=BN;omega) ah;rw[AAr]at this;exact this
theorem rsites_eq(wv:AG)(a:Small wv):A6.J5 wv=some (Hz wv.AB.length 0 0 wv.Bu):=by have:=XO wv a BQ 0 0 0 ah (by have:=a.s;have:=BN;omega) ah ah ak ah;rw[AAr]at this;exact this
def Qb(wv:AG)(c:Rf):Bool:=B4 c.dn wv.AK.length&& !(ix wv.AK c.dn).RW
theorem Oo(i:Int)(n:Nat):FL i (n:Int)=some (B4 i n):=by unfold FL FL.J1 B4;grind
theorem Y2(wv:AG)(a:Small wv):∀(n i:Nat),i<=wv.Aj.length->wv.Aj.length<n+i->B6.AU wv n (i:Int)=if(wv.Aj.drop i).all (Qb wv)=true then some (Hz wv.AB.length 0 0 wv.Bu)else some false|0,i,h1,h2=>ah|n+1,i,h1,h2=>by have:=a.d;unfold B6.AU B6.L1;by_cases hi:i<wv.Aj.length;(rw[Ay ah,Be hi,AAK,DQ hi,AW ah,Y2 wv a n (i+1) ah ah,AA8];generalize wv.Aj[i]=c;unfold GU;rw[Oo,AAK];unfold Qb GU.J1;cases h:B4 c.dn wv.AK.length with|false=>simp|true=>rw[AAQ rfl,Bv h,AAK,AAK];grind);rw[AR ah,EW hi];unfold B6.J4;rw[sites_eq wv a];rfl
theorem XE(wv:AG)(a:Small wv):∀(n i:Nat),i<=wv.Aj.length->wv.Aj.length<n+i->A6.B9 wv n (i:Int)=if(wv.Aj.drop i).all (Qb wv)=true then some (Hz wv.AB.length 0 0 wv.Bu)else some false|0,i,h1,h2=>ah|n+1,i,h1,h2=>by have:=a.d;unfold A6.B9 A6.L2;by_cases hi:i<wv.Aj.length;unfold A6.J4;rw[Ay ah,Be hi,AAK,DQ hi,AW ah,XE wv a n (i+1) ah ah,AA8];generalize wv.Aj[i]=c;unfold Qb;by_cases b:c.dn<0;have:B4 c.dn wv.AK.length=false:=br;simp_all;by_cases e:c.dn>=(wv.AK.length:Int);have:B4 c.dn wv.AK.length=false:=br;simp_all;have h:B4 c.dn wv.AK.length:=br;rw[AR b,AR e,Bv h,AAK,h];grind;rw[AR ah,EW hi];exact rsites_eq wv a
def DA(wv:AG):Bool:=decide (wv.dg.length<=12)&&decide (wv.AK.length<=4)&&decide (wv.Aj.length<=2)&&decide (wv.AM.length<=2)&&decide (1<=wv.AB.length)&&decide (wv.AB.length<=4)&&decide (wv.Bu.length<=60)&&(match Ah wv.dg with|some v=>v.2&&Xb [] (v.1++Nb wv)&&wv.Aj.all (Qb wv)&&Hz wv.AB.length 0 0 wv.Bu|none=>false)
theorem Vu(wv:AG):B6 wv=some (DA wv):=by unfold B6 B6.J1;by_cases a:wv.dg.length<=12;by_cases b:wv.AK.length<=4;by_cases c:wv.Aj.length<=2;by_cases d:wv.AM.length<=2;by_cases e:wv.Bu.length<=60;rw[AR ah,AR ah,AR ah,AR ah,AAP an];unfold B6.J2;by_cases g:1<=wv.AB.length;by_cases f:wv.AB.length<=4;have h:Small wv:=⟨a,b,c,d,f,e⟩;obtain⟨v,k,l⟩:=NV wv.dg a BQ 0 [] ah aS ak;have i:Ah wv.dg=some v:=k;rw[AR ah,AAP an,i,AAK];have j:DA wv=(v.2&&Xb [] (v.1++Nb wv)&&wv.Aj.all (Qb wv)&&Hz wv.AB.length 0 0 wv.Bu):=(by unfold DA;rw[i];simp[a,b,c,d,e,g,f]);rw[j,names_eq wv h v.1 ah,AAK];unfold B6.J3;have m:=Y2 wv h BQ 0 ah aS;grind;rw[AR ah,AAQ an];simp[DA,f];rw[Ay ah,AAQ rfl];simp[DA,g];rw[AR ah,AR ah,AR ah,AR ah,AAQ an];simp[DA,e];rw[AR ah,AR ah,AR ah,Ay ah,AAQ rfl];simp[DA,d];rw[AR ah,AR ah,Ay ah,AAQ rfl];simp[DA,c];rw[AR ah,Ay ah,AAQ rfl];simp[DA,b];rw[Ay ah,AAQ rfl];simp[DA,a]
theorem NA(wv:AG):A6 wv=some (DA wv):=by unfold A6 A6.J1;by_cases a:wv.dg.length<=12;by_cases c:wv.AK.length<=4;by_cases d:wv.Aj.length<=2;by_cases e:wv.AM.length<=2;by_cases h:1<=wv.AB.length;by_cases g:wv.AB.length<=4;by_cases f:wv.Bu.length<=60;(have k:Small wv:=⟨a,c,d,e,g,f⟩;obtain⟨v,j,n⟩:=NV wv.dg a BQ 0 [] ah aS ak;have o:Ah wv.dg=some v:=j;rw[AR ah,AR ah,AR ah,AR ah,AR ah,AR ah,AAP an];have m:DA wv=(v.2&&Xb [] (v.1++Nb wv)&&wv.Aj.all (Qb wv)&&Hz wv.AB.length 0 0 wv.Bu):=(by unfold DA;rw[o];simp[a,c,d,e,f,h,g]);have hn:Br wv=Np wv v:=(by have:=eT wv a BQ [] 0;rw[show(0:Int)=((0:Nat):Int)from rfl,j]at this;exact this);rw[hn,m];unfold Np;have l:=XE wv k BQ 0 ah aS;rw[AAr]at l;cases hv2:v.2 with|false=>simp|true=>rw[AAQ rfl,Pc.J4 wv k v.1 ah,AAK,AAP ak];have b:(v.1++Nb wv).length<=1000:=(by simp[Nb];omega);have i:=XM wv (v.1++Nb wv,true) b BQ 0 ah (by have:=BN;grind);rw[List.take_zero,AAr]at i;rw[show(0:Int)=((0:Nat):Int)from rfl,i];unfold A6.J3;grind);rw[AR ah,AR ah,AR ah,AR ah,AR ah,AR ah,AAQ an];simp[DA,f];rw[AR ah,AR ah,AR ah,AR ah,AR ah,Ay ah,AAQ rfl];simp[DA,g];rw[AR ah,AR ah,AR ah,AR ah,Ay ah,AAQ rfl];simp[DA,h];rw[AR ah,AR ah,AR ah,Ay ah,AAQ rfl];simp[DA,e];rw[AR ah,AR ah,Ay ah,AAQ rfl];simp[DA,d];rw[AR ah,Ay ah,AAQ rfl];simp[DA,c];rw[Ay ah,AAQ rfl];simp[DA,a]
variable{wv:AG}
theorem Eh(h:DA wv):Small wv:=by unfold DA at h;simp only[AAL,AAe]at h;obtain⟨⟨⟨⟨⟨⟨⟨a,b⟩,c⟩,d⟩,g⟩,e⟩,f⟩,i⟩:=h;exact⟨a,b,c,d,e,f⟩
instance:Inhabited Rf:=⟨⟨⟨#[]⟩,0⟩⟩
instance:Inhabited Dy:=⟨⟨⟨#[]⟩,0,0,false,0⟩⟩
instance:Inhabited EF:=⟨⟨0,0,0⟩⟩
instance:Inhabited AQ:=⟨⟨0,[]⟩⟩
instance:Inhabited AL:=⟨⟨0,0,false⟩⟩
def NH(wv:AG):AP:=⟨List.replicate wv.AK.length ⟨-1,[]⟩, -1,List.replicate wv.AM.length false,(List.replicate wv.AB.length ⟨0,0,false⟩).set 0 ⟨1,0,false⟩⟩
theorem start.L1(wv:AG)(a:Small wv)(D:kj)(T:kr)(tx:Int):∀(n i:Nat),i<=wv.AK.length->wv.AK.length<n+i->Fl.AU wv n ⟨List.replicate i ⟨-1,[]⟩++List.replicate (wv.AK.length-i) ⟨0,[]⟩,tx,D,T⟩ (i:Int)=Fl.J1 ⟨List.replicate wv.AK.length ⟨-1,[]⟩,tx,D,T⟩|0,i,h1,h2=>ah|n+1,i,h1,h2=>by have:=a.l;unfold Fl.AU Fl.L1;by_cases hi:i<wv.AK.length;rw[Ay an];have e:List.replicate (wv.AK.length-i) (AQ.mk 0 [])=AQ.mk 0 []::List.replicate (wv.AK.length-(i+1)) (AQ.mk 0 []):=(by rw[show wv.AK.length-i=(wv.AK.length-(i+1))+1 from by omega,List.replicate_succ]);have b:gt (List.replicate i (AQ.mk (-1) [])++List.replicate (wv.AK.length-i) (AQ.mk 0 [])) (i:Int)=some ⟨0,[]⟩:=(by rw[Kw,e,AAu (by simp)];simp);have c:(List.replicate i (AQ.mk (-1) [])++List.replicate (wv.AK.length-i) (AQ.mk 0 [])).set i (AQ.mk (-1) [])=List.replicate (i+1) (AQ.mk (-1) [])++List.replicate (wv.AK.length-(i+1)) (AQ.mk 0 []):=(by rw[e,ABX _ _ (by simp)];simp only[ABh,Nat.sub_self,List.set_cons_zero];rw[ABk];simp);simp only[b,AAK,AAi,c];rw[AW ah];exact start.L1 wv a D T tx n (i+1) ah ah;rw[AR an];have:i=wv.AK.length:=ah;simp_all
def Iu(wv:AG):AD:=⟨NH wv,wv.dg.map (·.de),List.replicate wv.AM.length 0,List.replicate wv.AB.length 0⟩
variable{s:AP}{o t k wake:Int}{g:AH}{e c:AZ}{j:jo}{p:j4}
section
set_option maxHeartbeats 4000000
def LD(i:Int)(n:Nat):De i (n:Int)=some (B4 i n):=Oo i n
def oJ(i:Int)(n:Nat):IL i (n:Int)=some (B4 i n):=Oo i n
def XJ(i:Int)(n:Nat):Lh i (n:Int)=some (B4 i n):=Oo i n
def HR(wv:AG)(s:AP):Bool:=wv.Aj.all (λc=>B4 c.dn wv.AK.length)&&(s.AK.length==wv.AK.length&&(s.Bs.length==wv.AM.length&&s.AB.length==wv.AB.length))
theorem PS(a b:Nat):((a:Int)==(b:Int))=(a==b):=aA
theorem uH(a b:Nat):((a:Int) != (b:Int))= !(a==b):=aA
theorem Oa(wv:AG)(a:Small wv):∀(n i:Nat),i<=wv.Aj.length->wv.Aj.length<n+i->Em.AU wv n (i:Int)=some ((wv.Aj.drop i).all λc=>B4 c.dn wv.AK.length)|0,i,h1,h2=>ah|n+1,i,h1,h2=>by have:=a.d;unfold Em.AU Em.L1;by_cases hi:i<wv.Aj.length;rw[Ay ah,Be hi,AAK,DQ hi,AW ah,Oa wv a n (i+1) ah ah,AA8,LD,AAK];grind;rw[AR ah,EW hi];rfl
theorem Q0(wv:AG)(b:Small wv)(s:AP):Em wv s=some (HR wv s):=by have a:=Oa wv b BQ 0 ah (by have:=b.d;have:=BN;omega);rw[AAr]at a;unfold Em Em.J1 HR;rw[uH,uH,uH,show(0:Int)=((0:Nat):Int)from rfl,a];grind
theorem P3(wv:AG)(a:Small wv)(s:AP):∀(n i:Nat),i<=wv.Aj.length->wv.Aj.length<n+i->E7.AU s wv n (i:Int)=some (((wv.Aj.drop i).all λc=>B4 c.dn wv.AK.length)&&(s.AK.length==wv.AK.length&&(s.Bs.length==wv.AM.length&&s.AB.length==wv.AB.length)))|0,i,h1,h2=>ah|n+1,i,h1,h2=>by have:=a.d;unfold E7.AU E7.L1;by_cases hi:i<wv.Aj.length;unfold E7.J1;rw[Ay ah,Be hi,AAK,DQ hi,AW ah,P3 wv a s n (i+1) ah ah,AA8];generalize wv.Aj[i]=c;by_cases b:c.dn<0;have:B4 c.dn wv.AK.length=false:=br;simp_all;by_cases e:c.dn>=(wv.AK.length:Int);have:B4 c.dn wv.AK.length=false:=br;simp_all;have h:B4 c.dn wv.AK.length:=br;grind;rw[AR ah,EW hi];unfold E7.J2 E7.J3;rw[PS,PS,PS];grind
theorem O0(wv:AG)(b:Small wv)(s:AP):E7 wv s=some (HR wv s):=by have a:=P3 wv b s BQ 0 ah (by have:=b.d;have:=BN;omega);rw[AAr]at a;exact a
def I4(wv:AG)(s:AD):Bool:=HR wv s.dc&&(s.dg.length==wv.dg.length&&(s.AM.length==wv.AM.length&&s.df.length==wv.AB.length))
theorem NJ(wv:AG)(a:Small wv)(s:AD):E4 wv s=some (I4 wv s):=by unfold E4 E4.J1 I4;rw[Q0 wv a,AAK,PS,PS,PS];grind
theorem Sy(wv:AG)(a:Small wv)(s:AD):Ht wv s=some (I4 wv s):=by unfold Ht Ht.J1 I4;rw[O0 wv a,AAK,PS,PS,PS];grind
def A8(wv:AG)(k o:Int):Bool:=if k=1\/k=2\/k=5\/k=12\/k=13\/k=14\/k=15 then o== -1
 else if k=3\/k=4 then B4 o wv.dg.length
 else if k=6\/k=7 then B4 o wv.AK.length&& !(ix wv.AK o).RW
 else if k=8\/k=9\/k=10\/k=11 then B4 o wv.AK.length&&(ix wv.AK o).RW
 else if k=16\/k=17\/k=18\/k=19 then B4 o wv.Aj.length
 else if k=20\/k=21 then B4 o wv.AB.length
 else if k=22\/k=23 then B4 o wv.AM.length
 else false
theorem lockRW(l:List KH)(o:Int)(f g:Bool->ABm a)(y:ABm a)(d:∀b,f b=g b)(hn:y=g false)(c:KH->Bool):(if B4 o l.length=true then(gt l o).bind λx=>f (c x)else y)=g (B4 o l.length&&c (ix l o)):=by cases h:B4 o l.length with|false=>simp[hn]|true=>rw[AAQ rfl,Bv h,AAK,d];simp
theorem Nf(wv:AG)(o:Int):∀k,Cg wv k o=some (A8 wv k o):=by
 refine kinds ?_ ?_ ?_ ?_ ?_ ?_ ?_ ?_ ?_ ?_ ?_ ?_ ?_ ?_ ?_ ?_ ?_ ?_ ?_ ?_ ?_ ?_ ?_ (λk m n p q r s t u v a b y c d e z f g h w i j l=>?_);all_goals
  unfold Cg Cg.J1;simp(decide:=true)only[A8,Cg.J2,Cg.J3,Cg.J4,Cg.J5,Cg.J6,Cg.J7,Cg.J8,Cg.J9,LD,AAK,ABK,AAq,AAd,AAb,ABB,or_true,true_or,false_or,AAU]
 all_goals first|done| (simp only[m,n,p,q,r,s,t,u,v,a,b,y,c,d,e,z,f,g,h,w,i,j,l,AAd,or_self];done)|exact lockRW wv.AK o some some (some false) (λ_=>rfl) rfl (λx=>!x.RW)|exact lockRW wv.AK o some some (some false) (λ_=>rfl) rfl (λx=>x.RW)
def Z3(wv:AG)(k o:Int):JD wv k o=some (A8 wv k o):=Nf wv o k
theorem Ye(l:iT)(v:Int)(a:l.length<=1000000000):∀(n i:Nat),i<=l.length->l.length<n+i->∃r,GM.AU l v n (i:Int)=some r/\(0<=r↔v∈l.drop i)|0,i,h1,h2=>ah|n+1,i,h1,h2=>by unfold GM.AU GM.L1;by_cases hi:i<l.length;rw[Ay ah,Be hi,AAK,AW ah,DQ hi];obtain⟨r,b,c⟩:=Ye l v a n (i+1) ah ah;grind;rw[AR ah,EW hi];exact⟨-1,rfl,ak⟩
theorem Wt(l:iT)(v:Int)(b:l.length<=1000000000):Gt l v=some (l.contains v):=by obtain⟨r,c,a⟩:=Ye l v b BQ 0 ah aS;rw[AAr]at a;unfold Gt GM;simp_all
theorem lU(l:iT)(v:Int)(a:l.length<=1000000000):∀(n i:Nat),i<=l.length->l.length<n+i->HM.AU l v n (i:Int)=some ((l.drop i).contains v)|0,i,h1,h2=>ah|n+1,i,h1,h2=>by unfold HM.AU HM.L1;by_cases hi:i<l.length;rw[Ay ah,Be hi,AAK,AW ah,DQ hi,lU l v a n (i+1) ah ah];grind;rw[AR ah,EW hi];rfl
theorem q8(l:iT)(v:Int)(a:l.length<=1000000000):HM l v=some (l.contains v):=lU l v a BQ 0 ah aS
def RB(N:Nat)(s:AP):Prop:=∀x∈s.AK,x.Ae.length<=N
theorem RB.ix{N:Nat}(h:RB N s)(i:Int):(ix s.AK i).Ae.length<=N:=by unfold Abs.ix;cases hx:s.AK[i.toNat]? with|none=>exact Nat.zero_le _|some x=>exact h x (AAZ hx)
def Du(wv:AG)(s:AP)(t k o:Int):Bool:=let me:=ix s.AB t
 if k=1 then me.dh==1
 else if k=17 then me.dh==4&&(me.DS==o&&(ix s.AK (ix wv.Aj o).dn).Bw== -1)
 else me.dh==2&&(if k=6 then(ix s.AK o).Bw== -1
  else if k=10 then(ix s.AK o).Bw== -1&&((ix s.AK o).Ae.length:Int)==0
  else if k=8 then(ix s.AK o).Bw== -1&& !(ix s.AK o).Ae.contains t
  else if k=7\/k=11 then(ix s.AK o).Bw==t
  else if k=9 then(ix s.AK o).Ae.contains t
  else if k=12 then s.Tx== -1
  else if k=13 then s.Tx==t
  else if k=14 then !me.dy
  else if k=15 then me.dy
  else if k=16\/k=18\/k=19 then(ix s.AK (ix wv.Aj o).dn).Bw==t
  else if k=20 then o != t&&(ix s.AB o).dh==0
  else if k=21 then o != t&&(ix s.AB o).dh==5
  else if k=22 then !ix s.Bs o
  else if k=23 then ix s.Bs o
  else true)
def CN(wv:AG)(s:AP)(t k o:Int):Bool:=HR wv s&&(B4 t wv.AB.length&&(A8 wv k o&&Du wv s t k o))
theorem Dn(h:HR wv s):s.AK.length=wv.AK.length/\s.Bs.length=wv.AM.length/\s.AB.length=wv.AB.length:=by unfold HR at h;simp_all
theorem Fg(h:HR wv s)(a:B4 o wv.Aj.length):B4 (ix wv.Aj o).dn wv.AK.length:=by unfold HR at h;simp only[AAL,AAS]at h;obtain⟨b,c⟩:=As.1 a;have d:o.toNat<wv.Aj.length:=ah;refine h.1 _ ?_;unfold ix;simp_all
theorem Nc(wv:AG)(v:Small wv)(s:AP)(b:RB 1000000000 s)(t o:Int):∀k,D1 wv s t k o=some (CN wv s t k o):=by
 intro k;unfold D1 CN;rw[Q0 wv v,AAK];cases hf:HR wv s with
 |false=>rfl
 |true=>
  rw[LD,AAK];cases ht:B4 t wv.AB.length with
  |false=>rfl
  |true=>
   rw[Nf,AAK];cases a:A8 wv k o with
   |false=>rfl
   |true=>
    obtain⟨c,H,I⟩:=Dn hf;have r:gt s.AB t=some (ix s.AB t):=Bv am;unfold D1.J1;simp only[Bool.not_true,AAU,AAd,AAj];rw[r,AAK];revert a;have G:=b.ix o;have u:=Wt (ix s.AK o).Ae t (b.ix o);revert k;refine kinds ?_ ?_ ?_ ?_ ?_ ?_ ?_ ?_ ?_ ?_ ?_ ?_ ?_ ?_ ?_ ?_ ?_ ?_ ?_ ?_ ?_ ?_ ?_ (λk w x y z B C D E F d e K f g h L i j m J n p q=>?_);all_goals
     intro a;unfold Du;simp(decide:=true)only[A8,ABB,or_true,true_or,false_or,AAq,AAd,AAL]at a;simp(decide:=true)only[D1.J2,D1.J3,EZ,EZ.J1,EZ.J2,EZ.J3,EZ.J4,EZ.J5,EZ.J6,ABK,AAb,AAq,AAd,ABB,or_true,true_or,false_or,AAU]
    all_goals first|done| (rw[Bv (l:=wv.Aj) a,AAK,Bv (l:=s.AK) (by rw[c];exact Fg hf a)];grind)| (rw[Bv (l:=wv.Aj) a,AAK,Bv (l:=s.AK) (by rw[c];exact Fg hf a)];grind)| (rw[Bv (l:=s.AK) am];grind)| (rw[Bv (l:=s.AB) am];grind)| (rw[Bv (l:=s.Bs) am];grind)|grind|grind|simp_all|skip
theorem Oe(wv:AG)(w:Small wv)(s:AP)(c:RB 1000000000 s)(t o:Int):∀k,Cs wv s t k o=some (CN wv s t k o):=by
 intro k;unfold Cs CN;rw[O0 wv w,AAK];cases hf:HR wv s with
 |false=>rfl
 |true=>
  rw[oJ,AAK];cases ht:B4 t wv.AB.length with
  |false=>rfl
  |true=>
   rw[Z3,AAK];cases a:A8 wv k o with
   |false=>rfl
   |true=>
    obtain⟨d,J,K⟩:=Dn hf;have b:gt s.AB t=some (ix s.AB t):=Bv am;unfold Cs.J1;simp only[Bool.not_true,AAU,AAd,AAj];rw[b,AAK];revert a;have I:=c.ix o;have v:=q8 (ix s.AK o).Ae t (c.ix o);revert k;refine kinds ?_ ?_ ?_ ?_ ?_ ?_ ?_ ?_ ?_ ?_ ?_ ?_ ?_ ?_ ?_ ?_ ?_ ?_ ?_ ?_ ?_ ?_ ?_ (λk y z B C D E F G H e f M g h i N j m n L p q r=>?_);all_goals
     intro a;unfold Du;simp(decide:=true)only[A8,ABB,or_true,true_or,false_or,AAq,AAd,AAL]at a;simp(decide:=true)only[Cs.J2,Cs.J3,Cs.J4,Cs.J5,Cs.J6,Cs.J7,Cs.J8,ABK,AAb,AAq,AAd,ABB,or_true,true_or,false_or,AAU]
    all_goals first|done| (rw[Bv (l:=wv.Aj) a,AAK,Bv (l:=s.AK) (by rw[d];exact Fg hf a)];grind)| (rw[Bv (l:=wv.Aj) a,AAK,Bv (l:=s.AK) (by rw[d];exact Fg hf a)];grind)| (rw[Bv (l:=s.AK) am];grind)| (rw[Bv (l:=s.AB) am];grind)| (rw[Bv (l:=s.Bs) am];grind)|grind| (simp only[b,AAK];generalize (ix s.AB t).dh=x;by_cases u:x=2<;>simp[u];done)|simp_all|skip
theorem lW(l:iT)(x:Int)(m:l.length<=1000000000):∀(n i:Nat),i<=l.length->l.length<n+i->(∀(k:Nat)(g:k<l.length),k<i->l[k]<x)->Et.AU l x n (i:Int)=some (ins l x)
 |0,i,h1,h2,_=>ah
 |n+1,i,h1,h2,h3=>by
  unfold Et.AU Et.L1;have step:∀(b:Bool),(∀(hi:i<l.length),b=decide (l[i]<x))->(¬i<l.length->b=false)->Et.J1 (Et.AU l x n) (i:Int) l x b=some (ins l x):=by intro b f d;unfold Et.J1;by_cases hi:i<l.length;rw[f hi];by_cases c:l[i]<x;rw[Ay c,AW ah];refine lW l x m n (i+1) ah ah λk g j=>?_;grind;rw[AR c];have a:=fE l x i h1 h3 (λ_=>c);unfold Et.J2 Et.J3 ins;rw[Ay ah,Be hi,AAK,a,AAT hi];by_cases e:l[i]=x;simp[e];have:(l[i]==x)=false:=(by simpa using e);rw[this,AAP ak,AAi,AAQ ⟨ah,ah⟩,Bg an,Bg an,AAQ ⟨ah,ah⟩,Bg an,AAP aA];have p:(l.drop i).take (l.length-i)=l.drop i:=AAw am;grind;rw[d hi,AAP ak];have a:=fE l x i h1 h3 (λh=>absurd h hi);have o:i=l.length:=ah;unfold Et.J2 Et.J3 ins;rw[AR ah,AAP ak,a,AAi,AAQ ⟨ah,ah⟩,Bg an,Bg an,AAQ ⟨ah,ah⟩,Bg an,AAP (by simp[o])];simp_all
  by_cases hi:i<l.length;rw[Ay ah,Be hi,AAK];grind;grind
theorem Put_eq(l:iT)(x:Int)(a:l.length<=1000000000):Et l x=some (ins l x):=lW l x a BQ 0 ah aS (λk b h=>ah)
theorem Union.L2(b:iT):∀(n i:Nat)(out:iT),i<=b.length->b.length<n+i->out.length+b.length<=1000000000+i->b.length<=1000000000->ER.B9 b n out (i:Int)=some ((b.drop i).foldl ins out)|0,i,out,h1,h2,h3,h4=>ah|n+1,i,out,h1,h2,h3,h4=>by unfold ER.B9 ER.L2;by_cases hi:i<b.length;have a:=ZN out b[i];rw[Ay ah,Be hi,AAK,Put_eq _ _ ah,AAK,AW ah,Union.L2 b n (i+1) _ ah ah ah h4,DQ hi,List.foldl_cons];rw[AR ah,EW hi];rfl
theorem Union.L1(a b:iT)(c:a.length+b.length<=1000000000):∀(n i:Nat)(out:iT),i<=a.length->a.length<n+i->out.length<=i->ER.AU a b n out (i:Int)=some (b.foldl ins ((a.drop i).foldl ins out))|0,i,out,h1,h2,h3=>ah|n+1,i,out,h1,h2,h3=>by unfold ER.AU ER.L1;by_cases hi:i<a.length;have d:=ZN out a[i];rw[Ay ah,Be hi,AAK,Put_eq _ _ ah,AAK,AW ah,Union.L1 a b c n (i+1) _ ah ah ah,DQ hi,List.foldl_cons];rw[AR ah,EW hi];unfold ER.J1;have:=Union.L2 b BQ 0 out ah aS ah ah;simp_all
theorem rI(a b:iT)(c:a.length+b.length<=1000000000):ER a b=some (Ol (a++b)):=by have:=Union.L1 a b c BQ 0 [] ah aS ak;rw[AAr,<- List.foldl_append]at this;refine Eq.trans this ?_;rw[<- insAll_eq];rfl
theorem Pn(l:iT)(x:Int)(c:l.length<=1000000000):∀(n i:Nat)(out:iT),i<=l.length->l.length<n+i->out.length<=i->ES.AU l x n out (i:Int)=some (out++(l.drop i).filter λy=>!(y==x))|0,i,out,h1,h2,h3=>ah|n+1,i,out,h1,h2,h3=>by unfold ES.AU ES.L1;by_cases hi:i<l.length;unfold ES.J1;rw[Ay ah,Be hi,AAK,DQ hi,List.filter_cons,AW ah];by_cases e:l[i]=x;have a:(l[i] != x)=false:=(by simp[e]);have b:(!(l[i]==x))=false:=(by simp[e]);rw[a,b,AAP ak,AAP ak];exact Pn l x c n (i+1) out ah ah ah;have a:(l[i] != x):=(by simpa using e);have b:(!(l[i]==x)):=(by simpa using e);rw[a,b,AAQ rfl,AAQ rfl,Bg ah,Pn l x c n (i+1) _ ah ah an];simp;rw[AR ah,EW hi];simp[ES.J2]
theorem vU(l:iT)(x:Int)(a:l.length<=1000000000):ES l x=some (l.filter λy=>!(y==x)):=by have:=Pn l x a BQ 0 [] ah aS ak;rw[AAr]at this;exact this
def Hv(x:AL)(o:Int):Bool:=x.dh==3&&x.DS==o
def CO(o:Int):Nat->List AL->List Int|_,[]=>[]|i,x::r=>if Hv x o=true then(i:Int)::CO o (i+1) r else CO o (i+1) r
theorem Vs(o:Int)(T:kr):∀i,(CO o i T).length<=T.length:=by induction T with|nil=>intro i;simp[CO]|cons x r ih=>intro i;have:=ih (i+1);unfold CO;grind
theorem Js(o:Int)(T:kr):∀(i:Nat)(u:Int),u∈CO o i T->(i:Int)<=u/\u<((i+T.length:Nat):Int):=by induction T with|nil=>intro i u h;simp[CO]at h|cons x r ih=>intro i u h;unfold CO at h;grind
theorem p8(x:AL)(o:Int):GG x o=some (Hv x o):=by unfold GG GG.J1 Hv;grind
theorem O3(s:AP)(o:Int)(a:s.AB.length<=1000):∀(n i:Nat)(l:iT),i<=s.AB.length->s.AB.length<n+i->l.length<=i->C4.AU o s n l (i:Int)=some (l++CO o i (s.AB.drop i))|0,i,l,h1,h2,h3=>ah|n+1,i,l,h1,h2,h3=>by unfold C4.AU C4.L1;by_cases hi:i<s.AB.length;unfold C4.J1 C4.J2;rw[Ay ah,Be hi,AAK,DQ hi,CO,AW ah,Bg ah];have b:=O3 s o a n (i+1) (l++[(i:Int)]) ah ah an;have c:=O3 s o a n (i+1) l ah ah ah;unfold Hv;grind;rw[AR ah,EW hi];simp[C4.J3,CO]
theorem Ym(s:AP)(o:Int)(a:s.AB.length<=1000):C4 s o=some (CO o 0 s.AB):=by have:=O3 s o a BQ 0 [] ah aS ak;rw[AAr]at this;exact this
def NW(wake:Int):Int->List Int->Int|c,[]=>c|c,w::r=>NW wake (if c<0\/w=wake then w else c) r
theorem mL(wake:Int)(W:iT)(a:∀w∈W,0<=w):∀c,0<=c->NW wake c W=if W.contains wake=true then wake else c:=by induction W with|nil=>intro c _;simp[NW]|cons w r ih=>intro c b;have d:=ih (λw h=>a w (ABP _ h));unfold NW;grind
def El(wake:Int)(W:iT):Int:=if W=[]then -1 else if W.contains wake=true then wake else W.headD 0
theorem sL(wake:Int)(W:iT)(a:∀w∈W,0<=w):NW wake (-1) W=El wake W:=by cases W with|nil=>rfl|cons w r=>unfold NW El;rw[AAQ (.inl ah),mL wake r (λw h=>a w (ABP _ h)) w (a w (ABE ..)),AAP (c:=w::r=[]) ak];grind
theorem XB(T:kr)(o wake:Int)(a:T.length<=1000):∀(n i:Nat)(c:Int),i<=T.length->T.length<n+i->DJ.AU o T wake n c (i:Int)=DJ.J3 T (NW wake c (CO o i (T.drop i)))|0,i,c,h1,h2=>ah|n+1,i,c,h1,h2=>by unfold DJ.AU DJ.L1;by_cases hi:i<T.length;(unfold DJ.J1 DJ.J2;rw[Ay ah,Be hi,AAK,p8,AAK,DQ hi,CO,AW ah];have b:=λc=>XB T o wake a n (i+1) c ah ah;simp only[b];cases Hv T[i] o with|false=>simp|true=>simp only[AAq,NW];grind);rw[AR ah,EW hi];rfl
def IP(x:AL):AL:=⟨4,x.DS,x.dy⟩
def Hg(o:Int)(x:AL):AL:=if Hv x o=true then IP x else x
theorem notify_eq(tx:Int)(T:kr)(o wake:Int)(a:T.length<=1000):DJ tx T o wake=some (El wake (CO o 0 T),if CO o 0 T=[]then T else T.set (El wake (CO o 0 T)).toNat (IP (ix T (El wake (CO o 0 T))))):=by have h:=XB T o wake a BQ 0 (-1) ah aS;rw[AAr,sL _ _ (λw c=>(Js o T 0 w c).1)]at h;refine Eq.trans h ?_;unfold DJ.J3 DJ.J4;by_cases e:CO o 0 T=[];rw[e];simp[El];(have b:El wake (CO o 0 T)∈CO o 0 T:=by unfold El;rw[AAP e];split;simp_all;cases hW:CO o 0 T with|nil=>simp_all|cons w r=>simp);have d:=Js o T 0 _ b;rw[AAP e,Ay ah,Bv (As.2 ah)];rfl
theorem M6(T:kr)(o:Int)(d:T.length<=1000):∀(n i:Nat)(c:Nat),i<=T.length->T.length<n+i->c<=i->DC.AU o T n ((T.take i).map (Hg o)++T.drop i) (c:Int) (i:Int)=some (((c+(CO o i (T.drop i)).length:Nat):Int),T.map (Hg o))|0,i,c,h1,h2,_=>ah|n+1,i,c,h1,h2,h3=>by unfold DC.AU DC.L1;by_cases hi:i<T.length;(have a:((T.take i).map (Hg o)).length=i:=an;have f:gt ((T.take i).map (Hg o)++T.drop i) (i:Int)=some T[i]:=(by rw[Kw,AAu (by omega),a,Nat.sub_self,DQ hi];rfl);unfold DC.J1;rw[Ay ah,f,AAK,p8,AAK,AW (i:=i) ah,AW (i:=c) ah,AAi];have b:∀y,y=Hg o T[i]->(T.take i).map (Hg o)++y::T.drop (i+1)=(T.take (i+1)).map (Hg o)++T.drop (i+1):=(by rintro y rfl;rw[<- AAn hi,AA0];simp);have g:((T.take i).map (Hg o)++T.drop i).set i (AL.mk 4 T[i].DS T[i].dy)=(T.take i).map (Hg o)++AL.mk 4 T[i].DS T[i].dy::T.drop (i+1):=(by rw[ABX _ _ (by omega),a,Nat.sub_self,DQ hi];rfl);have e:(T.take i).map (Hg o)++T.drop i=(T.take i).map (Hg o)++T[i]::T.drop (i+1):=(by rw[<- DQ hi]);rw[g,e,DQ hi,CO];cases hw:Hv T[i] o with|true=>rw[AAQ rfl,AAQ rfl,b _ (by simp[Hg,hw,IP]),M6 T o d n (i+1) (c+1) ah ah ah];grind|false=>rw[AAP ak,AAP ak,b _ (by simp[Hg,hw]),M6 T o d n (i+1) c ah ah ah]);rw[AR ah,EW hi,AAw ah];simp[DC.J2,CO]
theorem jG(tx:Int)(T:kr)(o:Int)(a:T.length<=1000):DC tx T o=some (((CO o 0 T).length:Int),T.map (Hg o)):=by have:=M6 T o a BQ 0 0 ah aS ah;simp only[List.take_zero,AAy,AAr,ABe,AA6]at this;exact this
structure YY (s:AP):Prop where
 l:s.AK.length<=1000
 d:s.Bs.length<=1000
 t:s.AB.length<=1000
 r:RB 1000000 s
theorem Y0(s:AP)(b:YY s):∀(n i:Nat),i<=s.AK.length->s.AK.length<n+i->EY.AU s n (s.AK.take i++List.replicate (s.AK.length-i) ⟨0,[]⟩) (i:Int)=some s|0,i,h1,h2=>ah|n+1,i,h1,h2=>by have:=b.l;have:=b.d;have:=b.t;unfold EY.AU EY.L1;by_cases hi:i<s.AK.length;have a:(s.AK.take i).length=i:=an;have e:List.replicate (s.AK.length-i) (AQ.mk 0 [])=AQ.mk 0 []::List.replicate (s.AK.length-(i+1)) (AQ.mk 0 []):=(by rw[show s.AK.length-i=(s.AK.length-(i+1))+1 from by omega,List.replicate_succ]);have c:gt (s.AK.take i++List.replicate (s.AK.length-i) (AQ.mk 0 [])) (i:Int)=some ⟨0,[]⟩:=(by rw[Kw,e,AAu (by omega),a];simp);have f:(s.AK.take i++List.replicate (s.AK.length-i) (AQ.mk 0 [])).set i s.AK[i]=s.AK.take (i+1)++List.replicate (s.AK.length-(i+1)) (AQ.mk 0 []):=(by rw[e,ABX _ _ (by omega),a,Nat.sub_self,List.set_cons_zero,<- AAn hi,ABL];rfl);have g:=b.r _ (AAW hi);unfold slices_Clone_int;rw[Ay ah,Be hi,AAK,Bg ah,AAK,c,AAK,AW ah,AAi];show EY.AU s n ((s.AK.take i++List.replicate (s.AK.length-i) (AQ.mk 0 [])).set i s.AK[i]) _=_;rw[f];exact Y0 s b n (i+1) ah ah;rw[AR ah,AAw ah,show s.AK.length-i=0 from by omega];unfold EY.J1 Kl HA;rw[Bg ah,AAK,Bg ah,AAK];simp
theorem clone_eq(s:AP)(a:YY s):EY s=some s:=by have:=a.l;unfold EY;rw[AAQ ⟨ah,ah,Cd ah⟩];have h:=Y0 s a BQ 0 ah aS;simp_all
theorem eK(s:AP)(a:YY s)(tx:Int)(D:kj)(T:kr):∀(n i:Nat),i<=s.AK.length->s.AK.length<n+i->Gr.AU s n ⟨s.AK.take i,tx,D,T⟩ (i:Int)=some ⟨s.AK,tx,D,T⟩|0,i,h1,h2=>ah|n+1,i,h1,h2=>by have:=a.l;unfold Gr.AU Gr.L1;by_cases hi:i<s.AK.length;have b:=a.r _ (AAW hi);rw[Ay ah,Be hi,AAK,Bg ah,Bg an,AW ah];simp only[AAn hi];exact eK s a tx D T n (i+1) ah ah;rw[AR ah,AAw ah];rfl
theorem Copy_eq(s:AP)(a:YY s):Gr s=some s:=by have:=a.l;have:=a.d;have:=a.t;unfold Gr;rw[Bg ah,Bg ah];exact eK s a s.Tx s.Bs s.AB BQ 0 ah aS
def Jz(s:AP)(i:Int)(f:AL->AL):AP:=⟨s.AK,s.Tx,s.Bs,s.AB.set i.toNat (f (ix s.AB i))⟩
def HW(s:AP)(i:Int)(f:AQ->AQ):AP:=⟨s.AK.set i.toNat (f (ix s.AK i)),s.Tx,s.Bs,s.AB⟩
def DP(wv:AG)(s:AP)(t k o wake:Int):AP×Int:=if k=1 then(Jz s t λx=>⟨2,x.DS,x.dy⟩,0)
 else if k=2 then(Jz s t λx=>⟨5,x.DS,x.dy⟩,0)
 else if k=6\/k=10 then(HW s o λx=>⟨t,x.Ae⟩,0)
 else if k=7\/k=11 then(HW s o λx=>⟨-1,x.Ae⟩,0)
 else if k=8 then(HW s o λx=>⟨x.Bw,Ol (x.Ae++[t])⟩,0)
 else if k=9 then(HW s o λx=>⟨x.Bw,x.Ae.filter λy=>!(y==t)⟩,0)
 else if k=12 then(⟨s.AK,t,s.Bs,s.AB⟩,0)
 else if k=13 then(⟨s.AK, -1,s.Bs,s.AB⟩,0)
 else if k=14 then(Jz s t λx=>⟨x.dh,x.DS,true⟩,0)
 else if k=15 then(Jz s t λx=>⟨x.dh,x.DS,false⟩,0)
 else if k=16 then(Jz (HW s (ix wv.Aj o).dn λx=>⟨-1,x.Ae⟩) t λx=>⟨3,o,x.dy⟩,0)
 else if k=17 then(Jz (HW s (ix wv.Aj o).dn λx=>⟨t,x.Ae⟩) t λx=>⟨2,0,x.dy⟩,0)
 else if k=18 then(if CO o 0 s.AB=[]then s else Jz s (El wake (CO o 0 s.AB)) IP,El wake (CO o 0 s.AB))
 else if k=19 then(⟨s.AK,s.Tx,s.Bs,s.AB.map (Hg o)⟩,((CO o 0 s.AB).length:Int))
 else if k=20 then(Jz s o λx=>⟨1,x.DS,x.dy⟩,0)
 else if k=22 then(⟨s.AK,s.Tx,s.Bs.set o.toNat true,s.AB⟩,0)
 else(s,0)
def sR:AP:=⟨[],0,[],[]⟩
def QX(wv:AG)(s:AP)(t k o wake:Int):AP×Int×Bool:=if CN wv s t k o=true then((DP wv s t k o wake).1,(DP wv s t k o wake).2,true)else(sR,0,false)
theorem aT{l:kr}(b:B4 t l.length)(a:AL):gt (l.set t.toNat a) t=some a:=by obtain⟨c,d⟩:=As.1 b;have:t.toNat<l.length:=ah;unfold gt;simp_all
theorem YY.of(a:Small wv)(b:HR wv s)(c:RB 1000000 s):YY s:=by obtain⟨d,e,g⟩:=Dn b;have:=a.l;have:=a.f;have:=a.t;exact⟨ah,ah,ah,c⟩
def RB.mono{N M:Nat}(h:RB N s)(a:N<=M):RB M s:=λx b=>ABF (h x b) a
theorem Sort_eq(l:iT)(a:l.length<=1000000000):Nj l=some (Sr l):=by unfold Nj;rw[AAQ ah];rfl
theorem qZ(l:iT)(a:l.length<=1000000000):slices_Compact l=some (Lib.compact l):=by unfold slices_Compact;grind
theorem Xj(wv:AG)(n:Small wv)(s:AP)(g:RB 1000000 s)(t o wake:Int):∀k,FV wv s t k o wake=some (QX wv s t k o wake):=by
  intro k;unfold FV QX;rw[Nc wv n s (g.mono ah),AAK];cases he:CN wv s t k o with
  |false=>rfl
  |true=>
    have a:=he;unfold CN at a;simp only[AAL]at a;obtain⟨f,I,c,d⟩:=a;obtain⟨J,U,K⟩:=Dn f;have b:=YY.of n f g;have j:B4 t s.AB.length:=(by rw[K];exact I);have m:gt s.AB t=some (ix s.AB t):=Bv j;have e:=aT j;have H:=g.ix o;have i:(Sr ((ix s.AK o).Ae++[t])).length<=1000000000:=(by rw[Uz];simp;omega);have F:=notify_eq s.Tx s.AB o wake b.t;have E:=jG s.Tx s.AB o b.t;rw[clone_eq s b,AAK,AAP ak];clear he;revert c d;revert k;refine kinds ?_ ?_ ?_ ?_ ?_ ?_ ?_ ?_ ?_ ?_ ?_ ?_ ?_ ?_ ?_ ?_ ?_ ?_ ?_ ?_ ?_ ?_ ?_ (λk L M N O P Q R S T q r W u v w X x y z V B C D=>?_);all_goals
      intro c d;unfold DP;simp(decide:=true)only[A8,ABB,or_true,true_or,false_or,AAq,AAd,AAL]at c;simp(decide:=true)only[FV.J1,FV.J2,FV.J3,ABK,AAb,AAq,AAd,ABB,or_true,true_or,false_or,AAU]
    all_goals first
      |done
      | (rw[m,AAK];rfl)
      | (rw[Bv (l:=s.AK) am,AAK];rfl)
      | (rw[Bv (l:=s.AK) am,AAK,Bg ah,Sort_eq _ an,AAK,qZ _ i,AAK];rfl)
      | (rw[Bv (l:=s.AK) am,AAK]
         unfold JH;have p:(ix s.AK o).Ae≠[]:=(by intro h;simp(decide:=true)only[Du,AAq,AAd,ABB,or_true,true_or,false_or,h,List.contains_nil,Bool.and_false,AAU]at d);rw[AAQ ⟨p,ah⟩,AAK];rfl)
      | (rw[Bv (l:=wv.Aj) c,AAK,Bv (l:=s.AK) (by rw[J];exact Fg f c),AAK,m,AAK,e,AAK];simp only[List.set_set];rfl)
      | (rw[F,AAK];simp only;by_cases G:CO o 0 s.AB=[]<;>simp only[G,AAq,AAd]<;>rfl)
      | (rw[E,AAK];done)
      | (rw[Bv (l:=s.AB) am,AAK];rfl)
      | (rw[Bv (l:=s.Bs) am,AAK];done)
      |rfl
      |simp_all
      |skip
theorem setAll(o:Int)(a:kr):∀(pre:kr),(CO o pre.length a).foldl (λT (u:Int)=>T.set u.toNat (IP (ix T u))) (pre++a)=pre++a.map (Hg o):=by
 induction a with
 |nil=>intro pre;simp[CO]
 |cons x r ih=>
  intro pre;unfold CO;have c:ix (pre++x::r) ((pre.length:Nat):Int)=x:=by unfold ix;rw[AAi,AAu (AAl _)];simp
  have b:=λy=>ih (pre++[y]);simp only[AA1,ABJ,List.length_nil,AA6,ABL,List.singleton_append]at b;cases hw:Hv x o with|true=>rw[AAQ rfl,List.foldl_cons,c,AAi,ABX _ _ (AAl _),Nat.sub_self,List.set_cons_zero,b];simp[Hg,hw]|false=>rw[AAP ak,b];simp[Hg,hw]
theorem XD(W:iT)(a:W.length<=1000000):∀(n i:Nat)(s:AP),i<=W.length->W.length<n+i->(∀u∈W,B4 u s.AB.length)->Dm.AU W n s (i:Int)=some (⟨s.AK,s.Tx,s.Bs,(W.drop i).foldl (λT (u:Int)=>T.set u.toNat (IP (ix T u))) s.AB⟩,(W.length:Int),true)|0,i,s,h1,h2,_=>ah|n+1,i,s,h1,h2,h3=>by unfold Dm.AU Dm.L1;by_cases hi:i<W.length;rw[Ay ah,Be hi,AAK,Bv (h3 _ (AAW hi)),AAK,AW ah,XD W a n (i+1) _ ah ah am,DQ hi,List.foldl_cons];rfl;rw[AR ah,EW hi];rfl
theorem Tz(wv:AG)(H:Small wv)(s:AP)(B:RB 1000000 s)(t o wake:Int):∀k,Dm wv s t k o wake=some (QX wv s t k o wake):=by
 intro k;unfold Dm QX;rw[Oe wv H s (B.mono ah),AAK];cases he:CN wv s t k o with
 |false=>rfl
 |true=>
  have a:=he;unfold CN at a;simp only[AAL]at a;obtain⟨z,W,d,D⟩:=a;obtain⟨X,l2,Z⟩:=Dn z;have b:=YY.of H z B;have C:B4 t s.AB.length:=by rw[Z];exact W
  have E:gt s.AB t=some (ix s.AB t):=Bv C;have y:=aT C;have V:=B.ix o;have S:=Ym s o b.t;have T:=Vs o s.AB 0;have U:=b.t;rw[Copy_eq s b,AAK,AAP ak];clear he;revert d D;revert k;refine kinds ?_ ?_ ?_ ?_ ?_ ?_ ?_ ?_ ?_ ?_ ?_ ?_ ?_ ?_ ?_ ?_ ?_ ?_ ?_ ?_ ?_ ?_ ?_ (λk I J K L M N O P Q f g wW h i j yE m n p vZ q v x=>?_);all_goals
   intro d D;unfold DP;simp(decide:=true)only[A8,ABB,or_true,true_or,false_or,AAq,AAd,AAL]at d;simp(decide:=true)only[Dm.J1,Dm.J2,Dm.J5,ABK,AAb,AAq,AAd,ABB,or_true,true_or,false_or,AAU]
  all_goals first|done| (rw[E,AAK];rfl)| (rw[Bv (l:=s.AK) am,AAK];rfl)| (rw[Bv (l:=s.AK) am,AAK,rI _ _ an,AAK];rfl)| (rw[Bv (l:=s.AK) am,AAK,vU _ _ ah,AAK];rfl)| (rw[Bv (l:=wv.Aj) d,AAK,Bv (l:=s.AK) (by rw[X];exact Fg z d),AAK,E,AAK,y,AAK];simp only[List.set_set];rfl)| (rw[Bv (l:=s.AB) am,AAK];rfl)| (rw[Bv (l:=s.Bs) am,AAK];done)|rfl| (exfalso;revert d;simp only[I,J,K,L,M,N,O,P,Q,f,g,wW,h,i,j,yE,m,n,p,vZ,q,v,x,AAd,or_self,AAU,imp_self];done)|skip
  (rw[S,AAK];cases hWW:CO o 0 s.AB with|nil=>rfl|cons w r=>have F:(w::r).length<=1000:=(by rw[<- hWW];omega);have e:∀u,u∈w::r->B4 u s.AB.length:=λu G=>(by have:=Js o s.AB 0 u (by simp_all);exact As.2 (by omega));have R:gt (w::r) 0=some w:=rfl;rw[Ay am,R,AAK,q8 _ _ ah,AAK];unfold Dm.J3 Dm.J5 El;rw[AAP (c:=w::r=[]) ak,AAP (c:=w::r=[]) ak];cases hc:(w::r).contains wake with|true=>rw[AAQ rfl,Bv (e wake am),AAK];rfl|false=>rw[AAP ak,Bv (e w (ABE ..)),AAK];rfl);have e:∀u,u∈CO o 0 s.AB->B4 u s.AB.length:=λu G=>(by have:=Js o s.AB 0 u G;exact As.2 (by omega));have h1:=XD (CO o 0 s.AB) ah BQ 0 s ah aS e;have h2:=setAll o s.AB [];simp_all
instance:Inhabited AP:=⟨sR⟩
def PB:AD:=⟨sR,[],[],[]⟩
def K3(ev:AH):Prop:=ev.D4.length<4611686018427387904/\ev.DL.length<4611686018427387904
def Oq(wv:AG)(ev:AH):Bool:=if ev.da=1\/ev.da=2 then ev.d8== -1 else B4 ev.d8 wv.Bu.length&&(ix wv.Bu ev.d8).cT==ev.cT
def F9(c:Int):Int->List Int->Bool|_,[]=>true|last,x::r=>decide (last<x)&&(decide (x<c)&&F9 c x r)
def QH(wv:AG)(ev:AH):Bool:=if ev.da=3\/ev.da=4 then(ix wv.dg ev.di).Ca != 0 else false
def Ed(wv:AG)(s:AD)(ev:AH):Bool:=((ev.D4.isEmpty||(ev.da==5||QH wv ev))&&F9 (ix s.df ev.cT) 0 ev.D4)&&((ev.DL.isEmpty||(ev.da==4||ev.da==22))&&F9 (ix s.df ev.cT) 0 ev.DL)
def Gz(s:AD)(ev:AH):Bool:=if ev.da=3 then ev.dm==ix s.dg ev.di
 else if ev.da=23 then ev.dm==ix s.AM ev.di
 else if ev.da=5 then ev.dm==0||ev.dm==1
 else if ev.da=4\/ev.da=22 then true
 else if ev.da=18 then(CO ev.di 0 s.dc.AB).contains ev.dm||((CO ev.di 0 s.dc.AB).isEmpty&&ev.dm== -1)
 else if ev.da=19 then ev.dm==((CO ev.di 0 s.dc.AB).length:Int)
 else ev.dm==0
theorem placed_eq(wv:AG)(ev:AH):Dg wv ev=some (Oq wv ev):=by unfold Dg Dg.J1 Oq;by_cases d:ev.da=1;simp[d];by_cases e:ev.da=2;simp[e];have f:(ev.da==1)=false:=(by simpa using d);have g:(ev.da==2)=false:=(by simpa using e);rw[f,g,AAP (c:=ev.da=1\/ev.da=2) ah];simp only[AAU,AAd];unfold Dg.J2;by_cases a:ev.d8>=0;by_cases b:ev.d8<(wv.Bu.length:Int);have hi:B4 ev.d8 wv.Bu.length:=As.2 ⟨a,b⟩;rw[Ay a,Ay b,Bv hi,AAK,hi];rfl;have:B4 ev.d8 wv.Bu.length=false:=br;grind;have:B4 ev.d8 wv.Bu.length=false:=br;grind
theorem dec.L2(L1:i6)(ev:AH)(l:iT)(s:AD)(t:Int)(b:gt s.df ev.cT=some (ix s.df ev.cT))(c:l.length<4611686018427387904):∀(n i:Nat)(a:Int),i<=l.length->l.length<n+i->Ac.B9 L1 ev l s t n a (i:Int)=if F9 (ix s.df ev.cT) a (l.drop i)=true then Ac.J6 L1 t else some false|0,i,a,h1,h2=>ah|n+1,i,a,h1,h2=>by unfold Ac.B9 Ac.L2;by_cases hi:i<l.length;unfold Ac.J5;rw[Ay ah,Be hi,AAK,b,DQ hi,AW ah,dec.L2 L1 ev l s t b c n (i+1) _ ah ah];generalize l[i]=x;rw[F9];grind;rw[AR ah,EW hi];simp[F9]
theorem cC:BQ=(BQ-3)+3:=rfl
theorem det.J4(L1:i6)(ev:AH)(l:iT)(s:AD)(t:Int)(a:gt s.df ev.cT=some (ix s.df ev.cT))(c:l.length<4611686018427387904)(b:Bool):Ac.J4 L1 ev l s t b=if(!b&&F9 (ix s.df ev.cT) 0 l)=true then Ac.J6 L1 t else some false:=by unfold Ac.J4;cases b with|true=>simp|false=>have:=dec.L2 L1 ev l s t a c BQ 0 0 ah aS;simp_all
theorem det.J2(wv:AG)(s:AD)(ev:AH)(g:K3 ev)(e:gt s.df ev.cT=some (ix s.df ev.cT))(a b:Bool):Ac.J2 ev s a b=some (((ev.D4.isEmpty||a)&&F9 (ix s.df ev.cT) 0 ev.D4)&&((ev.DL.isEmpty||b)&&F9 (ix s.df ev.cT) 0 ev.DL)):=by
 unfold Ac.J2;rw[cC];generalize BQ-3=m;have i:Ac.AU a b ev s (m+1) 2=some true:=by unfold Ac.AU Ac.L1;rfl
 have d:∀(L1:i6)(t:Int)(l:iT)(c:Bool),l.length<4611686018427387904->(t=0/\c=a\/t=1/\c=b)->Ac.J3 L1 a b ev s t l=if((l.isEmpty||c)&&F9 (ix s.df ev.cT) 0 l)=true then Ac.J6 L1 t else some false:=by intro L1 t l c f j;unfold Ac.J3;rw[det.J4 _ _ _ _ _ e f,det.J4 _ _ _ _ _ e f,det.J4 _ _ _ _ _ e f];cases l with|nil=>simp|cons x r=>grind
 have h:Ac.AU a b ev s (m+2) 1=some ((ev.DL.isEmpty||b)&&F9 (ix s.df ev.cT) 0 ev.DL):=by unfold Ac.AU Ac.L1;rw[Ay bk,AAP bk,AAQ bk,d _ 1 ev.DL b g.2 (.inr ⟨rfl,rfl⟩)];unfold Ac.J6;rw[show A9 (1+1)=2 from rfl,i];cases((ev.DL.isEmpty||b)&&F9 (ix s.df ev.cT) 0 ev.DL)<;>rfl
 unfold Ac.AU Ac.L1;rw[Ay bk,AAQ bk,d _ 0 ev.D4 a g.1 (.inl ⟨rfl,rfl⟩)];unfold Ac.J6;rw[show A9 (0+1)=1 from rfl,h];grind
theorem cM(wv:AG)(s:AD)(ev:AH)(f:K3 ev)(d:gt s.df ev.cT=some (ix s.df ev.cT))(g:ev.da=3\/ev.da=4->B4 ev.di wv.dg.length):Ac wv s ev=some (Ed wv s ev):=by
 have a:∀e,e=QH wv ev->Ac.J1 ev s e=some (Ed wv s ev):=by intro e h;unfold Ac.J1 Ed;rw[det.J2 wv s ev f d,det.J2 wv s ev f d,det.J2 wv s ev f d,det.J2 wv s ev f d,h];by_cases i:ev.da=5;simp[i];grind
 unfold Ac;by_cases b:ev.da=3;rw[AAQ (by simp[b]),Bv (g (.inl b)),AAK];exact a _ (by simp[QH,b]);rw[AAP am];by_cases c:ev.da=4;rw[AAQ (by simp[c]),Bv (g (.inr c)),AAK];exact a _ (by simp[QH,c]);rw[AAP am];exact a _ (by simp[QH,b,c])
theorem bB.L1(ev:AH)(s:AD)(f:s.dc.AB.length<=1000):∀(n i w:Nat)(b:Bool),i<=s.dc.AB.length->s.dc.AB.length<n+i->w<=i->BK.AU ev s n (w:Int) b (i:Int)=some ((b||(CO ev.di i (s.dc.AB.drop i)).contains ev.dm)||((w+(CO ev.di i (s.dc.AB.drop i)).length==0)&&ev.dm== -1))|0,i,w,b,h1,h2,h3=>ah|n+1,i,w,b,h1,h2,h3=>by unfold BK.AU BK.L1;by_cases hi:i<s.dc.AB.length;unfold BK.J3 BK.J4;rw[Ay ah,Be hi,AAK,DQ hi,CO,AW (i:=i) ah,AW (i:=w) ah];have a:=λ(w':Nat) b' h=>bB.L1 ev s f n (i+1) w' b' ah ah h;rw[a (w+1) true ah,a (w+1) (ev.dm==(i:Int)) ah,a w b ah];unfold Hv;have c:∀m:Nat,(w+1+m==0)=false:=λm=>ak;have d:∀m:Nat,(w+(m+1)==0)=false:=λm=>ak;have e:(ev.dm==(i:Int))=decide (ev.dm=(i:Int)):=rfl;cases(s.dc.AB[i].dh==3)<;>cases(s.dc.AB[i].DS==ev.di)<;>cases b<;>simp[c,d,e];rw[AR ah,EW hi];unfold BK.J5 BK.J6;have:((w:Int)==0)=(w==0):=(by rw[Bool.eq_iff_iff,AAb,AAb];omega);rw[this];simp only[CO,List.contains_nil,List.length_nil,Nat.add_zero,Bool.or_false];grind
theorem bB.L2(ev:AH)(s:AD)(b:s.dc.AB.length<=1000):∀(n i w:Nat),i<=s.dc.AB.length->s.dc.AB.length<n+i->w<=i->BK.B9 ev s n (w:Int) (i:Int)=some (ev.dm==((w+(CO ev.di i (s.dc.AB.drop i)).length:Nat):Int))|0,i,w,h1,h2,h3=>ah|n+1,i,w,h1,h2,h3=>by unfold BK.B9 BK.L2;by_cases hi:i<s.dc.AB.length;unfold BK.J7 BK.J8;rw[Ay ah,Be hi,AAK,DQ hi,CO,AW (i:=i) ah,AW (i:=w) ah];have a:=λ(w':Nat) h=>bB.L2 ev s b n (i+1) w' ah ah h;rw[a (w+1) ah,a w ah];unfold Hv;grind;rw[AR ah,EW hi];simp[BK.J9,CO]
theorem nO(l:List a):(0+l.length==0)=l.isEmpty:=aA
theorem valued_eq(s:AD)(ev:AH)(f:s.dc.AB.length<=1000)(g:ev.da=3->B4 ev.di s.dg.length)(a:ev.da=23->B4 ev.di s.AM.length):BK s ev=some (Gz s ev):=by have d:=bB.L1 ev s f BQ 0 0 false ah aS ah;have e:=bB.L2 ev s f BQ 0 0 ah aS ah;rw[AAr,nO]at d;rw[AAr,AA6]at e;simp only[Int.natCast_zero,Bool.false_or]at d e;unfold BK BK.J1 BK.J2 BK.OE Gz;by_cases b:ev.da=3;rw[AAQ (by simp[b]),Bv (g b),AAK,AAQ b];rw[AAP am,AAP b];by_cases c:ev.da=23;rw[AAQ (by simp[c]),Bv (a c),AAK,AAQ c];grind
def Dd(wv:AG)(s:AD)(ev:AH):AD:=⟨(DP wv s.dc ev.cT ev.da ev.di (if ev.da=18 then ev.dm else -1)).1,if ev.da=4 then s.dg.set ev.di.toNat ev.dm else s.dg,if ev.da=22 then s.AM.set ev.di.toNat ev.dm else s.AM,s.df.set ev.cT.toNat (A9 (ix s.df ev.cT+1))⟩
def ET(wv:AG)(s:AD)(ev:AH):Bool:=I4 wv s&&(B4 ev.cT wv.AB.length&&(CN wv s.dc ev.cT ev.da ev.di&&(Oq wv ev&&(Ed wv s ev&&Gz s ev))))
def QV(wv:AG)(s:AD)(ev:AH):AD×Bool:=if ET wv s ev=true then(Dd wv s ev,true)else(PB,false)
theorem Hq{s:AD}(h:I4 wv s):HR wv s.dc/\s.dg.length=wv.dg.length/\s.AM.length=wv.AM.length/\s.df.length=wv.AB.length:=by unfold I4 at h;simp_all
theorem UQ(h:A8 wv k o):1<=k/\k<=23:=by unfold A8 at h;grind
theorem dY(wv:AG)(a:Small wv)(s:AD)(k:RB 1000000 s.dc)(ev:AH)(v:K3 ev):CF wv s ev=some (QV wv s ev):=by
 have B:∀b,b=true->CF.J1 ev s wv b=some (PB,false):=by rintro b rfl;rfl
 have q:∀b,b=true->CF.J2 ev s wv b=some (PB,false):=by rintro b rfl;rfl
 unfold CF QV ET;rw[NJ wv a,AAK];cases hf:I4 wv s with|false=>rfl|true=>rw[AAP (c:=(!true)=true) ak,AAj];cases ht:B4 ev.cT wv.AB.length with|false=>rw[Bool.false_and,AAP (c:=false=true) ak];by_cases d:ev.cT<0;simp_all;rw[AR d];by_cases m:ev.cT>=(wv.AB.length:Int);simp_all;exfalso;have:=As.2 ⟨Int.not_lt.1 d,Int.not_le.1 m⟩;simp_all|true=>obtain⟨C,D⟩:=As.1 ht;rw[AR ah,AR ah,AAj];obtain⟨j,E,F,G⟩:=Hq hf;have w:=a.c;have x:=a.f;have y:=a.t;have i:=YY.of a j k;have e:=Nc wv a s.dc (k.mono ah) ev.cT ev.di ev.da;cases lB:CN wv s.dc ev.cT ev.da ev.di with|false=>rw[Bool.false_and,AAP (c:=false=true) ak];by_cases d:ev.da<1;simp_all;rw[AR d];unfold CF.J1;by_cases m:ev.da>23;rw[AAQ am];rfl;grind|true=>have l:=lB;unfold CN at l;simp only[AAL]at l;obtain⟨_,_,g,_⟩:=l;obtain⟨H,I⟩:=UQ g;have o:gt s.df ev.cT=some (ix s.df ev.cT):=Bv am;have z:ev.da=3\/ev.da=4->B4 ev.di wv.dg.length:=(by rintro(h|h)<;>simpa(decide:=true) [A8,h]using g);have p:ev.da=22\/ev.da=23->B4 ev.di wv.AM.length:=(by rintro(h|h)<;>simpa(decide:=true) [A8,h]using g);rw[AR ah];unfold CF.J1;rw[AAP an,e,lB,AAK,AAP (c:=(!true)=true) ak,placed_eq,AAK,AAj];cases hp:Oq wv ev with|false=>rfl|true=>rw[AAP (c:=(!true)=true) ak,cM wv s ev v o z,AAK,AAj];cases hd:Ed wv s ev with|false=>rfl|true=>rw[AAP (c:=(!true)=true) ak,valued_eq s ev i.t (λh=>am) (λh=>am),AAK,AAj];cases hv:Gz s ev with|false=>rfl|true=>(rw[AAQ rfl];unfold CF.J2;have u:∀wake,wake=(if ev.da=18 then ev.dm else -1)->CF.J3 ev s wv wake=some (Dd wv s ev,true):=by rintro wake rfl;unfold CF.J3;rw[Xj wv a s.dc k,AAK];unfold QX;rw[lB,AAQ rfl,AAP ak];unfold Ii slices_Clone_int;rw[Bg ah,AAK,Bg ah,AAK,Bg ah,AAK];unfold CF.J4 Dd;simp only[o,AAK];by_cases r:ev.da=4;rw[AAQ (by simp[r]),Bv am,AAK];simp[r];rw[AAP am];by_cases n:ev.da=22;rw[AAQ (by simp[n]),Bv am,AAK];simp[n];simp_all);grind
theorem U5(c:Int)(l:iT)(f:l.length<4611686018427387904):∀(n i:Nat)(a:Int),i<=l.length->l.length<n+i->(∀(h:0<i)(o:i-1<l.length),a=l[i-1])->(i=0->a=0)->(0<i->1<=a)->D5.AU c l n (i:Int)=some (F9 c a (l.drop i))|0,i,a,h1,h2,_,_,_=>ah|n+1,i,a,h1,h2,h3,h4,h5=>by unfold D5.AU D5.L1;by_cases hi:i<l.length;have k:1<=l[i]->D5.AU c l n ((i+1:Nat):Int)=some (F9 c l[i] (l.drop (i+1))):=λj=>U5 c l f n (i+1) l[i] ah ah (λ_ _=>rfl) ah (λ_=>j);unfold D5.J1;rw[Ay ah,Be hi,AAK,DQ hi,AW ah,F9];by_cases b:l[i]<1;(have:¬a<l[i]:=by by_cases e:i=0;omega;omega);grind;rw[AR b,k ah];by_cases d:l[i]>=c;grind;have m:l[i]<c:=ah;rw[AR d];by_cases e:i=0;grind;have g:=h3 ah ah;rw[Ay ah,CY ah ah,show(i:Int)-1=((i-1:Nat):Int)from by omega,Be ah,AAK,<- g];grind;rw[AR ah,EW hi];rfl
theorem Zg(c:Int)(l:iT)(a:l.length<4611686018427387904):D5 l c=some (F9 c 0 l):=by have:=U5 c l a BQ 0 0 ah aS ah (λ_=>rfl) ah;rw[AAr]at this;exact this
theorem value_eq(s:AD)(ev:AH)(n:s.dc.AB.length<=1000)(j:ev.da=3->B4 ev.di s.dg.length)(a:ev.da=23->B4 ev.di s.AM.length):Gb s ev=some (Gz s ev):=by have l:=Ym s.dc ev.di n;have f:=Vs ev.di s.dc.AB 0;unfold Gb Gb.J1 Gb.J2 Gz;rw[l,AAK,AAK];by_cases d:ev.da=3;rw[AAQ (by simp[d]),Bv (j d),AAK,AAQ d];rw[AAP am,AAP d];by_cases b:ev.da=23;rw[AAQ (by simp[b]),Bv (a b),AAK,AAQ b];rw[AAP am,AAP b];by_cases o:ev.da=5;grind;rw[AAP am,AAP o];by_cases i:ev.da=4;simp[i];have k:(ev.da==4)=false:=(by simpa using i);rw[k];by_cases h:ev.da=22;simp[h];have e:(ev.da==22)=false:=(by simpa using h);rw[e,AAP (c:=ev.da=4\/ev.da=22) ah];simp only[AAU,AAd];by_cases g:ev.da=18;(rw[AAQ (by simp[g]),AAQ g];have m:=Js ev.di s.dc.AB 0;cases hWW:CO ev.di 0 s.dc.AB with|nil=>simp|cons w r=>rw[hWW]at f m;unfold Gb.J3;rw[AAP an,q8 _ _ ah,AAK];grind);grind
theorem Tp(wv:AG)(a:Small wv)(s:AD)(B:RB 1000000 s.dc)(ev:AH)(H:K3 ev):CC wv s ev=some (QV wv s ev):=by unfold CC QV ET;rw[Sy wv a,AAK];cases hf:I4 wv s with|false=>rfl|true=>rw[AAP (c:=(!true)=true) ak,XJ,AAK,AAj];cases ht:B4 ev.cT wv.AB.length with|false=>rfl|true=>rw[AAP (c:=(!true)=true) ak,AAj];obtain⟨y,R,S,T⟩:=Hq hf;have O:=a.c;have P:=a.f;have Q:=a.t;have w:=YY.of a y B;have g:=Oe wv a s.dc (B.mono ah) ev.cT ev.di ev.da;cases lB:CN wv s.dc ev.cT ev.da ev.di with|false=>rw[Bool.false_and,AAP (c:=false=true) ak];by_cases D:ev.da<1;rw[Ay D];rfl;rw[AR D];by_cases E:ev.da>23;rw[Ay E];rfl;rw[AR E,g,lB];rfl|true=>have C:=lB;unfold CN at C;simp only[AAL]at C;obtain⟨_,_,v,_⟩:=C;obtain⟨U,V⟩:=UQ v;have G:gt s.df ev.cT=some (ix s.df ev.cT):=Bv am;have J:ev.da=3\/ev.da=4->B4 ev.di wv.dg.length:=(by rintro(h|h)<;>simpa(decide:=true) [A8,h]using v);have I:ev.da=22\/ev.da=23->B4 ev.di wv.AM.length:=(by rintro(h|h)<;>simpa(decide:=true) [A8,h]using v);rw[AR ah,AR ah,g,lB,AAK,AAj];unfold CC.J1;rw[AAP (c:=(!true)=true) ak];(have N:∀wake,wake=(if ev.da=18 then ev.dm else -1)->CC.J9 ev s wv wake=some (Dd wv s ev,true):=by rintro wake rfl;unfold CC.J9;rw[Tz wv a s.dc B,AAK];unfold QX;rw[lB,AAQ rfl];unfold CC.OE CC.P9 Dd;simp only[G,AAK];by_cases d:ev.da=4;rw[AAQ (by simp[d]),Bv am,AAK];simp[d];rw[AAP (c:=(ev.da==4)=true) am];by_cases F:ev.da=22;rw[AAQ (by simp[F]),Bv am,AAK];simp[F];simp_all);(have u:∀b,CC.J8 ev s wv b=if b=true then some (PB,false)else some (Dd wv s ev,true):=by intro b;unfold CC.J8;cases b with|true=>rfl|false=>rw[AAP (c:=false=true) ak,Bg ah,Bg ah,Bg ah,AAP (c:=false=true) ak];grind);(have o:∀b,CC.J7 ev s wv b=if(!b&&(F9 (ix s.df ev.cT) 0 ev.D4&&(F9 (ix s.df ev.cT) 0 ev.DL&&Gz s ev)))=true then some (Dd wv s ev,true)else some (PB,false):=by intro b;unfold CC.J7;rw[G,AAK,Zg _ _ H.1,AAK,Zg _ _ H.2,AAK,value_eq s ev w.t (λh=>am) (λh=>am),AAK];simp only[u];cases b<;>cases F9 (ix s.df ev.cT) 0 ev.D4<;>cases F9 (ix s.df ev.cT) 0 ev.DL<;>cases Gz s ev<;>rfl);(have n:∀b,CC.J6 ev s wv b=if(!b&&((ev.DL.isEmpty||(ev.da==4||ev.da==22))&&(F9 (ix s.df ev.cT) 0 ev.D4&&(F9 (ix s.df ev.cT) 0 ev.DL&&Gz s ev))))=true then some (Dd wv s ev,true)else some (PB,false):=by intro b;unfold CC.J6;simp only[o];cases b with|true=>rfl|false=>cases hF:ev.DL with|nil=>simp|cons x r=>grind);(have M:∀b,b=(ev.da==3||ev.da==4)->CC.J5 ev s wv b=if((ev.D4.isEmpty||(ev.da==5||QH wv ev))&&((ev.DL.isEmpty||(ev.da==4||ev.da==22))&&(F9 (ix s.df ev.cT) 0 ev.D4&&(F9 (ix s.df ev.cT) 0 ev.DL&&Gz s ev))))=true then some (Dd wv s ev,true)else some (PB,false):=by rintro b rfl;unfold CC.J5;simp only[n];cases hD:ev.D4 with|nil=>simp|cons x r=>rw[Ay am];by_cases K:ev.da=5;simp[K];by_cases j:ev.da=3;have z:=Bv (l:=wv.dg) (J (.inl j));simp[j,z,QH];by_cases d:ev.da=4;have z:=Bv (l:=wv.dg) (J (.inr d));simp[d,z,QH];simp[K,j,d,QH]);(have m:CC.J4 ev s wv=if(Ed wv s ev&&Gz s ev)=true then some (Dd wv s ev,true)else some (PB,false):=by have e:(Ed wv s ev&&Gz s ev)=((ev.D4.isEmpty||(ev.da==5||QH wv ev))&&((ev.DL.isEmpty||(ev.da==4||ev.da==22))&&(F9 (ix s.df ev.cT) 0 ev.D4&&(F9 (ix s.df ev.cT) 0 ev.DL&&Gz s ev)))):=(by unfold Ed;generalize (ev.D4.isEmpty||(ev.da==5||QH wv ev))=p;generalize (ev.DL.isEmpty||(ev.da==4||ev.da==22))=q;cases p<;>cases q<;>cases F9 (ix s.df ev.cT) 0 ev.D4<;>cases F9 (ix s.df ev.cT) 0 ev.DL<;>rfl);rw[e];unfold CC.J4;by_cases j:ev.da=3;simp_all;grind);(have L:∀b,b=(ev.da==1||ev.da==2)->CC.J2 ev s wv b=if(Oq wv ev&&(Ed wv s ev&&Gz s ev))=true then some (Dd wv s ev,true)else some (PB,false):=by rintro b rfl;unfold CC.J2 CC.J3 Oq;rw[m,XJ,AAK];generalize (Ed wv s ev&&Gz s ev)=q;by_cases k:ev.da=1\/ev.da=2;have:(ev.da==1||ev.da==2):=(by simpa using k);rw[this,AAQ rfl,AAQ k];by_cases i:ev.d8= -1;simp[i];simp[i];rfl;have:(ev.da==1||ev.da==2)=false:=(by simpa using k);rw[this,AAP (c:=false=true) ak,AAP k];cases hi:B4 ev.d8 wv.Bu.length with|false=>rfl|true=>rw[AAP (c:=(!true)=true) ak,Bv hi,AAK];by_cases i:(ix wv.Bu ev.d8).cT=ev.cT;simp[i];simp[i];rfl);grind
theorem RB.HW(h:RB n s)(b:n<=i)(M:Int)(f:AQ->AQ)(c:(f (Abs.ix s.AK M)).Ae.length<=i):RB i (Abs.HW s M f):=by
 intro x a;rcases AA2 a with a|rfl
 exact ABF (h x a) b;exact c
theorem RB.apply(h:RB n s)(wv:AG)(t k o wake:Int):RB (n+1) (DP wv s t k o wake).1:=by
 have c:RB (n+1) s:=h.mono ah;have hi:=λi=>Nat.le_succ_of_le (h.ix i);have key:∀(p:Prop) [Decidable p] (a b:AP×Int),RB (n+1) a.1->RB (n+1) b.1->RB (n+1) (if p then a else b).1:=by intro p _ a b e f;split<;>assumption
 unfold DP;repeat' refine key _ _ _ ?_ ?_
 all_goals first|exact c|exact h.HW ah _ _ (hi _)| (refine h.HW ah _ _ ?_;have:=Vj ((Abs.ix s.AK o).Ae++[t]);have:=h.ix o;grind)| (refine h.HW ah _ _ (ABF (List.length_filter_le _ _) (hi _)))|exact h.HW ah (Abs.ix wv.Aj o).dn (λx=>⟨-1,x.Ae⟩) (hi _)|exact h.HW ah (Abs.ix wv.Aj o).dn (λx=>⟨t,x.Ae⟩) (hi _)| (by_cases d:CO o 0 s.AB=[]<;>simp only[d,AAq,AAd]<;>exact c)
theorem RB.start(wv:AG):RB 0 (NH wv):=by intro x a;have:=List.eq_of_mem_replicate a;simp_all
def lS(e:AH):Bool:=e.da==3||e.da==23
def Jj(l:jo)(t:Int):List Bool:=(l.filter λe=>e.cT==t).map lS
def NK(reads:kj)(k:Int):Bool:=B4 k reads.length&&ix reads k
def UI(pre:jo)(ev:AH):Bool:=ev.D4.all (NK (Jj pre ev.cT))&&ev.DL.all (NK (Jj pre ev.cT))
def aM(x t:Int):Int->List AH->Bool|_,[]=>false|nv,e::r=>if e.cT=t then(nv==x&&lS e)||aM x t (nv+1) r else aM x t nv r
theorem uV(e:AH)(r:jo)(t:Int):Jj (e::r) t=if e.cT=t then lS e::Jj r t else Jj r t:=by unfold Jj;grind
theorem reads.L2(L1:i6)(i:Nat)(k:Int)(l:jo)(a:iT)(t x:Int)(hi:i<=l.length)(hi':i<=1000000)(d:gt a k=some x):∀(n j b:Nat)(ok:Bool),j<=i->i<n+j->b<=j->DX.B9 L1 (i:Int) k l a t n (b:Int) ok (j:Int)=DX.J3 L1 k (ok||aM x t b ((l.take i).drop j))|0,j,b,ok,h1,h2,h3=>ah|n+1,j,b,ok,h1,h2,h3=>by unfold DX.B9 DX.L2;by_cases g:j<i;have f:j<(l.take i).length:=an;have e:=λ(c:Nat) ok' h=>reads.L2 L1 i k l a t x hi hi' d n (j+1) c ok' ah ah h;unfold DX.J1 DX.J2;rw[Ay ah,Be ah,AAK,DQ f,AW (i:=j) ah,AW (i:=b) ah,d,AAK,aM];simp only[List.getElem_take,e (b+1) _ ah,e b _ ah,show((b:Int)+1)=((b+1:Nat):Int)from rfl];unfold lS;grind;rw[AR ah,List.drop_eq_nil_of_le an];simp[aM]
def G3(wv:AG):List AH->AD->List AH->Int×Int|_,_,[]=>(0,0)|pre,s,x::r=>if(ET wv s x&&UI pre x)=true then G3 wv (pre++[x]) (Dd wv s x) r else((pre.length:Int),12)
def Ma(t:Cu):Int×Int:=if t.AA.length>400 then(0,2)else if DA t.db=true then G3 t.db [] (Iu t.db) t.AA else(0,1)
theorem Lp{s:AD}(h:ET wv s g):B4 g.cT wv.AB.length:=by unfold ET at h;simp_all
theorem OH(l:jo)(x:AH)(t:Int):Jj (l++[x]) t=if x.cT=t then Jj l t++[lS x]else Jj l t:=by unfold Jj;grind
theorem Kn(l:jo)(t:Int):(Jj l t).length<=l.length:=by unfold Jj;grind
def gF(t t':AZ):Prop:=FG t'/\t'.L=t.L/\t.At<=t'.At
def gF.trans{b:AZ}(h:gF e b)(k:gF b c):gF e c:=⟨k.1,k.2.1.trans h.2.1,Int.le_trans h.2.2 k.2.2⟩
def HV:AG:=(Gj).getD ⟨[],[],[],[],[],[]⟩
theorem sceneW_ok:DA HV:=by decide +kernel
theorem X8:HV.dg.length=5:=by decide +kernel
theorem dS:HV.AK.length=3:=by decide +kernel
theorem dR:HV.AM.length=1:=by decide +kernel
theorem X9:HV.AB.length=4:=by decide +kernel
theorem rN(wv:AG)(s:AP)(t k o wake:Int):(DP wv s t k o wake).1.AK.length=s.AK.length/\(DP wv s t k o wake).1.Bs.length=s.Bs.length/\(DP wv s t k o wake).1.AB.length=s.AB.length:=by
 have key:∀(p:Prop) [Decidable p] (a b:AP×Int),(a.1.AK.length=s.AK.length/\a.1.Bs.length=s.Bs.length/\a.1.AB.length=s.AB.length)->(b.1.AK.length=s.AK.length/\b.1.Bs.length=s.Bs.length/\b.1.AB.length=s.AB.length)->((if p then a else b).1.AK.length=s.AK.length/\(if p then a else b).1.Bs.length=s.Bs.length/\(if p then a else b).1.AB.length=s.AB.length):=by intro p _ a b d e;split<;>assumption
 unfold DP;repeat' refine key _ _ _ ?_ ?_
 all_goals first|exact⟨rfl,rfl,rfl⟩| (simp only[Jz,HW,List.length_set,AAt,and_self];done)| (by_cases c:CO o 0 s.AB=[]<;>simp only[c,AAq,AAd,Jz,List.length_set,and_self])
theorem sT{s:AD}(h:I4 wv s)(e:AH):I4 wv (Dd wv s e):=by
 obtain⟨a,f,g,i⟩:=Hq h;obtain⟨b,g2,d⟩:=Dn a;have j:wv.Aj.all (λc=>B4 c.dn wv.AK.length):=by unfold HR at a;simp only[AAL]at a;exact a.1
 obtain⟨k,l,m⟩:=rN wv s.dc e.cT e.da e.di (if e.da=18 then e.dm else -1);simp only[I4,HR,Dd,AAL,AAb];grind
def kB:Small HV:=Eh sceneW_ok
structure SC (N:Nat) (s:AD):Prop where
 f:I4 HV s=true
 r:RB N s.dc
theorem SC.len{s:AD}(h:SC n s):s.dc.AB.length=4/\s.dg.length=5/\s.AM.length=1/\s.df.length=4/\s.dc.AK.length=3/\s.dc.Bs.length=1:=by obtain⟨a,d,e,g⟩:=Hq h.f;obtain⟨b,g2,c⟩:=Dn a;have:=X8;have:=dS;have:=dR;have:=X9;omega
def SC.mono{N M:Nat}{s:AD}(h:SC N s)(a:N<=M):SC M s:=⟨h.f,h.r.mono a⟩
theorem SC.step{N:Nat}{s:AD}(h:SC N s)(b:N<=1000){e:AH}(a:K3 e):CX (CC HV s e) λr=>r.2=true->SC (N+1) r.1:=by rw[Tp HV kB s (h.r.mono ah) e a];refine tR ?_;unfold QV;split;exactλ_=>⟨sT h.f e,h.r.apply _ _ _ _ _⟩;simp_all
def mem_set{l:List b}{a x:b}(h:x∈l.set n a):x∈l\/x=a:=AA2 h
theorem Ms[Inhabited b]{l:List b}{a:b}(hi:B4 o l.length)(c:B4 t l.length):ix (l.set o.toNat a) t=if t=o then a else ix l t:=by have hi:=As.1 hi;have c:=As.1 c;unfold ix;grind
theorem ix_map[Inhabited a][Inhabited b]{l:List a}{f:a->b}(c:B4 o l.length):ix (l.map f) o=f (ix l o):=by have c:=As.1 c;have:o.toNat<l.length:=ah;unfold ix;simp_all
structure TI (wv:AG) (B:Int->Prop) (L:List AQ) (u:Int) (x:AL):Prop where
 s:0<=x.dh/\x.dh<=5
 b:B u↔2<=x.dh
 z:u=0->x.dh≠0
 c:x.dh=3\/x.dh=4->B4 x.DS wv.Aj.length=true/\(ix L (ix wv.Aj x.DS).dn).Bw≠u
 n:x.dh≠3->x.dh≠4->x.DS=0
 a:x.dy=true->2<=x.dh
structure LI (wv:AG) (B:Int->Prop) (i:Int) (x:AQ):Prop where
 o:x.Bw≠ -1->B x.Bw
 w:x.Ae≠[]->(ix wv.AK i).RW=true/\x.Bw= -1
 p:x.Ae.Pairwise (· < ·)
 r:∀y∈x.Ae,B y
structure YI (wv:AG) (B:Int->Prop) (s:AP):Prop where
 t:∀u,B4 u wv.AB.length=true->TI wv B s.AK u (ix s.AB u)
 l:∀i,B4 i wv.AK.length=true->LI wv B i (ix s.AK i)
 x:s.Tx≠ -1->B s.Tx
 b:∀u,B u->B4 u wv.AB.length=true
section
variable{wv:AG}{B:Int->Prop}{s:AP}
theorem YI.Jz(h:YI wv B s)(hn:s.AB.length=wv.AB.length){f:AL->AL}(hd:B4 o wv.AB.length)(c:TI wv B s.AK o (f (ix s.AB o))):YI wv B (Jz s o f):=by refine⟨λu a=>?_,h.l,h.x,h.b⟩;show TI wv B s.AK u (ix (s.AB.set o.toNat (f (ix s.AB o))) u);rw[Ms am am];by_cases e:u=o;simp_all;rw[AAP e];exact h.t u a
theorem YI.HW(h:YI wv B s)(p:∀i,B4 i wv.Aj.length->B4 (ix wv.Aj i).dn wv.AK.length)(hn:s.AK.length=wv.AK.length){f:AQ->AQ}(hi:B4 o wv.AK.length)(r:LI wv B o (f (ix s.AK o)))(k:(f (ix s.AK o)).Bw= -1\/(f (ix s.AK o)).Bw=(ix s.AK o).Bw\/B4 (f (ix s.AK o)).Bw wv.AB.length=true/\(ix s.AB (f (ix s.AK o)).Bw).dh=2):YI wv B (HW s o f):=by refine⟨λu m=>?_,λj q=>?_,h.x,h.b⟩;have g:=h.t u m;refine⟨g.s,g.b,g.z,λd=>⟨(g.c d).1,?_⟩,g.n,g.a⟩;have d:(ix s.AB u).dh=3\/(ix s.AB u).dh=4:=d;have v:=p _ (g.c d).1;show(ix (s.AK.set o.toNat (f (ix s.AK o))) (ix wv.Aj (ix s.AB u).DS).dn).Bw≠u;rw[Ms am am];by_cases e:(ix wv.Aj (ix s.AB u).DS).dn=o;(rw[AAQ e];have m:=As.1 m;rcases k with k|k|k);omega;rw[k,<- e];exact(g.c d).2;grind;rw[AAP e];exact(g.c d).2;show LI wv B j (ix (s.AK.set o.toNat (f (ix s.AK o))) j);rw[Ms am am];by_cases e:j=o;simp_all;rw[AAP e];exact h.l j q
theorem YI.congr{a:Int->Prop}(h:YI wv B s)(b:∀u,a u↔B u):YI wv a s:=by have:a=B:=funext λu=>propext (b u);simp_all
end
theorem kH(l:iT):(Ol l).Pairwise (· < ·):=by exact NM l
theorem Y8(h:HR wv s)(t k o wake:Int):HR wv (DP wv s t k o wake).1:=by
  have d:wv.Aj.all (λc=>B4 c.dn wv.AK.length):=by unfold HR at h;simp only[AAL]at h;exact h.1
  have key:∀(p:Prop) [Decidable p] (a b:AP×Int),HR wv a.1->HR wv b.1->HR wv (if p then a else b).1=true:=by intro p _ a b j l;split<;>assumption
  obtain⟨e,f,g⟩:=Dn h;unfold DP;repeat' refine key _ _ _ ?_ ?_
  all_goals first
    |exact h
    | (simp[HR,Jz,HW,d,e,f,g];done)
    | (by_cases i:CO o 0 s.AB=[]
       simp_all;simp[i,HR,Jz,d,e,f,g])
def mutex_of(h:HR wv s):∀o,B4 o wv.Aj.length->B4 (ix wv.Aj o).dn wv.AK.length:=λ_ a=>Fg h a
theorem waits_in(hn:s.AB.length=wv.AB.length)(h:t∈CO o 0 s.AB):B4 t wv.AB.length/\(ix s.AB t).dh=3:=by
 have key:∀(T:kr)(i:Nat)(t:Int),t∈CO o i T->∃x,T[(t-i).toNat]? =some x/\x.dh=3:=by intro T;induction T with|nil=>intro i t h;cases h|cons x r ih=>intro i t h;unfold CO at h;have key:t∈CO o (i+1) r->∃y,(x::r)[(t-i).toNat]? =some y/\y.dh=3:=(by intro h;have d:=(Js o r (i+1) t h).1;obtain⟨y,y1,y2⟩:=ih (i+1) t h;refine⟨y,?_,y2⟩;rw[show(t-(i:Int)).toNat=(t-((i+1:Nat):Int)).toNat+1 from by omega,ABM];exact y1);split at h;(rename_i b;rcases AAk.1 h with rfl|h);refine⟨x,ak,?_⟩;unfold Hv at b;simp_all;simp_all;simp_all
 obtain⟨x,a,e⟩:=key _ _ _ h;have c:=Js o s.AB 0 t h;have a:s.AB[t.toNat]? =some x:=by simpa using a
 refine⟨As.2 ah,?_⟩;unfold ix;simp_all
theorem zV(h:W≠[]):El wake W∈W:=by unfold El;rw[AAP h];split;simp_all;cases W with|nil=>simp_all|cons a r=>simp
theorem YI.apply{B:Int->Prop}(hq:∀o,B4 o wv.Aj.length->(ix wv.AK (ix wv.Aj o).dn).RW=false)(h:YI wv B s)(Z:CN wv s t k o):YI wv (λu=>B u\/u=t) (DP wv s t k o wake).1:=by
 unfold CN at Z;simp only[AAL]at Z;obtain⟨hf,q,d,j⟩:=Z;obtain⟨S,l2,E⟩:=Dn hf;have G:=mutex_of hf;have T:=h.t t q;unfold DP;by_cases N:k=1;rw[AAQ N];have hs:(ix s.AB t).dh=1:=(by simpa[Du,N]using j);have up:∀{u},B u->B u\/u=t:=.inl;refine⟨λu M=>?_,λi hi=>?_,λhx=>up (h.x hx),λu M=>M.elim (h.b u) λe=>e▸q⟩;show TI wv _ s.AK u (ix (s.AB.set t.toNat _) u);rw[Ms am am];have U:=h.t u M;by_cases e:u=t;rw[AAQ e];exact⟨ak,by simp[e],ak,ak,λ_ _=>T.n ah ah,ak⟩;rw[AAP e];exact⟨U.s,by simp[e,U.b],U.z,U.c,U.n,U.a⟩;have L:=h.l i hi;exact⟨λh=>up (L.o h),L.w,L.p,λy m=>up (L.r y m)⟩;rw[AAP N];have K:k≠17->(ix s.AB t).dh=2:=by intro v;unfold Du at j;simp only[AAP N,AAP v,AAL]at j;exact eq_of_beq j.1
 have h4:k=17->(ix s.AB t).dh=4/\(ix s.AB t).DS=o:=by intro v;unfold Du at j;simp only[AAP N,AAQ v,AAL]at j;exact⟨eq_of_beq j.1,eq_of_beq j.2.1⟩
 have F:B t:=T.b.2 ah;refine YI.congr (B:=B) ?_ λu=>⟨λh=>h.elim id λe=>e▸F,.inl⟩;have own:∀{i},B4 i wv.AK.length->(ix s.AK i).Ae=[]->k≠17->YI wv B (Abs.HW s i λx=>⟨t,x.Ae⟩):=λhi QA v=>h.HW G S hi ⟨λ_=>F,λh=>absurd QA h,(h.l _ hi).p,(h.l _ hi).r⟩ (.inr (.inr ⟨q,K v⟩));have off:∀{i},B4 i wv.AK.length->YI wv B (Abs.HW s i λx=>⟨-1,x.Ae⟩):=λhi=>h.HW G S hi ⟨λh=>absurd rfl h,λJ=>⟨((h.l _ hi).w J).1,rfl⟩,(h.l _ hi).p,(h.l _ hi).r⟩ (.inl rfl);by_cases k2:k=2;rw[AAQ k2];have K:=K ah;dsimp only;apply h.Jz E q;exact⟨ak,by simp[F],ak,ak,λ_ _=>T.n ah ah,ak⟩;rw[AAP k2];by_cases V:k=6\/k=10;(rw[AAQ V];have hi:B4 o wv.AK.length:=(by rcases V with rfl|rfl<;>simp[A8]at d<;>exact d.1);refine own hi ?_ ah;rcases V with rfl|rfl);have I:(ix wv.AK o).RW=false:=(by simp[A8]at d;exact d.2);by_cases e:(ix s.AK o).Ae=[];exact e;have:=(h.l o hi).w e;simp_all;simp[Du]at j;grind;rw[AAP V];by_cases k7:k=7\/k=11;(rw[AAQ k7];refine off ?_;rcases k7 with rfl|rfl<;>simp[A8]at d<;>exact d.1);rw[AAP k7];by_cases k8:k=8;(rw[AAQ k8];subst k8;simp[A8]at d;simp[Du]at j;have L:=h.l o d.1;dsimp only;applyλx=>h.HW G S d.1 x (.inr (.inl rfl));refine⟨L.o,λ_=>⟨d.2,j.2.1⟩,kH _,?_⟩;intro y m;have m:y∈(ix s.AK o).Ae++[t]:=(Kp _ y).1 m;rcases AAc.1 m with m|m);exact L.r y m;simp_all;rw[AAP k8];by_cases k9:k=9;rw[AAQ k9];subst k9;simp[A8]at d;have L:=h.l o d.1;dsimp only;applyλx=>h.HW G S d.1 x (.inr (.inl rfl));exact⟨L.o,λJ=>L.w λe=>J (by simp[e]),L.p.sublist List.filter_sublist,λy m=>L.r y (List.mem_filter.1 m).1⟩;rw[AAP k9];by_cases qB:k=12;rw[AAQ qB];exact⟨h.t,h.l,λ_=>F,h.b⟩;rw[AAP qB];by_cases P:k=13;rw[AAQ P];exact⟨h.t,h.l,λh=>absurd rfl h,h.b⟩;rw[AAP P];by_cases Q:k=14;rw[AAQ Q];have K:=K ah;dsimp only;apply h.Jz E q;exact⟨T.s,T.b,T.z,T.c,T.n,λ_=>am⟩;rw[AAP Q];by_cases R:k=15;rw[AAQ R];dsimp only;apply h.Jz E q;exact⟨T.s,T.b,T.z,T.c,T.n,λh=>by cases h⟩;rw[AAP R];by_cases W:k=16;rw[AAQ W];have H:B4 o wv.Aj.length:=(by simpa[A8,W]using d);have g:=G o H;dsimp only;apply(off g).Jz E q;refine⟨ak,by simp[F],ak,λ_=>⟨H,?_⟩,ak,ak⟩;show(ix (s.AK.set _ _) _).Bw≠t;rw[Ms am am,AAQ rfl];have:=As.1 q;grind;rw[AAP W];by_cases v:k=17;rw[AAQ v];have H:B4 o wv.Aj.length:=(by simpa[A8,v]using d);have g:=G o H;have m:=h.Jz E q (f:=λx=>⟨2,0,x.dy⟩) ⟨ak,by simp[F],ak,ak,ak,ak⟩;refine m.HW G S (f:=λx=>⟨t,x.Ae⟩) g ⟨λ_=>F,λJ=>?_,(h.l _ g).p,(h.l _ g).r⟩ (.inr (.inr ⟨q,?_⟩));have I:=((h.l _ g).w J).1;simp_all;show(ix (s.AB.set t.toNat _) t).dh=2;rw[Ms am am,AAQ rfl];rw[AAP v];by_cases b8:k=18;rw[AAQ b8];by_cases hW:CO o 0 s.AB=[];simp_all;simp only[hW,AAd];obtain⟨d1,X⟩:=waits_in E (zV (wake:=wake) hW);have D:=h.t _ d1;apply h.Jz E d1;exact⟨by simp[IP],by simp[IP];exact D.b.2 ah,by simp[IP],λ_=>D.c (.inl X),by simp[IP],by simp[IP]⟩;rw[AAP b8];by_cases v8:k=19;rw[AAQ v8];refine⟨λu M=>?_,h.l,h.x,h.b⟩;show TI wv B s.AK u (ix (s.AB.map (Hg o)) u);rw[ix_map am];have U:=h.t u M;unfold Hg;by_cases I:Hv (ix s.AB u) o=true;have X:(ix s.AB u).dh=3:=(by unfold Hv at I;simp only[AAL]at I;exact eq_of_beq I.1);rw[AAQ I];exact⟨by simp[IP],by simp[IP];exact U.b.2 ah,by simp[IP],λ_=>U.c (.inl X),by simp[IP],by simp[IP]⟩;simp_all;rw[AAP v8];by_cases C:k=20;rw[AAQ C];have H:B4 o wv.AB.length:=(by simpa[A8,C]using d);have O:=h.t o H;have hs:(ix s.AB o).dh=0:=(by simp[Du,C]at j;exact j.2.2);have nb:¬B o:=λh=>(by have:=O.b.1 h;omega);dsimp only;apply h.Jz E H;exact⟨ak,by simp[nb],ak,ak,λ_ _=>O.n ah ah,λh=>by have:=O.a h;omega⟩;rw[AAP C];by_cases cW:k=22;rw[AAQ cW];exact⟨h.t,h.l,h.x,h.b⟩;simp_all
def begB(wv:AG)(c:iT)(u:Int):Prop:=B4 u wv.AB.length=true/\1<=ix c u
structure WI (wv:AG) (pre:List AH) (s:AD):Prop where
 f:I4 wv s=true
 c:∀u,B4 u wv.AB.length=true->ix s.df u=((Jj pre u).length:Int)
 m:s.df.sum=(pre.length:Int)
 y:YI wv (begB wv s.df) s.dc
 d:∀i,B4 i wv.AM.length=true->ix s.dc.Bs i=false->ix s.AM i=0
theorem sum_set:∀{i:Nat}{x:Int},i<l.length->(l.set i x).sum=l.sum+(x-l.getD i 0):=by induction l with|nil=>simp_all|cons a r ih=>intro i x h;cases i with|zero=>simp;omega|succ i=>grind
theorem ZP[Inhabited b]{a:b}(h:B4 o n):ix (List.replicate n a) o=a:=by have:=As.1 h;unfold ix;simp_all
theorem RU(h:DA wv):wv.Aj.all (Qb wv)/\1<=wv.AB.length:=by unfold DA at h;grind
theorem TL(h:DA wv):∀o,B4 o wv.Aj.length->(ix wv.AK (ix wv.Aj o).dn).RW=false:=by intro o b;have a:=(RU h).1;have:=As.1 b;have c:o.toNat<wv.Aj.length:=ah;have:=AAS.1 a (ix wv.Aj o) (by unfold ix;simp_all);unfold Qb at this;simp_all
theorem WI.start(h:DA wv):WI wv [] (Iu wv):=by
 have l:=Eh h;have b:=TL h;have j:=(RU h).2;have d:∀u,¬begB wv (Iu wv).df u:=λu ⟨a,k⟩=>by have:ix (Iu wv).df u=0:=ZP a;omega
 have f:wv.Aj.all (λc=>B4 c.dn wv.AK.length):=by have b:=(RU h).1;refine AAS.2 λx g=>?_;have:=AAS.1 b x g;unfold Qb at this;simp only[AAL]at this;exact this.1
 refine⟨?_,λu a=>ZP a,?_,⟨λu a=>?_,λi hi=>?_,λh=>absurd rfl h,λu a=>a.1⟩,λi hi _=>ZP hi⟩;unfold I4 HR Iu NH;simp[f];show(List.replicate wv.AB.length (0:Int)).sum=0;simp_all;show TI wv _ _ u (ix ((List.replicate wv.AB.length (⟨0,0,false⟩:AL)).set (0:Int).toNat ⟨1,0,false⟩) u);rw[Ms (As.2 an) am];by_cases e:u=0;rw[AAQ e];exact⟨ak,by simp[d],ak,ak,ak,ak⟩;rw[AAP e,ZP a];exact⟨ak,by simp[d],λh=>absurd h e,ak,ak,ak⟩;show LI wv _ i (ix (List.replicate wv.AK.length (⟨-1,[]⟩:AQ)) i);rw[ZP hi];exact⟨ak,ak,ak,ak⟩
theorem WI.next{s:AD}{e:AH}(D:∀o,B4 o wv.Aj.length->(ix wv.AK (ix wv.Aj o).dn).RW=false)(h:WI wv j s)(G:j.length<=100000)(C:ET wv s e):WI wv (j++[e]) (Dd wv s e):=by
 have q:=C;unfold ET at q;simp only[AAL]at q;obtain⟨B,n,l,_,_,_⟩:=q;obtain⟨f1,f2,f3,f4⟩:=Hq B;obtain⟨I,J,K⟩:=Dn f1;have E:=Kn j e.cT;have v:=h.c e.cT n;have w:A9 (ix s.df e.cT+1)=((Jj j e.cT).length:Int)+1:=by rw[v,CY ah ah]
 have r:∀u,B4 u wv.AB.length->ix (Dd wv s e).df u=if u=e.cT then((Jj j e.cT).length:Int)+1 else ix s.df u:=by intro u f;show ix (s.df.set e.cT.toNat _) u=_;rw[Ms am am,w]
 refine⟨?_,λu f=>?_,?_,?_,λi hi hd=>?_⟩;have:=Y8 f1 e.cT e.da e.di (if e.da=18 then e.dm else -1);unfold I4 Dd;grind;rw[r u f,OH];by_cases pre:u=e.cT;simp_all;rw[AAP pre,AAP (λh=>pre h.symm),h.c u f];show(s.df.set e.cT.toNat _).sum=_;have hi:=As.1 n;have:ix s.df e.cT=s.df.getD e.cT.toNat 0:=(by unfold ix;rw[List.getD_eq_getElem?_getD];rfl);rw[sum_set ah,h.m,w,<- this,v];simp;omega;refine(h.y.apply D l (wake:=if e.da=18 then e.dm else -1)).congr λu=>?_;constructor;rintro⟨f,k⟩;rw[r u f]at k;by_cases pre:u=e.cT;omega;rw[AAP pre]at k;exact .inl ⟨f,k⟩;rintro(⟨f,k⟩|rfl);refine⟨f,?_⟩;grind;refine⟨n,?_⟩;grind;(. (unfold CN at l;simp only[AAL]at l;obtain⟨_,_,t,E⟩:=l;have x:(DP wv s.dc e.cT e.da e.di (if e.da=18 then e.dm else -1)).1.Bs=if e.da=22 then s.dc.Bs.set e.di.toNat true else s.dc.Bs:=by unfold DP;by_cases g:e.da=22;simp[g];(. (rw[AAP g,AAP g];have key:∀(p:Prop) [Decidable p] (a b:AP×Int),a.1.Bs=s.dc.Bs->b.1.Bs=s.dc.Bs->(if p then a else b).1.Bs=s.dc.Bs:=by intro p _ a b t F;split<;>assumption);(repeat' refine key _ _ _ ?_ ?_);all_goals first|rfl| (by_cases z:CO e.di 0 s.dc.AB=[]<;>simp only[z,AAq,AAd]<;>rfl)));(have hd:ix (if e.da=22 then s.dc.Bs.set e.di.toNat true else s.dc.Bs) i=false:=by rw[<- x];exact hd);show ix (if e.da=22 then s.AM.set e.di.toNat e.dm else s.AM) i=0;by_cases g:e.da=22;rw[AAQ g]at hd |-;have H:B4 e.di wv.AM.length:=(by simpa[A8,g]using t);rw[Ms am am]at hd;rw[Ms am am];by_cases pre:i=e.di;simp_all;rw[AAP pre]at hd |-;exact h.d i hi hd;rw[AAP g]at hd |-;exact h.d i hi hd)
def Gm(f:j4):Nat->Nat->Bool|_,0=>true|i,k+1=>f i&&Gm f (i+1) k
theorem I8:∀{k i:Nat},Gm p i k=true↔∀j,i<=j->j<i+k->p j=true|0,i=>by simp[Gm];omega|k+1,i=>by unfold Gm;rw[AAL,I8];grind
theorem Yn(f g:j4):∀k i:Nat,Gm (λj=>f j&&g j) i k=(Gm f i k&&Gm g i k)|0,i=>rfl|k+1,i=>by unfold Gm;rw[Yn f g k (i+1)];grind
def I1(c:iT)(t:Int):Bool:=B4 t c.length&&decide (1<=ix c t)
def Lm(w:AF):Bool:=Gm (λi=>decide (0<=ix w.de.df i)&&decide (ix w.de.df i<=400)) 0 w.de.df.length&&(w.eu==w.de.df.sum&&decide (w.de.df.sum+w.AA.length<=400))
def Vz(x:AL):Bool:=x.dh==3||x.dh==4
def Ox(w:AF)(i:Nat)(x:AL):Bool:=(decide (0<=x.dh)&&decide (x.dh<=5))&&((decide (x.dh<=1)==(ix w.de.df i==0))&&(!(i==0&&x.dh==0)&&(if Vz x=true then B4 x.DS w.db.Aj.length else x.DS==0)))
def YK(w:AF)(i:Nat)(x:AL):Bool:= !Vz x||(ix w.de.dc.AK (ix w.db.Aj x.DS).dn).Bw != (i:Int)
def Ns(w:AF)(i:Nat)(x:AL):Bool:= !x.dy||I1 w.de.df i
def I7(c:iT):Int->List Int->Bool|_,[]=>true|last,t::r=>decide (last<t)&&(I1 c t&&I7 c t r)
def Ny(w:AF)(i:Nat)(x:AQ):Bool:=(x.Bw== -1||I1 w.de.df x.Bw)&&((x.Ae.isEmpty||((ix w.db.AK i).RW&&x.Bw== -1))&&I7 w.de.df (-1) x.Ae)
def txW(w:AF):Bool:=w.de.dc.Tx== -1||I1 w.de.df w.de.dc.Tx
def eF(w:AF)(i:Nat):Bool:=ix w.de.dc.Bs i||ix w.de.AM i==0
def JW(c:Int)(reads:kj)(k:Int):Bool:=decide (k<c)||NK reads (k-c)
def bZ(c:iT)(pre:jo)(x:AH):Bool:=x.D4.all (JW (ix c x.cT) (Jj pre x.cT))&&x.DL.all (JW (ix c x.cT) (Jj pre x.cT))
def XU(wv:AG)(c:iT):List AH->AD->List AH->Bool|_,_,[]=>true|pre,s,x::r=>ET wv s x&&(bZ c pre x&&XU wv c (pre++[x]) (Dd wv s x) r)
abbrev JJ(w:AF)(i:Nat):AL:=ix w.de.dc.AB i
def T4(w:AF):Bool:=Lm w&&(Gm (λi=>Ox w i (JJ w i)) 0 w.de.dc.AB.length&&(Gm (λi=>YK w i (JJ w i)) 0 w.de.dc.AB.length&&(Gm (λi=>Ny w i (ix w.de.dc.AK i)) 0 w.de.dc.AK.length&&(txW w&&(Gm (λi=>Ns w i (JJ w i)) 0 w.de.dc.AB.length&&Gm (eF w) 0 w.de.AM.length)))))
def KG(w:AF):Bool:=DA w.db&&(I4 w.db w.de&&(decide (w.AA.length<=16)&&(T4 w&&XU w.db w.de.df [] w.de w.AA)))
theorem rdB_app(a b:jo)(t:Int):Jj (a++b) t=Jj a t++Jj b t:=by unfold Jj;simp_all
def Jr(t:Cu)(n:Nat):AD:=(t.AA.take n).foldl (Dd t.db) (Iu t.db)
theorem Sk{t:Cu}(h:n<t.AA.length):Jr t (n+1)=Dd t.db (Jr t n) t.AA[n]:=by unfold Jr;rw[<- AAn h,List.foldl_append];rfl
theorem yC{t:Cu}(d:DA t.db)(g:t.AA.length<=400)(e:G3 t.db [] (Iu t.db) t.AA=(0,0)):∀n,n<=t.AA.length->WI t.db (t.AA.take n) (Jr t n)/\G3 t.db (t.AA.take n) (Jr t n) (t.AA.drop n)=(0,0):=by have f:=TL d;intro n;induction n with|zero=>intro _;exact⟨WI.start d,e⟩|succ n ih=>intro hn;obtain⟨a,b⟩:=ih ah;rw[ABH ah,G3]at b;split at b;rename_i c;rw[AAL]at c;rw[Sk ah,<- AAn ah];exact⟨a.next f an c.1,b⟩;simp_all
end
end Go.Abs
