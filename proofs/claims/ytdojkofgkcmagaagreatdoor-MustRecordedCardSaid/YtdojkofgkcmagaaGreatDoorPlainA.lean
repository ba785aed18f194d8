/- What the typed programs give, in plain Lean. -/
import Derived.Test.YtdojkofgkcmagaaGreatDoorWalkN
import Derived.Lib.SlicesCompact
import Derived.Shelf.Slices.SearchI
set_option linter.all false
namespace Go.Abs
def CD{n:Int}(h: -9223372036854775808<=n)(a:n<9223372036854775808):A8 n=n:=by simp only[A8,IntKind.wrap,IntKind.bits,IntKind.signed];simp;omega
variable{i:Nat}
theorem AX(h:i<9223372036854775807):A8 ((i:Int)+1)=((i+1:Nat):Int):=by rw[CD ah ah];rfl
variable{a:Type}
theorem Jv(l:List a)(i:Nat):gt l (i:Int)=l[i]? :=by simp[gt]
theorem Bm{l:List a}(h:i<l.length):gt l (i:Int)=some l[i]:=by rw[Jv];simp[h]
def CC(i:Int)(n:Nat):Bool:=decide (0<=i)&&decide (i<(n:Int))
def br{p:Prop}(h:p:=by simp[CC];omega):p:=h
def ix[Inhabited a](l:List a)(i:Int):a:=(l[i.toNat]?).getD default
variable{o:Int}{n:Nat}
theorem A0:CC o n=true↔0<=o/\o<n:=by simp[CC]
theorem Bz[Inhabited a]{l:List a}(h:CC o l.length):gt l o=some (ix l o):=by obtain⟨b,c⟩:=A0.1 h;have:o.toNat<l.length:=ah;simp[gt,ix,b,this]
theorem DC[Inhabited a]{l:List a}(h:i<l.length):ix l (i:Int)=l[i]:=by simp[ix,h]
theorem Bq(h:n*i<=70368744177664):Ap n i:=by simp[Ap,h]
def Bb{x y:a}(h:n*i<=70368744177664):(if Ap n i=true then x else y)=x:=AAM (Bq h)
variable{p:Prop}
theorem A6[Decidable p]{x y:a}(h:p):(if decide p=true then x else y)=x:=by rw[AAM (by simpa using h)]
theorem Aa[Decidable p]{x y:a}(h:¬p):(if decide p=true then x else y)=y:=by rw[AAL (by simpa using h)]
def D1{l:List a}(h:i<l.length):l.drop i=l[i]::l.drop (i+1):=AA8 h
theorem Et{l:List a}(h:¬i<l.length):l.drop i=[]:=List.drop_eq_nil_of_le ah
theorem BK:BQ=18446744073709551616:=rfl
def bh{p:Prop}(h:p:=by have:=BK;omega):p:=h
variable{l:Int->Prop}
theorem kinds(N:l 1)(O:l 2)(Q:l 3)(R:l 4)(S:l 5)(T:l 6)(U:l 7)(V:l 8)(W:l 9)(m:l 10)(n:l 11)(o:l 12)(p:l 13)(q:l 14)(r:l 15)(s:l 16)(t:l 17)(u:l 18)(v:l 19)(w:l 20)(x:l 21)(y:l 22)(z:l 23)(X:∀k,k≠1->k≠2->k≠3->k≠4->k≠5->k≠6->k≠7->k≠8->k≠9->k≠10->k≠11->k≠12->k≠13->k≠14->k≠15->k≠16->k≠17->k≠18->k≠19->k≠20->k≠21->k≠22->k≠23->l k)(k:Int):l k:=by by_cases B:k=1;exact B▸N;by_cases C:k=2;exact C▸O;by_cases D:k=3;exact D▸Q;by_cases E:k=4;exact E▸R;by_cases F:k=5;exact F▸S;by_cases G:k=6;exact G▸T;by_cases H:k=7;exact H▸U;by_cases I:k=8;exact I▸V;by_cases J:k=9;exact J▸W;by_cases a:k=10;exact a▸m;by_cases b:k=11;exact b▸n;by_cases M:k=12;exact M▸o;by_cases c:k=13;exact c▸p;by_cases d:k=14;exact d▸q;by_cases e:k=15;exact e▸r;by_cases L:k=16;exact L▸s;by_cases f:k=17;exact f▸t;by_cases g:k=18;exact g▸u;by_cases h:k=19;exact h▸v;by_cases K:k=20;exact K▸w;by_cases i:k=21;exact i▸x;by_cases j:k=22;exact j▸y;by_cases P:k=23;exact P▸z;exact X k B C D E F G H I J a b M c d e L f g h K i j P
variable{b:Type}{c:Bool}{d:jt}{x:ABj}{k:mA}{m:AP}{f:j9}{j:Ba}
section
set_option maxHeartbeats 4000000
def Bp(o:ABi a)(Q:a->Prop):Prop:=∃r,o=some r/\Q r
def tR{r:a}{Q:a->Prop}(h:Q r):Bp (some r) Q:=⟨r,rfl,h⟩
theorem tB{o:ABi a}{Q:a->Prop}{f:a->ABi b}{R:b->Prop}(h:Bp o Q)(k:∀x,Q x->Bp (f x) R):Bp (o.bind f) R:=by obtain⟨x,rfl,c⟩:=h;exact k x c
theorem tG{l:List a}{f:a->ABi b}{R:b->Prop}(h:0<=o/\o<(l.length:Int))(k:∀x,x∈l->Bp (f x) R):Bp ((gt l o).bind f) R:=by obtain⟨n,rfl⟩:∃n:Nat,o=n:=⟨o.toNat,ah⟩;have hn:n<l.length:=ah;rw[Bm hn,AAG];exact k _ (AAS hn)
theorem tC[Decidable p]{a:ABi b}{R:b->Prop}(h:p)(k:Bp a R):Bp (if p then a else none) R:=by rw[AAM h];exact k
theorem tI{d b:ABi a}{R:a->Prop}(e:c=true->Bp d R)(f:c=false->Bp b R):Bp (if c=true then d else b) R:=by cases c with|true=>simpa using e rfl|false=>simpa using f rfl
theorem tM{o:ABi a}{Q R:a->Prop}(h:Bp o Q)(k:∀x,Q x->R x):Bp o R:=by obtain⟨x,e,b⟩:=h;exact⟨x,e,k x b⟩
structure Dn (t:AZ):Prop where
 l:t.L.length<=4000000000000000000
 a:0<=t.At/\t.At<=t.L.length
 u:∀x∈t.L,0<=x/\x<256
theorem Ho{t:AZ}(b:Dn t){n:Int}(hn:0<n/\n<1000):Bp (Aq t n) λr=>(0<=r.1/\r.1<n)/\Dn r.2:=by have e:=b.l;have f:=b.a;unfold Aq Aq.J1;rw[CD (n:=t.At+1) ah ah,CD (n:=t.At+1-1) ah ah];refine tI (λ_=>?_) λh=>?_;(exact tI (λ_=>tR ⟨⟨ah,hn.1⟩,b⟩) λh=>by cases h);have d:¬t.At>=(t.L.length:Int):=(by simpa using h);refine tI (λh=>absurd (AAQ h) ah) λ_=>?_;refine tG ah λx c=>tC ah (tR ⟨?_,b.l,aS,b.u⟩);have c:=b.u x c;rw[CD ah ah];exact⟨Int.tmod_nonneg _ c.1,Int.tmod_lt_of_pos _ hn.1⟩
def qS:ABj:=⟨#[113]⟩
def vN:List ABj:=[⟨#[97]⟩,⟨#[98]⟩,⟨#[120]⟩,⟨#[121]⟩,⟨#[118]⟩]
theorem ZB{l:jt}(h:(l.all λx=>d.any λy=>decide (x=y)))(c:x∈l):x∈d:=by obtain⟨y,a,b⟩:=List.any_eq_true.1 (AAP.1 h x c);rw[AAQ b];exact a
theorem aU(h:(vN.any λy=>decide (x=y))):x∈vN:=ZB (l:=[x]) (by simpa using h) (AAc.2 rfl)
def VZ:Nat->Ba->Prop|0,_=>False|n+1,e=>e.Op=1/\e.L=[]\/(e.Op=2/\e.L=[]/\e.dv∈vN)\/(e.Op=3/\e.dv=qS/\∃a,e.L=[a]/\VZ n a)\/(e.Op∈[(6:Int),7,8,11,13,17]/\∃a b,e.L=[a,b]/\VZ n a/\VZ n b)
theorem okE_mono:∀{e:Ba},VZ n e->VZ (n+1) e:=by
 induction n with
 |zero=>exactλh=>h.elim
 |succ n ih=>
  intro e h;rcases h with h|h|⟨c,d,a,f,g⟩|⟨c,a,b,d,f,g⟩
  exact .inl h;exact .inr (.inl h);exact .inr (.inr (.inl ⟨c,d,a,f,ih g⟩));exact .inr (.inr (.inr ⟨c,a,b,d,ih f,ih g⟩))
def X4(m m':AP):Prop:=Dn m'.t/\m'={m with t:=m'.t}
theorem Wp(d:Dn f.2)(C:0<=f.1/\f.1<10)(h:c=false->7<=f.1->∀R v,(v=0\/v=A8 (o-1))->Dn R.t->Bp (k R v) λr=>VZ i r.1/\X4 R r.2):Bp (Dg.J1 k o m f c) λr=>VZ (i+1) r.1/\X4 m r.2:=by unfold Dg.J1 K5 Jn JZ;simp only[AAG];refine tI (λ_=>?_) λu=>tI (λ_=>?_) λl=>?_;refine tB (Ho d ah) ?_;rintro n ⟨_,b⟩;exact tR ⟨.inl ⟨rfl,rfl⟩,b,rfl⟩;refine tB (Ho d ah) ?_;rintro n ⟨g,b⟩;exact tG g λx j=>tR ⟨.inr (.inl ⟨rfl,rfl,ZB bg j⟩),b,rfl⟩;have l:=ABK l;have h:=h u ah;refine tI (λ_=>?_) λ_=>?_;refine tB (h _ _ (.inl rfl) d) ?_;rintro e ⟨b,q,s⟩;exact tR ⟨.inr (.inr (.inl ⟨rfl,rfl,_,rfl,b⟩)),q,by rw[s]⟩;refine tB (Ho d ah) ?_;rintro n ⟨g,b⟩;refine tG g λx j=>tB (h _ _ (.inr rfl) b) ?_;rintro e ⟨a,g2,p⟩;refine tB (h _ _ (.inr rfl) g2) ?_;rintro B ⟨w,y,z⟩;exact tR ⟨.inr (.inr (.inr ⟨j,_,_,rfl,a,w⟩)),y,by rw[z,p]⟩
theorem okE_le(h:i<=n)(c:VZ i j):VZ n j:=by induction h with|refl=>exact c|step _ ih=>exact okE_mono ih
theorem Wo(hn:0<n)(c:Dn m.t):Bp (Cm n m 0) λr=>VZ 1 r.1/\X4 m r.2:=by obtain⟨n,rfl⟩:∃k,n=k+1:=⟨n-1,ah⟩;show Bp (Dg (Cm n) m 0) _;unfold Dg;refine tB (Ho c ah) ?_;rintro v ⟨b,a⟩;refine tI (λ_=>Wp a b bk) λ_=>tI (λ_=>Wp a b λh d=>?_) λh=>?_;exact absurd (ABK h) ah;simp at h
theorem expr_tot(d:Nat):∀(n:Nat)(m:AP),d<n->d<100->Dn m.t->Bp (Cm n m d) λr=>VZ (d+1) r.1/\X4 m r.2:=by
 induction d with
 |zero=>exactλn m hn _ a=>Wo hn a
 |succ d ih=>
  intro n m hn hd a;obtain⟨n,rfl⟩:∃k,n=k+1:=⟨n-1,ah⟩;show Bp (Dg (Cm n) m _) _;unfold Dg;refine tB (Ho a ah) ?_;rintro v ⟨g,e⟩;have key:∀c,Bp (Dg.J1 (Cm n) ((d+1:Nat):Int) m v c) λr=>VZ (d+1+1) r.1/\X4 m r.2:=by(intro c;refine Wp e g λ_ _ i j f b=>?_;rcases f with rfl|rfl);exact tM (Wo ah b) λr h=>⟨okE_le ah h.1,h.2⟩;rw[CD ah ah,show((d+1:Nat):Int)-1=(d:Int)from by omega];exact ih n i ah ah b
  exact tI (λ_=>key _) λ_=>tI (λ_=>key _) λ_=>key _
theorem La(hd:o=0\/o=1)(a:Dn m.t):Bp (Cm BQ m o) λr=>VZ 2 r.1/\X4 m r.2:=by
 have b:=BK;rcases hd with rfl|rfl
 exact tM (Wo ah a) λr h=>⟨okE_le ah h.1,h.2⟩;exact expr_tot 1 BQ m ah ah a
theorem PW(l:jt)(s:ABj)(d:l.length<1000000):Bp (Cv l s) λr=> -1<=r/\r<l.length:=by
 have c:=BK;have key:∀n (i:Nat),l.length<n+i->i<=l.length->Bp (Cv.AR l s n i) λr=> -1<=r/\r<l.length:=by intro n;induction n with|zero=>intro i a b;omega|succ n ih=>intro i a b;unfold Cv.AR Cv.L1 Cv.J1;refine tI (λh=>?_) λ_=>tR ah;have h:=AAQ h;refine tG ah λx _=>tI (λ_=>tR ah) λ_=>?_;rw[AX ah];exact ih (i+1) ah ah
 exact key BQ 0 ah ah
theorem SW(a:m.eb.length<1000)(s:ABj):Bp (EV m s) λr=>r.2=m:=by unfold EV;exact tB (PW _ _ ah) λ_ _=>tR rfl
end
theorem lZ{a b:i6}(d:a.Pairwise (· < ·))(f:b.Pairwise (· < ·))(h:∀x,x∈a↔x∈b):a=b:=by induction a generalizing b with|nil=>(cases b with|nil=>rfl|cons y b=>have:=(h y).2 ak;grind)|cons x a ih=>cases b with|nil=>grind|cons y b=>(rw[ABg]at d f;have g:x=y:=by(have c:=(h x).1 ak;have i:=(h y).2 ak;rcases AAg.1 c with e|c);exact e;grind);grind
theorem Tq(d:Array Int)(hd:∀i j,i<=j->j<d.size->d[i]! <=d[j]!):∀m,m<=d.size->(∀x,x∈Lib.compactUpTo d m↔∃i,i<m/\d[i]! =x)/\(Lib.compactUpTo d m).Pairwise (· < ·):=by intro m;induction m with|zero=>intro _;exact⟨λx=>by simp[Lib.compactUpTo],by simp[Lib.compactUpTo]⟩|succ m ih=>intro n;obtain⟨g,b⟩:=ih ah;rw[Lib.compactUpTo_succ];by_cases a:Lib.keeps d m=true;rw[AAM a];refine⟨λx=>?_,?_⟩;grind;rw[List.pairwise_append];refine⟨b,ak,λx h y c=>?_⟩;rw[AAc]at c;subst c;obtain⟨i,hi,e⟩:=(g x).1 h;have f:m=0\/d[m]! ≠d[m-1]! :=(by simpa[Lib.keeps]using a);have k:=hd i (m-1) ah ah;have l:=hd (m-1) m ah ah;omega;rw[AAL a,ABc];refine⟨λx=>?_,b⟩;have f:¬(m=0\/d[m]! ≠d[m-1]!):=(by simpa[Lib.keeps]using a);grind
def TS(l:i6):List Int:=l.mergeSort λx y=>decide (x<=y)
def PS(l:i6):List Int:=Lib.compact (TS l)
theorem VR(l:i6):(TS l).length=l.length:=by simp[TS]
theorem mem_msort(l:i6)(x:Int):x∈TS l↔x∈l:=by simp[TS]
theorem VS(l:i6):(TS l).Pairwise (· <= ·):=by have:=List.pairwise_mergeSort (le:=λx y:Int=>decide (x<=y)) an an l;simpa[TS]using this
theorem TN(l:i6)(h:l.Pairwise (· <= ·)):(∀x,x∈Lib.compact l↔x∈l)/\(Lib.compact l).Pairwise (· < ·):=by
 have hd:∀i j,i<=j->j<l.toArray.size->l.toArray[i]! <=l.toArray[j]! :=by
  intro i j b f;have c:j<l.length:=by simpa using f
  rcases Nat.lt_or_eq_of_le b with a|rfl
  have:=List.pairwise_iff_getElem.1 h i j ah c a;grind;omega
 obtain⟨a,d⟩:=Tq l.toArray hd l.length ak;refine⟨λx=>?_,d⟩;show x∈Lib.compactUpTo l.toArray l.length↔_;rw[a x,List.mem_iff_getElem];constructor;grind;rintro⟨i,hi,e⟩;exact⟨i,hi,am⟩
theorem wK(l:i6):(Lib.compact l).length<=l.length:=by unfold Lib.compact Lib.compactUpTo;grind
theorem Kp(l:i6)(x:Int):x∈PS l↔x∈l:=by unfold PS;rw[(TN _ (VS l)).1,mem_msort]
def Mt(l:i6):(PS l).Pairwise (· < ·):=(TN _ (VS l)).2
theorem WE(l:i6):(PS l).length<=l.length:=by have:=wK (TS l);rw[VR]at this;exact this
def Im(out:i6)(x:Int):Nat:=(out.takeWhile λy=>decide (y<x)).length
def ins(out:i6)(x:Int):List Int:=if out[Im out x]? =some x then out else out.take (Im out x)++x::out.drop (Im out x)
theorem jK(out:i6)(x:Int)(i:Nat)(hi:i<=out.length)(a:∀(k:Nat)(b:k<out.length),k<i->out[k]<x)(e:∀(d:i<out.length),¬out[i]<x):Im out x=i:=by unfold Im;induction out generalizing i with|nil=>simp_all|cons y out ih=>by_cases f:y<x;(cases i with|zero=>simp_all|succ i=>rw[List.takeWhile_cons_of_pos am,ABL];rw[ih i am (λk b c=>aA) (λd=>am)]);cases i with|zero=>simp_all|succ i=>have:=a 0 ak ah;grind
theorem aB(out:i6)(x:Int):(ins out x).length<=out.length+1:=by unfold ins;grind
def insAll(l:i6):List Int:=l.foldl ins []
theorem ins_facts(out:i6)(x:Int)(h:out.Pairwise (· < ·)):(ins out x).Pairwise (· < ·)/\∀z,z∈ins out x↔z∈out\/z=x:=by
 have key:∀(out:i6),out.Pairwise (· < ·)->(∀(k:Nat)(a:k<out.length),k<Im out x->out[k]<x)/\(∀(k:Nat)(a:k<out.length),Im out x<=k->x<=out[k])/\Im out x<=out.length:=by intro out;induction out with|nil=>intro _;simp[Im]|cons y out ih=>intro b;rw[ABg]at b;obtain⟨f,g2,g⟩:=ih b.2;by_cases c:y<x;have e:Im (y::out) x=Im out x+1:=(by unfold Im;rw[List.takeWhile_cons_of_pos (by simp_all)];rfl);grind;have e:Im (y::out) x=0:=(by unfold Im;rw[List.takeWhile_cons_of_neg (by simp_all)];rfl);rw[e];refine⟨λk a j=>ah,λk a _=>?_,ak⟩;cases k with|zero=>simp;omega|succ k=>(have i:k<out.length:=by simpa using a);have:=b.1 out[k] (AAS i);simp;omega
 obtain⟨f,g2,g⟩:=key out h;unfold ins;split;grind;(. rename_i p;have l:out=out.take (Im out x)++out.drop (Im out x):=(ABE _ _).symm;refine⟨?_,λz=>?_⟩;rw[List.pairwise_append,ABg];refine⟨h.sublist (List.take_sublist _ _),⟨λz d=>?_,h.sublist (List.drop_sublist _ _)⟩,λy c z d=>?_⟩;obtain⟨k,a,rfl⟩:=List.mem_iff_getElem.1 d;rw[List.getElem_drop];rw[List.length_drop]at a;have m:=g2 (Im out x+k) ah ah;by_cases q:k=0;grind;have n:=g2 (Im out x) ah ah;have o:=List.pairwise_iff_getElem.1 h (Im out x) (Im out x+k) ah ah ah;omega;obtain⟨k,a,rfl⟩:=List.mem_iff_getElem.1 c;grind;(. rw[AAX,AAg];constructor;all_goals grind))
theorem insAll_eq(l:i6):insAll l=PS l:=by
 have key:∀(l a:i6),a.Pairwise (· < ·)->(l.foldl ins a).Pairwise (· < ·)/\∀z,z∈l.foldl ins a↔z∈a\/z∈l:=by intro l;induction l with|nil=>simp_all|cons x l ih=>intro a h;obtain⟨b,c⟩:=ins_facts a x h;grind
 obtain⟨b,c⟩:=key l [] ak;exact lZ b (Mt l) λz=>by rw[Kp];have:=c z;simpa[insAll]using this
def KT(c:Int):Bool:=(decide (97<=c)&&decide (c<=122))||(decide (65<=c)&&decide (c<=90))
def Pn(c:Int):Bool:=KT c||((decide (48<=c)&&decide (c<=57))||c==95)
def LQ(s:ABj)(i:Nat):Int:=((s.get! i).toNat:Int)
def Q5(s:ABj)(i:Nat):Bool:=KT (LQ s i)||(decide (0<i)&&((decide (48<=LQ s i)&&decide (LQ s i<=57))||LQ s i==95))
theorem lT(s:ABj)(i:Nat)(h:(s.get! i).toNat<128):Utf8.decode s i=((s.get! i).toNat,1):=by unfold Utf8.decode;simp[h]
theorem wQ(s:ABj)(i:Nat)(h:¬(s.get! i).toNat<128):128<=(Utf8.decode s i).1:=by unfold Utf8.decode;simp only[Nat.add_zero,h,AAY];have a:128<=Utf8.runeError:=bg;grind
def AAD(c:Int)(pos:Nat):Bool:=KT c||(decide (0<pos)&&((decide (48<=c)&&decide (c<=57))||c==95))
theorem WT(s:ABj)(L:Nat->ABi Bool)(pos:Nat)(a:pos<s.size):DX.L1 s L pos=if AAD ((Utf8.decode s pos).1:Int) pos=true then L (pos+(Utf8.decode s pos).2)else some false:=by unfold DX.L1;rw[A6 a];unfold DX.J2 DX.J3 AAD KT;grind
theorem ON(s:ABj):∀(n pos:Nat),pos<=s.size->s.size<n+pos->DX.AR s n pos=some ((List.range' pos (s.size-pos)).all (Q5 s))|0,pos,h1,h2=>ah|n+1,pos,h1,h2=>by unfold DX.AR;by_cases b:pos<s.size;rw[WT s _ pos b];have c:List.range' pos (s.size-pos)=pos::List.range' (pos+1) (s.size-(pos+1)):=(by rw[show s.size-pos=(s.size-(pos+1))+1 from by omega,List.range'_succ]);rw[c,AA4];by_cases a:(s.get! pos).toNat<128;rw[lT s pos a,ON s n (pos+1) ah ah];show(if Q5 s pos=true then _ else _)=_;grind;have f:=wQ s pos a;have e:Q5 s pos=false:=(by unfold Q5 KT LQ;simp;omega);have d:AAD ((Utf8.decode s pos).1:Int) pos=false:=(by unfold AAD KT;simp;omega);simp_all;unfold DX.L1;rw[Aa b];have:s.size-pos=0:=ah;simp[DX.J4,this]
theorem sgt_nat(h:i<x.size):sgt x (i:Int)=some (x.get! i):=by
 unfold sgt;rw[AAM ah];simp only[AAi];rw[getElem?_pos x i h];congr 1;have e:x.get! i=x[i]:=by simp[ByteArray.get!,getElem!_pos,h];rfl
 grind
theorem QP(c:Int):Gv c=some (KT c):=by unfold Gv Gv.J1 KT;grind
theorem bJ(c:Int):IU c=some (Pn c):=by unfold IU Iy;rw[QP,AAG];unfold IU.J1 Iy.J1 Pn;grind
theorem OG(s:ABj)(c:s.size<=12):∀(n i:Nat),i<=s.size->s.size<n+i->CZ.AR s n i=some ((List.range' i (s.size-i)).all λk=>Pn (LQ s k))|0,pos,h1,h2=>ah|n+1,i,h1,h2=>by unfold CZ.AR CZ.L1;by_cases b:i<s.size;rw[A6 ah,sgt_nat b,AAG,bJ,AAG,AX ah,OG s c n (i+1) ah ah];have a:List.range' i (s.size-i)=i::List.range' (i+1) (s.size-(i+1)):=(by rw[show s.size-i=(s.size-(i+1))+1 from by omega,List.range'_succ]);rw[a,AA4];show(if(!(Pn (LQ s i)))=true then _ else _)=_;grind;rw[Aa ah];have:s.size-i=0:=ah;simp[CZ.J2,this]
theorem RC(s:ABj):∀(n i:Nat),i<=22->22<n+i->ET.AR s n i=some ((NH.drop i).any λx=>s.toList==x.toList)|0,pos,h1,h2=>ah|n+1,i,h1,h2=>by have b:NH.length=22:=rfl;unfold ET.AR ET.L1;by_cases c:i<22;have a:i<NH.length:=ah;rw[A6 ah,AAM ah,Bm a,AAG,AX ah,RC s n (i+1) ah ah,D1 a,List.any_cons];grind;rw[Aa ah];have:NH.drop i=[]:=List.drop_eq_nil_of_le ah;simp[ET.J1,this]
def isKw(s:ABj):Bool:=NH.any λx=>s.toList==x.toList
theorem UW(s:ABj):ET s=some (isKw s):=RC s BQ 0 ah bg
theorem Vk:LB=some NH:=rfl
theorem MI(s:ABj)(v:jt)(b:v.length<=100):∀(n i:Nat),i<=v.length->v.length<n+i->Dz.AR s v n i=some ((v.drop i).any λx=>x.toList==s.toList)|0,pos,h1,h2=>ah|n+1,i,h1,h2=>by unfold Dz.AR Dz.L1;by_cases a:i<v.length;rw[A6 ah,Bm a,AAG,AX ah,MI s v b n (i+1) ah ah,D1 a,List.any_cons];grind;rw[Aa ah];have:v.drop i=[]:=List.drop_eq_nil_of_le ah;simp[Dz.J1,this]
theorem UL(s:ABj):Dz s=some (isKw s):=by unfold Dz;rw[Vk,AAG];refine(MI s NH bg BQ 0 ah bg).trans ?_;rw[AAn];congr 1;unfold isKw;grind
def VU(s:ABj):Bool:=decide (1<=s.size)&&decide (s.size<=12)&& !isKw s&&(List.range' 0 s.size).all (Q5 s)
theorem Yw(s:ABj):DX s=some (VU s):=by unfold DX;by_cases c:s.size<1;rw[A6 ah];simp[DX.J1,VU];omega;rw[Aa ah];by_cases d:s.size>12;rw[A6 ah];simp[DX.J1,VU];omega;rw[Aa ah,UW,AAG];unfold DX.J1;rw[ON s BQ 0 ah (by have:BQ=18446744073709551616:=rfl;omega)];have a:1<=s.size:=ah;have b:s.size<=12:=ah;simp only[VU,a,b,decide_true,AAf,Nat.sub_zero];grind
theorem xO(s:ABj)(h:0<s.size):(KT (LQ s 0)&&(List.range' 0 s.size).all λk=>Pn (LQ s k))=(List.range' 0 s.size).all (Q5 s):=by
 have b:List.range' 0 s.size=0::List.range' 1 (s.size-1):=by rw[show s.size=(s.size-1)+1 from by omega,List.range'_succ];simp
 rw[b,AA4,AA4];have c:Q5 s 0=KT (LQ s 0):=by simp[Q5]
 have d:Pn (LQ s 0)=(KT (LQ s 0)||((decide (48<=LQ s 0)&&decide (LQ s 0<=57))||LQ s 0==95)):=rfl;have f:(List.range' 1 (s.size-1)).all (Q5 s)=(List.range' 1 (s.size-1)).all λk=>Pn (LQ s k):=by
  rw[Bool.eq_iff_iff,AAP,AAP];have e:∀k∈List.range' 1 (s.size-1),Q5 s k=Pn (LQ s k):=λk a=>by have:0<k:=(by have:=List.mem_range'_1.1 a;omega);simp[Q5,Pn,this]
  exact⟨λh k a=>e k a▸h k a,λh k a=>(e k a).symm▸h k a⟩
 grind
theorem QO(s:ABj):CZ s=some (VU s):=by unfold CZ;by_cases c:s.size<1;rw[A6 ah];simp[CZ.J1,VU];omega;rw[Aa ah];by_cases d:s.size>12;rw[A6 ah];simp[CZ.J1,VU];omega;rw[Aa ah,show(0:Int)=((0:Nat):Int)from rfl,sgt_nat ah,AAG,QP,AAG,UL,AAG];unfold CZ.J1;rw[show(0:Int)=((0:Nat):Int)from rfl,OG s ah BQ 0 ah (by have:BQ=18446744073709551616:=rfl;omega)];have a:1<=s.size:=ah;have b:s.size<=12:=ah;simp only[VU,a,b,decide_true,AAf,Nat.sub_zero];rw[<- xO s ah];show(if(!KT (LQ s 0))=true then _ else _)=_;grind
instance:Inhabited Kt:=⟨⟨⟨#[]⟩,false⟩⟩
theorem ba_beq(a b:ABj):(a==b)=(a.data==b.data):=by cases a;cases b;rfl
theorem beq_bytes(a b:ABj):(a.toList==b.toList)=(a==b):=by rw[ba_beq,Bool.eq_iff_iff,AAT,AAT,ByteArray.toList_eq,ByteArray.toList_eq];simp_all
theorem Xa(wv:AG)(L1 L1':ls)(F:List ABj×Bool->ABi (List ABj×Bool))(e:F ([],false)=some ([],false))(f:∀a b,L1 a b=(L1' a b).bind F)(i:Int)(l:jt)(x:ED):∀(m:Nat)(k:Int)(c:ED),c.dv=x.dv->c.CM=x.CM->c.II=false->c.dg=x.dg->Bv.Bs L1 i l wv x m k=(Ad.Bs L1' i wv.di l x m c k).bind F|0,k,c,_,_,_,_=>rfl|m+1,k,c,e1,e2,e3,e4=>by have o:=λp=>Xa wv L1 L1' F e f i l x m p ⟨c.dv,k,c.CM,c.II,c.dg⟩ e1 e2 e3 e4;unfold Bv.Bs Ad.Bs Bv.L2 Ad.L2;by_cases d:k<x.CM;(rw[A6 d,A6 d];cases gt wv.di (A8 (i+k))with|none=>rfl|some y=>simp only[AAG,Bv.J2,o,e1,e2,e3,e4];by_cases g:y.d8=k<;>by_cases h:y.dv.toList=x.dv.toList<;>by_cases j:y.CM=x.CM<;>by_cases n:y.dg=x.dg<;>cases a5:y.II<;>simp[g,h,j,n,e]);rw[Aa d,Aa d];simp only[Bv.J3,Ad.J2,f,e2]
def OR(wv:AG):List ABj×Bool->ABi (List ABj×Bool):=λv=>if v.2=true then Bv.J4 wv v.1 else some ([],false)
theorem iM(wv:AG)(l:wv.di.length<=12):∀(n:Nat)(names:jt)(i:Int),Bv.AR wv n names i=(Ad.AR wv.di n names i).bind (OR wv)|0,_,_=>rfl|n+1,names,i=>by have j:=iM wv l n;unfold Bv.AR Ad.AR Bv.L1 Ad.L1;by_cases hi:i<(wv.di.length:Int);(rw[A6 hi,A6 hi];cases hx:gt wv.di i with|none=>rfl|some x=>simp only[AAG];by_cases g:Ap (names.length+1) 16=true;(rw[AAM g,AAM g];by_cases d:x.CM=0;simp only[d,ABF,AAl,j];by_cases c:x.d8=0<;>simp[c,OR];simp only[d,AAT,AAY,Bv.J1,Ad.J1];by_cases c:x.CM<1;simp[c,OR];by_cases e:x.CM>4;simp[c,e,OR];simp only[c,e,decide_false,AAR,AAY];have m:=Xa wv _ _ (OR wv) rfl (λa b=>j a b) i names x BQ 0 x rfl rfl;by_cases f:x.CM>A8 ((wv.di.length:Int)-i);cases x.II<;>simp[f,OR];simp only[f,decide_false,AAR,AAY];cases hv:x.II with|false=>simp_all|true=>(simp only[AAl];have o:0<=i:=by unfold gt at hx;by_cases h:0<=i;exact h;simp_all);show Bv.Bs _ _ _ _ _ BQ 0=_;rw[show BQ=18446744073709551615+1 from rfl];unfold Bv.Bs Bv.L2;rw[A6 ah,CD ah ah,Int.add_zero,hx];simp only[AAG,Bv.J2,hv];by_cases k:x.d8=0<;>simp[k,OR]);simp_all);rw[Aa hi,Aa hi];simp[Ad.J3,OR]
theorem Ny(l:nk)(j:l.length<=12)(L1:ls)(names:jt)(x:ED)(i:Nat)(d:1<=x.CM)(f:x.CM<=4)(n:x.CM<=(l.length:Int)-i)(Q:List ABj×Bool->Prop)(g:Q ([],false))(b:∃v,L1 (names++[x.dv]) ((i+x.CM.toNat:Nat):Int)=some v/\Q v):∀(m k:Nat)(a:ED),a.CM=x.CM->k<=x.CM->x.CM<(m+k:Nat)->∃v,Ad.Bs L1 (i:Int) l names x m a (k:Int)=some v/\Q v|0,k,a,e,h,h'=>ah|m+1,k,a,e,h,h'=>by unfold Ad.Bs Ad.L2;by_cases c:(k:Int)<x.CM;rw[A6 c,CD ah ah,show(i:Int)+(k:Int)=((i+k:Nat):Int)from by omega,Bm ah,AAG,AX ah];split;simp_all;exact Ny l j L1 names x i d f n Q g b m (k+1) _ e ah ah;rw[Aa c];unfold Ad.J2;rw[e,CD ah ah,show(i:Int)+x.CM=((i+x.CM.toNat:Nat):Int)from by omega];exact b
theorem Nz(l:nk)(d:l.length<=12):∀(n i:Nat)(names:jt),i<=l.length->l.length<n+i->names.length<=i->∃v,Ad.AR l n names (i:Int)=some v/\v.1.length<=l.length|0,i,names,a,b,c=>ah|n+1,i,names,a,b,c=>by unfold Ad.AR Ad.L1;by_cases hi:i<l.length;rw[A6 ah,Bm hi,AAG,Bb ah];have f:∃v,some (([],false):List ABj×Bool)=some v/\v.1.length<=l.length:=⟨_,rfl,ak⟩;generalize l[i]=x;by_cases e:x.CM=0;simp only[e,ABF,AAl];rw[AX ah];split;exact f;exact Nz l d n (i+1) _ ah ah an;simp only[e,AAT,AAY,Ad.J1];rw[CD (n:=(l.length:Int)-i) ah ah];by_cases a:x.CM<1;simp[a];by_cases b:x.CM>4;simp[a,b];by_cases c:x.II=true;simp_all;by_cases g:x.CM>(l.length:Int)-i;simp_all;simp only[a,b,c,g,decide_false,AAR,AAY];refine Ny l d _ names x i ah ah ah _ ak ?_ BQ 0 x rfl ah bh;exact Nz l d n (i+x.CM.toNat) _ ah ah an;rw[Aa ah];exact⟨_,rfl,an⟩
def N9(wv:AG):List ABj:=wv.AK.map (·.dv)++(wv.Al.map (·.dv)++(wv.AL++wv.AA))
def YF:List ABj->List ABj->Bool|_,[]=>true|seen,x::r=>VU x&& !(seen.any λy=>y==x)&&YF (seen++[x]) r
structure Small (wv:AG):Prop where
 c:wv.di.length<=12
 l:wv.AK.length<=4
 d:wv.Al.length<=2
 f:wv.AL.length<=2
 t:wv.AA.length<=4
 s:wv.Bt.length<=60
theorem names.L3(wv:AG)(a:jt)(c:(a++wv.AL++wv.AA).length<=1000):∀(n i:Nat)(b:jt),i<=(a++wv.AL++wv.AA).length->(a++wv.AL++wv.AA).length<n+i->Be.E3 a wv n (i:Int) b=some (YF b ((a++wv.AL++wv.AA).drop i))|0,i,b,h1,h2=>ah|n+1,i,b,h1,h2=>by unfold Be.E3 Be.L3;by_cases hi:i<(a++wv.AL++wv.AA).length;rw[A6 ah,Bm hi,AAG,Yw,AAG,D1 hi];unfold Be.J3;rw[AX ah,names.L3 wv a c n (i+1) _ ah ah];generalize (a++wv.AL++wv.AA)[i]=x;rw[YF];grind;rw[Aa ah,Et hi];rfl
theorem names.J2(wv:AG)(b:Small wv)(a:jt)(c:a.length<=100):Be.J2 wv a=some (YF [] (a++(wv.AL++wv.AA))):=by have:=b.f;have:=b.t;have d:=BK;unfold Be.J2;rw[Bb ah,Bb an];have:=names.L3 wv a an BQ 0 [] ah an;simp_all
theorem names.L2(wv:AG)(b:Small wv):∀(n i:Nat)(a:jt),i<=wv.Al.length->wv.Al.length<n+i->a.length<=50+i->Be.Bs wv n a (i:Int)=some (YF [] (a++((wv.Al.drop i).map (·.dv)++(wv.AL++wv.AA))))|0,i,a,h1,h2,h3=>ah|n+1,i,a,h1,h2,h3=>by have:=b.d;unfold Be.Bs Be.L2;by_cases hi:i<wv.Al.length;rw[A6 ah,Bm hi,AAG,Bb ah,AX ah,names.L2 wv b n (i+1) _ ah ah an,D1 hi];grind;rw[Aa ah,Et hi,names.J2 wv b a ah];simp
theorem names.L1(wv:AG)(b:Small wv):∀(n i:Nat)(a:jt),i<=wv.AK.length->wv.AK.length<n+i->a.length<=20+i->Be.AR wv n a (i:Int)=some (YF [] (a++((wv.AK.drop i).map (·.dv)++(wv.Al.map (·.dv)++(wv.AL++wv.AA)))))|0,i,a,h1,h2,h3=>ah|n+1,i,a,h1,h2,h3=>by have:=b.l;have:=b.d;have c:=BK;unfold Be.AR Be.L1;by_cases hi:i<wv.AK.length;rw[A6 ah,Bm hi,AAG,Bb ah,AX ah,names.L1 wv b n (i+1) _ ah ah an,D1 hi];grind;rw[Aa ah,Et hi];unfold Be.J1;have:=names.L2 wv b BQ 0 a ah ah ah;simp_all
theorem names_eq(wv:AG)(b:Small wv)(a:jt)(d:a.length<=12):Be wv a=some (YF [] (a++N9 wv)):=by have:=b.l;have c:=BK;unfold Be;rw[Bb ah];have:=names.L1 wv b BQ 0 a ah ah ah;rw[AAn]at this;exact this
theorem P6.J6(wv:AG)(b:Small wv)(a:jt)(c:a.length<=100):Bv.J6 wv a=some (a++(wv.AL++wv.AA),true):=by have:=b.f;have:=b.t;unfold Bv.J6;rw[Bb ah,Bb an,ABO]
theorem P6.L4(wv:AG)(b:Small wv):∀(n i:Nat)(a:jt),i<=wv.Al.length->wv.Al.length<n+i->a.length<=50+i->Bv.tF wv n a (i:Int)=some (a++((wv.Al.drop i).map (·.dv)++(wv.AL++wv.AA)),true)|0,i,a,h1,h2,h3=>ah|n+1,i,a,h1,h2,h3=>by have:=b.d;unfold Bv.tF Bv.L4;by_cases hi:i<wv.Al.length;rw[A6 ah,Bm hi,AAG,Bb ah,AX ah,P6.L4 wv b n (i+1) _ ah ah an,D1 hi];grind;rw[Aa ah,Et hi,P6.J6 wv b a ah];simp
theorem P6.L3(wv:AG)(b:Small wv):∀(n i:Nat)(a:jt),i<=wv.AK.length->wv.AK.length<n+i->a.length<=20+i->Bv.E3 wv n a (i:Int)=some (a++((wv.AK.drop i).map (·.dv)++(wv.Al.map (·.dv)++(wv.AL++wv.AA))),true)|0,i,a,h1,h2,h3=>ah|n+1,i,a,h1,h2,h3=>by have:=b.l;have:=b.d;have c:=BK;unfold Bv.E3 Bv.L3;by_cases hi:i<wv.AK.length;rw[A6 ah,Bm hi,AAG,Bb ah,AX ah,P6.L3 wv b n (i+1) _ ah ah an,D1 hi];grind;rw[Aa ah,Et hi];unfold Bv.J5;have:=P6.L4 wv b BQ 0 a ah ah ah;simp_all
theorem P6.J4(wv:AG)(b:Small wv)(a:jt)(c:a.length<=12):Bv.J4 wv a=some (a++N9 wv,true):=by have:=b.l;have d:=BK;unfold Bv.J4;have:=P6.L3 wv b BQ 0 a ah ah ah;rw[AAn]at this;exact this
theorem zL(l:jt)(x:ABj)(a:l.length<=1000):∀(n i:Nat),i<=l.length->l.length<n+i->∃r,Cv.AR l x n (i:Int)=some r/\(0<=r↔((l.drop i).any λy=>y==x)=true)|0,i,h1,h2=>ah|n+1,i,h1,h2=>by unfold Cv.AR Cv.L1;by_cases hi:i<l.length;rw[A6 ah,Bm hi,AAG,AX ah,D1 hi,beq_bytes,List.any_cons];obtain⟨r,b,c⟩:=zL l x a n (i+1) ah ah;grind;rw[Aa ah,Et hi];exact⟨-1,rfl,ak⟩
theorem at_eq(l:jt)(x:ABj)(c:l.length<=1000):∃r,Cv l x=some r/\decide (r>=0)=(l.any λy=>y==x):=by obtain⟨r,a,b⟩:=zL l x c BQ 0 ah bh;rw[AAn]at b;refine⟨r,a,?_⟩;grind
theorem X0(wv:AG)(v:List ABj×Bool)(d:v.1.length<=1000):∀(n i:Nat),i<=v.1.length->v.1.length<n+i->A9.AR v wv n (i:Int)=if YF (v.1.take i) (v.1.drop i)=true then A9.J3 wv else some false|0,i,h1,h2=>ah|n+1,i,h1,h2=>by unfold A9.AR A9.L1;by_cases hi:i<v.1.length;rw[A6 ah,Bm hi,AAG,QO,AAG,D1 hi,AAM (c:=0<=(i:Int)/\(i:Int).toNat<=v.1.length) an,AAi];obtain⟨r,a,b⟩:=at_eq (v.1.take i) v.1[i] an;rw[a,AAG,b];unfold A9.J2;rw[AX ah,X0 wv v d n (i+1) ah ah,YF,AAe hi];grind;rw[Aa ah,Et hi];rfl
def Hs(nt:Nat):Int->Int->List Eb->Bool|_,_,[]=>true|t,n,x::r=>if x.db<t\/x.db>=nt then false else if x.db>t then x.eA==0&&Hs nt x.db 1 r else x.eA==n&&Hs nt t (n+1) r
theorem UU(wv:AG)(b:Small wv):∀(n i:Nat)(t:Int)(a:Nat),i<=wv.Bt.length->wv.Bt.length<n+i->a<=i->C3.AR wv n t (a:Int) (i:Int)=some (Hs wv.AA.length t a (wv.Bt.drop i))|0,i,t,a,h1,h2,h3=>ah|n+1,i,t,a,h1,h2,h3=>by have:=b.s;unfold C3.AR C3.L1;by_cases hi:i<wv.Bt.length;rw[A6 ah,Bm hi,AAG,D1 hi];simp only[C3.J1,C3.J2];rw[AX (i:=i) ah,AX (i:=a) ah,show A8 (0+1)=((1:Nat):Int)from rfl];rw[UU wv b n (i+1) _ (a+1) ah ah ah,UU wv b n (i+1) _ 1 ah ah ah];generalize wv.Bt[i]=x;rw[Hs];grind;rw[Aa ah,Et hi];rfl
theorem X2(wv:AG)(j:Small wv):∀(n i:Nat)(t:Int)(e:Nat),i<=wv.Bt.length->wv.Bt.length<n+i->e<=i->(∀(h:0<i)(y:i-1<wv.Bt.length),t=wv.Bt[i-1].db/\(e:Int)=wv.Bt[i-1].eA+1)->(i=0->t=0/\e=0)->0<=t->A9.E3 wv n (i:Int)=some (Hs wv.AA.length t e (wv.Bt.drop i))|0,i,t,e,h1,h2,h3,_,_,_=>ah|n+1,i,t,e,h1,h2,h3,h4,h5,h6=>by have:=j.s;unfold A9.E3 A9.L3;by_cases hi:i<wv.Bt.length;rw[A6 ah,Bm hi,AAG,D1 hi];have v:∀(f:Int)(d:Nat),d<=i+1->(f=wv.Bt[i].db/\(d:Int)=wv.Bt[i].eA+1)->0<=f->A9.E3 wv n ((i+1:Nat):Int)=some (Hs wv.AA.length f d (wv.Bt.drop (i+1))):=λf d a b c=>X2 wv j n (i+1) f d ah ah a (λ_ _=>b) ah c;simp only[A9.J6,A9.J7,A9.J8,A9.J9];rw[AX (i:=i) ah];rw[Hs];by_cases a0:wv.Bt[i].db<0;grind;by_cases k:wv.Bt[i].db>=(wv.AA.length:Int);grind;simp only[a0,k,decide_false,AA6,AAR,AAY];by_cases z:i=0;grind;have q:((i:Int)==0)=false:=an;have g:gt wv.Bt (A8 ((i:Int)-1))=some wv.Bt[i-1]:=(by rw[CD ah ah,show(i:Int)-1=((i-1:Nat):Int)from by omega,Bm ah]);obtain⟨o,p⟩:=h4 ah ah;have u:A8 (wv.Bt[i-1].eA+1)=(e:Int):=(by rw[<- p];exact CD (by omega) (by omega));have r:decide ((i:Int)>0):=an;simp only[q,g,AAG,AAR,AAY,u,<- o,r,AAl];by_cases l:t=wv.Bt[i].db;have w:¬wv.Bt[i].db<t:=ah;have x:¬wv.Bt[i].db>t:=ah;simp only[l,bne_self_eq_false,AAR,AAY,Int.lt_irrefl,gt_iff_lt];by_cases m:wv.Bt[i].eA=(e:Int);simp only[m,bne_self_eq_false,AAR,AAY,ABF,AAf];rw[v wv.Bt[i].db (e+1) ah ⟨rfl,ah⟩ ah];rfl;grind;grind;rw[Aa ah,Et hi];rfl
theorem sites_eq(wv:AG)(a:Small wv):C3 wv=some (Hs wv.AA.length 0 0 wv.Bt):=by have:=UU wv a BQ 0 0 0 ah (by have:=a.s;have:=BK;omega) ah;rw[AAn]at this;exact this
theorem rsites_eq(wv:AG)(a:Small wv):A9.J5 wv=some (Hs wv.AA.length 0 0 wv.Bt):=by have:=X2 wv a BQ 0 0 0 ah (by have:=a.s;have:=BK;omega) ah ah ak ah;rw[AAn]at this;exact this
def SF(wv:AG)(c:Uk):Bool:=CC c.dr wv.AK.length&& !(ix wv.AK c.dr).RW
theorem PM(i:Int)(n:Nat):F9 i (n:Int)=some (CC i n):=by unfold F9 F9.J1 CC;grind
theorem Zo(wv:AG)(a:Small wv):∀(n i:Nat),i<=wv.Al.length->wv.Al.length<n+i->B8.AR wv n (i:Int)=if(wv.Al.drop i).all (SF wv)=true then some (Hs wv.AA.length 0 0 wv.Bt)else some false|0,i,h1,h2=>ah|n+1,i,h1,h2=>by have:=a.d;unfold B8.AR B8.L1;by_cases hi:i<wv.Al.length;(rw[A6 ah,Bm hi,AAG,D1 hi,AX ah,Zo wv a n (i+1) ah ah,AA4];generalize wv.Al[i]=c;unfold G1;rw[PM,AAG];unfold SF G1.J1;cases h:CC c.dr wv.AK.length with|false=>simp|true=>rw[AAM rfl,Bz h,AAG,AAG];grind);rw[Aa ah,Et hi];unfold B8.J4;rw[sites_eq wv a];rfl
theorem Xt(wv:AG)(a:Small wv):∀(n i:Nat),i<=wv.Al.length->wv.Al.length<n+i->A9.Bs wv n (i:Int)=if(wv.Al.drop i).all (SF wv)=true then some (Hs wv.AA.length 0 0 wv.Bt)else some false|0,i,h1,h2=>ah|n+1,i,h1,h2=>by have:=a.d;unfold A9.Bs A9.L2;by_cases hi:i<wv.Al.length;unfold A9.J4;rw[A6 ah,Bm hi,AAG,D1 hi,AX ah,Xt wv a n (i+1) ah ah,AA4];generalize wv.Al[i]=c;unfold SF;by_cases b:c.dr<0;have:CC c.dr wv.AK.length=false:=br;simp_all;by_cases e:c.dr>=(wv.AK.length:Int);have:CC c.dr wv.AK.length=false:=br;simp_all;have h:CC c.dr wv.AK.length:=br;rw[Aa b,Aa e,Bz h,AAG,h];grind;rw[Aa ah,Et hi];exact rsites_eq wv a
def C6(wv:AG):Bool:=decide (wv.di.length<=12)&&decide (wv.AK.length<=4)&&decide (wv.Al.length<=2)&&decide (wv.AL.length<=2)&&decide (1<=wv.AA.length)&&decide (wv.AA.length<=4)&&decide (wv.Bt.length<=60)&&(match Ad wv.di with|some v=>v.2&&YF [] (v.1++N9 wv)&&wv.Al.all (SF wv)&&Hs wv.AA.length 0 0 wv.Bt|none=>false)
theorem TK(wv:AG):B8 wv=some (C6 wv):=by unfold B8 B8.J1;by_cases a:wv.di.length<=12;by_cases b:wv.AK.length<=4;by_cases c:wv.Al.length<=2;by_cases d:wv.AL.length<=2;by_cases e:wv.Bt.length<=60;rw[Aa ah,Aa ah,Aa ah,Aa ah,AAL an];unfold B8.J2;by_cases g:1<=wv.AA.length;by_cases f:wv.AA.length<=4;have h:Small wv:=⟨a,b,c,d,f,e⟩;obtain⟨v,k,l⟩:=Nz wv.di a BQ 0 [] ah bh ak;have i:Ad wv.di=some v:=k;rw[Aa ah,AAL an,i,AAG];have j:C6 wv=(v.2&&YF [] (v.1++N9 wv)&&wv.Al.all (SF wv)&&Hs wv.AA.length 0 0 wv.Bt):=(by unfold C6;rw[i];simp[a,b,c,d,e,g,f]);rw[j,names_eq wv h v.1 ah,AAG];unfold B8.J3;have m:=Zo wv h BQ 0 ah bh;grind;rw[Aa ah,AAM an];simp[C6,f];rw[A6 ah,AAM rfl];simp[C6,g];rw[Aa ah,Aa ah,Aa ah,Aa ah,AAM an];simp[C6,e];rw[Aa ah,Aa ah,Aa ah,A6 ah,AAM rfl];simp[C6,d];rw[Aa ah,Aa ah,A6 ah,AAM rfl];simp[C6,c];rw[Aa ah,A6 ah,AAM rfl];simp[C6,b];rw[A6 ah,AAM rfl];simp[C6,a]
theorem LA(wv:AG):A9 wv=some (C6 wv):=by unfold A9 A9.J1;by_cases a:wv.di.length<=12;by_cases c:wv.AK.length<=4;by_cases d:wv.Al.length<=2;by_cases e:wv.AL.length<=2;by_cases h:1<=wv.AA.length;by_cases g:wv.AA.length<=4;by_cases f:wv.Bt.length<=60;(have k:Small wv:=⟨a,c,d,e,g,f⟩;obtain⟨v,j,n⟩:=Nz wv.di a BQ 0 [] ah bh ak;have o:Ad wv.di=some v:=j;rw[Aa ah,Aa ah,Aa ah,Aa ah,Aa ah,Aa ah,AAL an];have m:C6 wv=(v.2&&YF [] (v.1++N9 wv)&&wv.Al.all (SF wv)&&Hs wv.AA.length 0 0 wv.Bt):=(by unfold C6;rw[o];simp[a,c,d,e,f,h,g]);have hn:Bv wv=OR wv v:=(by have:=iM wv a BQ [] 0;rw[show(0:Int)=((0:Nat):Int)from rfl,j]at this;exact this);rw[hn,m];unfold OR;have l:=Xt wv k BQ 0 ah bh;rw[AAn]at l;cases hv2:v.2 with|false=>simp|true=>rw[AAM rfl,P6.J4 wv k v.1 ah,AAG,AAL ak];have b:(v.1++N9 wv).length<=1000:=(by simp[N9];omega);have i:=X0 wv (v.1++N9 wv,true) b BQ 0 ah (by have:=BK;grind);rw[List.take_zero,AAn]at i;rw[show(0:Int)=((0:Nat):Int)from rfl,i];unfold A9.J3;grind);rw[Aa ah,Aa ah,Aa ah,Aa ah,Aa ah,Aa ah,AAM an];simp[C6,f];rw[Aa ah,Aa ah,Aa ah,Aa ah,Aa ah,A6 ah,AAM rfl];simp[C6,g];rw[Aa ah,Aa ah,Aa ah,Aa ah,A6 ah,AAM rfl];simp[C6,h];rw[Aa ah,Aa ah,Aa ah,A6 ah,AAM rfl];simp[C6,e];rw[Aa ah,Aa ah,A6 ah,AAM rfl];simp[C6,d];rw[Aa ah,A6 ah,AAM rfl];simp[C6,c];rw[A6 ah,AAM rfl];simp[C6,a]
variable{wv:AG}
theorem Dw(h:C6 wv):Small wv:=by unfold C6 at h;simp only[AAH,AAa]at h;obtain⟨⟨⟨⟨⟨⟨⟨a,b⟩,c⟩,d⟩,g⟩,e⟩,f⟩,i⟩:=h;exact⟨a,b,c,d,e,f⟩
instance:Inhabited Uk:=⟨⟨⟨#[]⟩,0⟩⟩
instance:Inhabited ED:=⟨⟨⟨#[]⟩,0,0,false,0⟩⟩
instance:Inhabited Eb:=⟨⟨0,0,0⟩⟩
instance:Inhabited AW:=⟨⟨0,[]⟩⟩
instance:Inhabited AM:=⟨⟨0,0,false⟩⟩
def Kd(wv:AG):AQ:=⟨List.replicate wv.AK.length ⟨-1,[]⟩, -1,List.replicate wv.AL.length false,(List.replicate wv.AA.length ⟨0,0,false⟩).set 0 ⟨1,0,false⟩⟩
theorem start.L1(wv:AG)(a:Small wv)(D:ko)(T:kx)(tx:Int):∀(n i:Nat),i<=wv.AK.length->wv.AK.length<n+i->FN.AR wv n ⟨List.replicate i ⟨-1,[]⟩++List.replicate (wv.AK.length-i) ⟨0,[]⟩,tx,D,T⟩ (i:Int)=FN.J1 ⟨List.replicate wv.AK.length ⟨-1,[]⟩,tx,D,T⟩|0,i,h1,h2=>ah|n+1,i,h1,h2=>by have:=a.l;unfold FN.AR FN.L1;by_cases hi:i<wv.AK.length;rw[A6 an];have e:List.replicate (wv.AK.length-i) (AW.mk 0 [])=AW.mk 0 []::List.replicate (wv.AK.length-(i+1)) (AW.mk 0 []):=(by rw[show wv.AK.length-i=(wv.AK.length-(i+1))+1 from by omega,List.replicate_succ]);have b:gt (List.replicate i (AW.mk (-1) [])++List.replicate (wv.AK.length-i) (AW.mk 0 [])) (i:Int)=some ⟨0,[]⟩:=(by rw[Jv,e,AAp (by simp)];simp);have c:(List.replicate i (AW.mk (-1) [])++List.replicate (wv.AK.length-i) (AW.mk 0 [])).set i (AW.mk (-1) [])=List.replicate (i+1) (AW.mk (-1) [])++List.replicate (wv.AK.length-(i+1)) (AW.mk 0 []):=(by rw[e,List.set_append_right _ _ (by simp)];simp only[ABT,Nat.sub_self,List.set_cons_zero];rw[ABX];simp);simp only[b,AAG,AAi,c];rw[AX ah];exact start.L1 wv a D T tx n (i+1) ah ah;rw[Aa an];have:i=wv.AK.length:=ah;simp_all
theorem YT(wv:AG)(a:Small wv):FN wv=some (Kd wv):=by have c:=a.l;have d:=a.f;have e:=a.t;have g:=BK;unfold FN;rw[AAM ⟨ah,ah,Bq ah⟩,AAM ⟨ah,ah,Bq ah⟩,AAM ⟨ah,ah,Bq ah⟩];have:=start.L1 wv a (List.replicate wv.AL.length false) (List.replicate wv.AA.length (AM.mk 0 0 false)) (-1) BQ 0 ah ah;simp only[List.replicate_zero,List.nil_append,Nat.sub_zero,Int.natCast_zero]at this;rw[this];unfold FN.J1 FN.J2 Kd;simp only[ABT];by_cases h:wv.AA.length=0;simp[h];have b:0<wv.AA.length:=ah;rw[A6 ah];have:gt (List.replicate wv.AA.length (AM.mk 0 0 false)) 0=some ⟨0,0,false⟩:=(by show gt _ ((0:Nat):Int)=_;rw[Jv];simp[b]);simp_all
theorem Ro.L3(wv:AG)(a:Small wv)(L:List AW)(D:ko)(tx:Int):∀(n i:Nat),i<=wv.AA.length->wv.AA.length<n+i->Cx.E3 wv n ⟨L,tx,D,(List.replicate i ⟨0,0,false⟩).set 0 ⟨1,0,false⟩⟩ (i:Int)=some ⟨L,tx,D,(List.replicate wv.AA.length ⟨0,0,false⟩).set 0 ⟨1,0,false⟩⟩|0,i,h1,h2=>ah|n+1,i,h1,h2=>by have:=a.t;unfold Cx.E3 Cx.L3;by_cases hi:i<wv.AA.length;(unfold Cx.J3;rw[A6 ah];simp only[List.length_set,ABT];rw[Bb ah,Bb ah,AX ah];have e:∀x,(if((i:Int)==0)=true then Cx.E3 wv n ⟨L,tx,D,(List.replicate i ⟨0,0,false⟩).set 0 ⟨1,0,false⟩++[⟨1,0,false⟩]⟩ x else Cx.E3 wv n ⟨L,tx,D,(List.replicate i ⟨0,0,false⟩).set 0 ⟨1,0,false⟩++[⟨0,0,false⟩]⟩ x)=Cx.E3 wv n ⟨L,tx,D,(List.replicate (i+1) ⟨0,0,false⟩).set 0 ⟨1,0,false⟩⟩ x:=by intro x;cases i with|zero=>rfl|succ i=>rw[AAL an,ABX (n:=i+1),List.set_append_left _ _ ak]);rw[e];exact Ro.L3 wv a L D tx n (i+1) ah ah;rw[Aa ah];have:i=wv.AA.length:=ah;subst this;rfl
theorem Ro.L2(wv:AG)(a:Small wv)(L:List AW)(tx:Int):∀(n i:Nat),i<=wv.AL.length->wv.AL.length<n+i->Cx.Bs wv n ⟨L,tx,List.replicate i false,[]⟩ (i:Int)=some ⟨L,tx,List.replicate wv.AL.length false,(List.replicate wv.AA.length ⟨0,0,false⟩).set 0 ⟨1,0,false⟩⟩|0,i,h1,h2=>ah|n+1,i,h1,h2=>by have:=a.f;unfold Cx.Bs Cx.L2;by_cases hi:i<wv.AL.length;rw[A6 ah];simp only[ABT];rw[Bb ah,AX ah,<- ABX];exact Ro.L2 wv a L tx n (i+1) ah ah;rw[Aa ah];have:i=wv.AL.length:=ah;subst this;unfold Cx.J2;exact Ro.L3 wv a L _ tx BQ 0 ah (by have:=a.t;have:=BK;omega)
theorem Ro.L1(wv:AG)(a:Small wv):∀(n i:Nat),i<=wv.AK.length->wv.AK.length<n+i->Cx.AR wv n ⟨List.replicate i ⟨-1,[]⟩, -1,[],[]⟩ (i:Int)=some (Kd wv)|0,i,h1,h2=>ah|n+1,i,h1,h2=>by have:=a.l;unfold Cx.AR Cx.L1;by_cases hi:i<wv.AK.length;rw[A6 ah];simp only[ABT];rw[Bb ah,AX ah,<- ABX];exact Ro.L1 wv a n (i+1) ah ah;rw[Aa ah];have:i=wv.AK.length:=ah;subst this;unfold Cx.J1;exact Ro.L2 wv a _ (-1) BQ 0 ah (by have:=a.f;have:=BK;omega)
theorem Rf(wv:AG)(a:Small wv):Cx wv=some (Kd wv):=Ro.L1 wv a BQ 0 ah (by have:=a.l;have:=BK;omega)
def IG(wv:AG):AD:=⟨Kd wv,wv.di.map (·.dg),List.replicate wv.AL.length 0,List.replicate wv.AA.length 0⟩
theorem wstart.L1(wv:AG)(a:Small wv)(S:AQ)(F C:i6):∀(n i:Nat),i<=wv.di.length->wv.di.length<n+i->E1.AR wv n ⟨S,(wv.di.take i).map (·.dg),F,C⟩ (i:Int)=some ⟨S,wv.di.map (·.dg),F,C⟩|0,i,h1,h2=>ah|n+1,i,h1,h2=>by have:=a.c;unfold E1.AR E1.L1;by_cases hi:i<wv.di.length;rw[A6 ah,Bm hi,AAG];simp only;rw[Bb an,AX ah];have e:(wv.di.take i).map (·.dg)++[wv.di[i].dg]=(wv.di.take (i+1)).map (·.dg):=(by rw[<- AAe hi,AAu];rfl);rw[e];exact wstart.L1 wv a S F C n (i+1) ah ah;rw[Aa ah,AAo ah];rfl
theorem rwstart.L1(wv:AG)(a:Small wv)(S:AQ)(F C:i6):∀(n i:Nat),i<=wv.di.length->wv.di.length<n+i->Eo.AR wv n ⟨S,(wv.di.take i).map (·.dg),F,C⟩ (i:Int)=some ⟨S,wv.di.map (·.dg),F,C⟩|0,i,h1,h2=>ah|n+1,i,h1,h2=>by have:=a.c;unfold Eo.AR Eo.L1;by_cases hi:i<wv.di.length;rw[A6 ah,Bm hi,AAG];simp only;rw[Bb an,AX ah];have e:(wv.di.take i).map (·.dg)++[wv.di[i].dg]=(wv.di.take (i+1)).map (·.dg):=(by rw[<- AAe hi,AAu];rfl);rw[e];exact rwstart.L1 wv a S F C n (i+1) ah ah;rw[Aa ah,AAo ah];rfl
theorem TG(wv:AG)(a:Small wv):E1 wv=some (IG wv):=by have b:=a.c;have d:=a.f;have e:=a.t;have g:=BK;unfold E1;rw[YT wv a,AAG,AAM ⟨ah,ah,Bq ah⟩,AAM ⟨ah,ah,Bq ah⟩,AAM ⟨ah,ah,Bq ah⟩];exact wstart.L1 wv a (Kd wv) _ _ BQ 0 ah ah
theorem LG(wv:AG)(a:Small wv):Eo wv=some (IG wv):=by have b:=a.c;have d:=a.f;have e:=a.t;have g:=BK;unfold Eo;rw[Rf wv a,AAG,AAM ⟨ah,ah,Bq ah⟩,AAM ⟨ah,ah,Bq ah⟩];exact rwstart.L1 wv a (Kd wv) _ _ BQ 0 ah ah
variable{s:AQ}{g:kx}{t:Int}
section
set_option maxHeartbeats 4000000
def Lh(i:Int)(n:Nat):D9 i (n:Int)=some (CC i n):=PM i n
def rT(i:Int)(n:Nat):Ip i (n:Int)=some (CC i n):=PM i n
def Xx(i:Int)(n:Nat):MM i (n:Int)=some (CC i n):=PM i n
def He(wv:AG)(s:AQ):Bool:=wv.Al.all (λc=>CC c.dr wv.AK.length)&&(s.AK.length==wv.AK.length&&(s.Br.length==wv.AL.length&&s.AA.length==wv.AA.length))
theorem Pu(a b:Nat):((a:Int)==(b:Int))=(a==b):=aA
theorem xT(a b:Nat):((a:Int) != (b:Int))= !(a==b):=aA
theorem PA(wv:AG)(a:Small wv):∀(n i:Nat),i<=wv.Al.length->wv.Al.length<n+i->E9.AR wv n (i:Int)=some ((wv.Al.drop i).all λc=>CC c.dr wv.AK.length)|0,i,h1,h2=>ah|n+1,i,h1,h2=>by have:=a.d;unfold E9.AR E9.L1;by_cases hi:i<wv.Al.length;rw[A6 ah,Bm hi,AAG,D1 hi,AX ah,PA wv a n (i+1) ah ah,AA4,Lh,AAG];grind;rw[Aa ah,Et hi];rfl
theorem RN(wv:AG)(b:Small wv)(s:AQ):E9 wv s=some (He wv s):=by have a:=PA wv b BQ 0 ah (by have:=b.d;have:=BK;omega);rw[AAn]at a;unfold E9 E9.J1 He;rw[xT,xT,xT,show(0:Int)=((0:Nat):Int)from rfl,a];grind
theorem QW(wv:AG)(a:Small wv)(s:AQ):∀(n i:Nat),i<=wv.Al.length->wv.Al.length<n+i->FZ.AR s wv n (i:Int)=some (((wv.Al.drop i).all λc=>CC c.dr wv.AK.length)&&(s.AK.length==wv.AK.length&&(s.Br.length==wv.AL.length&&s.AA.length==wv.AA.length)))|0,i,h1,h2=>ah|n+1,i,h1,h2=>by have:=a.d;unfold FZ.AR FZ.L1;by_cases hi:i<wv.Al.length;unfold FZ.J1;rw[A6 ah,Bm hi,AAG,D1 hi,AX ah,QW wv a s n (i+1) ah ah,AA4];generalize wv.Al[i]=c;by_cases b:c.dr<0;have:CC c.dr wv.AK.length=false:=br;simp_all;by_cases e:c.dr>=(wv.AK.length:Int);have:CC c.dr wv.AK.length=false:=br;simp_all;have h:CC c.dr wv.AK.length:=br;grind;rw[Aa ah,Et hi];unfold FZ.J2 FZ.J3;rw[Pu,Pu,Pu];grind
theorem Oe(wv:AG)(b:Small wv)(s:AQ):FZ wv s=some (He wv s):=by have a:=QW wv b s BQ 0 ah (by have:=b.d;have:=BK;omega);rw[AAn]at a;exact a
def JS(wv:AG)(s:AD):Bool:=He wv s.df&&(s.di.length==wv.di.length&&(s.AL.length==wv.AL.length&&s.dh.length==wv.AA.length))
theorem NY(wv:AG)(a:Small wv)(s:AD):FQ wv s=some (JS wv s):=by unfold FQ FQ.J1 JS;rw[RN wv a,AAG,Pu,Pu,Pu];grind
theorem TW(wv:AG)(a:Small wv)(s:AD):Ia wv s=some (JS wv s):=by unfold Ia Ia.J1 JS;rw[Oe wv a,AAG,Pu,Pu,Pu];grind
def BC(wv:AG)(k o:Int):Bool:=if k=1\/k=2\/k=5\/k=12\/k=13\/k=14\/k=15 then o== -1
 else if k=3\/k=4 then CC o wv.di.length
 else if k=6\/k=7 then CC o wv.AK.length&& !(ix wv.AK o).RW
 else if k=8\/k=9\/k=10\/k=11 then CC o wv.AK.length&&(ix wv.AK o).RW
 else if k=16\/k=17\/k=18\/k=19 then CC o wv.Al.length
 else if k=20\/k=21 then CC o wv.AA.length
 else if k=22\/k=23 then CC o wv.AL.length
 else false
theorem lockRW(l:List Kt)(o:Int)(f g:Bool->ABi a)(y:ABi a)(d:∀b,f b=g b)(hn:y=g false)(c:Kt->Bool):(if CC o l.length=true then(gt l o).bind λx=>f (c x)else y)=g (CC o l.length&&c (ix l o)):=by cases h:CC o l.length with|false=>simp[hn]|true=>rw[AAM rfl,Bz h,AAG,d];simp
theorem OC(wv:AG)(o:Int):∀k,Cu wv k o=some (BC wv k o):=by
 refine kinds ?_ ?_ ?_ ?_ ?_ ?_ ?_ ?_ ?_ ?_ ?_ ?_ ?_ ?_ ?_ ?_ ?_ ?_ ?_ ?_ ?_ ?_ ?_ (λk m n p q r s t u v a b z c d e y f g h w i j l=>?_);all_goals
  unfold Cu Cu.J1;simp(decide:=true)only[BC,Cu.J2,Cu.J3,Cu.J4,Cu.J5,Cu.J6,Cu.J7,Cu.J8,Cu.J9,Lh,AAG,ABF,AAl,AAY,AAT,AA6,or_true,true_or,false_or,AAR]
 all_goals first|done| (simp only[m,n,p,q,r,s,t,u,v,a,b,z,c,d,e,y,f,g,h,w,i,j,l,AAY,or_self];done)|exact lockRW wv.AK o some some (some false) (λ_=>rfl) rfl (λx=>!x.RW)|exact lockRW wv.AK o some some (some false) (λ_=>rfl) rfl (λx=>x.RW)
def bZ(wv:AG)(k o:Int):Jd wv k o=some (BC wv k o):=OC wv o k
theorem ZM(l:i6)(v:Int)(a:l.length<=1000000000):∀(n i:Nat),i<=l.length->l.length<n+i->∃r,Gy.AR l v n (i:Int)=some r/\(0<=r↔v∈l.drop i)|0,i,h1,h2=>ah|n+1,i,h1,h2=>by unfold Gy.AR Gy.L1;by_cases hi:i<l.length;rw[A6 ah,Bm hi,AAG,AX ah,D1 hi];obtain⟨r,b,c⟩:=ZM l v a n (i+1) ah ah;grind;rw[Aa ah,Et hi];exact⟨-1,rfl,ak⟩
theorem XU(l:i6)(v:Int)(b:l.length<=1000000000):HM l v=some (l.contains v):=by obtain⟨r,c,a⟩:=ZM l v b BQ 0 ah bh;rw[AAn]at a;unfold HM Gy;simp_all
theorem oR(l:i6)(v:Int)(a:l.length<=1000000000):∀(n i:Nat),i<=l.length->l.length<n+i->HA.AR l v n (i:Int)=some ((l.drop i).contains v)|0,i,h1,h2=>ah|n+1,i,h1,h2=>by unfold HA.AR HA.L1;by_cases hi:i<l.length;rw[A6 ah,Bm hi,AAG,AX ah,D1 hi,oR l v a n (i+1) ah ah];grind;rw[Aa ah,Et hi];rfl
theorem oQ(l:i6)(v:Int)(a:l.length<=1000000000):HA l v=some (l.contains v):=oR l v a BQ 0 ah bh
def RB(N:Nat)(s:AQ):Prop:=∀x∈s.AK,x.Am.length<=N
theorem RB.ix(h:RB i s)(N:Int):(ix s.AK N).Am.length<=i:=by unfold Abs.ix;cases hx:s.AK[N.toNat]? with|none=>exact Nat.zero_le _|some x=>exact h x (AAW hx)
def Eg(wv:AG)(s:AQ)(t k o:Int):Bool:=let me:=ix s.AA t
 if k=1 then me.dm==1
 else if k=17 then me.dm==4&&(me.D7==o&&(ix s.AK (ix wv.Al o).dr).B6== -1)
 else me.dm==2&&(if k=6 then(ix s.AK o).B6== -1
  else if k=10 then(ix s.AK o).B6== -1&&((ix s.AK o).Am.length:Int)==0
  else if k=8 then(ix s.AK o).B6== -1&& !(ix s.AK o).Am.contains t
  else if k=7\/k=11 then(ix s.AK o).B6==t
  else if k=9 then(ix s.AK o).Am.contains t
  else if k=12 then s.Tx== -1
  else if k=13 then s.Tx==t
  else if k=14 then !me.d6
  else if k=15 then me.d6
  else if k=16\/k=18\/k=19 then(ix s.AK (ix wv.Al o).dr).B6==t
  else if k=20 then o != t&&(ix s.AA o).dm==0
  else if k=21 then o != t&&(ix s.AA o).dm==5
  else if k=22 then !ix s.Br o
  else if k=23 then ix s.Br o
  else true)
def B0(wv:AG)(s:AQ)(t k o:Int):Bool:=He wv s&&(CC t wv.AA.length&&(BC wv k o&&Eg wv s t k o))
theorem Dl(h:He wv s):s.AK.length=wv.AK.length/\s.Br.length=wv.AL.length/\s.AA.length=wv.AA.length:=by unfold He at h;simp_all
theorem Gr(h:He wv s)(a:CC o wv.Al.length):CC (ix wv.Al o).dr wv.AK.length:=by unfold He at h;simp only[AAH,AAP]at h;obtain⟨b,c⟩:=A0.1 a;have d:o.toNat<wv.Al.length:=ah;refine h.1 _ ?_;unfold ix;simp_all
theorem OA(wv:AG)(v:Small wv)(s:AQ)(b:RB 1000000000 s)(t o:Int):∀k,ES wv s t k o=some (B0 wv s t k o):=by
 intro k;unfold ES B0;rw[RN wv v,AAG];cases hf:He wv s with
 |false=>rfl
 |true=>
  rw[Lh,AAG];cases ht:CC t wv.AA.length with
  |false=>rfl
  |true=>
   rw[OC,AAG];cases a:BC wv k o with
   |false=>rfl
   |true=>
    obtain⟨c,H,I⟩:=Dl hf;have r:gt s.AA t=some (ix s.AA t):=Bz am;unfold ES.J1;simp only[Bool.not_true,AAR,AAY,AAf];rw[r,AAG];revert a;have G:=b.ix o;have u:=XU (ix s.AK o).Am t (b.ix o);revert k;refine kinds ?_ ?_ ?_ ?_ ?_ ?_ ?_ ?_ ?_ ?_ ?_ ?_ ?_ ?_ ?_ ?_ ?_ ?_ ?_ ?_ ?_ ?_ ?_ (λk w x y z B C D E F d e L f g h K i j m J n p q=>?_);all_goals
     intro a;unfold Eg;simp(decide:=true)only[BC,AA6,or_true,true_or,false_or,AAl,AAY,AAH]at a;simp(decide:=true)only[ES.J2,ES.J3,Ez,Ez.J1,Ez.J2,Ez.J3,Ez.J4,Ez.J5,Ez.J6,ABF,AAT,AAl,AAY,AA6,or_true,true_or,false_or,AAR]
    all_goals first|done| (rw[Bz (l:=wv.Al) a,AAG,Bz (l:=s.AK) (by rw[c];exact Gr hf a)];grind)| (rw[Bz (l:=wv.Al) a,AAG,Bz (l:=s.AK) (by rw[c];exact Gr hf a)];grind)| (rw[Bz (l:=s.AK) am];grind)| (rw[Bz (l:=s.AA) am];grind)| (rw[Bz (l:=s.Br) am];grind)|grind|grind|simp_all|skip
theorem Lk(wv:AG)(w:Small wv)(s:AQ)(c:RB 1000000000 s)(t o:Int):∀k,C2 wv s t k o=some (B0 wv s t k o):=by
 intro k;unfold C2 B0;rw[Oe wv w,AAG];cases hf:He wv s with
 |false=>rfl
 |true=>
  rw[rT,AAG];cases ht:CC t wv.AA.length with
  |false=>rfl
  |true=>
   rw[bZ,AAG];cases a:BC wv k o with
   |false=>rfl
   |true=>
    obtain⟨d,J,K⟩:=Dl hf;have b:gt s.AA t=some (ix s.AA t):=Bz am;unfold C2.J1;simp only[Bool.not_true,AAR,AAY,AAf];rw[b,AAG];revert a;have I:=c.ix o;have v:=oQ (ix s.AK o).Am t (c.ix o);revert k;refine kinds ?_ ?_ ?_ ?_ ?_ ?_ ?_ ?_ ?_ ?_ ?_ ?_ ?_ ?_ ?_ ?_ ?_ ?_ ?_ ?_ ?_ ?_ ?_ (λk y z B C D E F G H e f N g h i M j m n L p q r=>?_);all_goals
     intro a;unfold Eg;simp(decide:=true)only[BC,AA6,or_true,true_or,false_or,AAl,AAY,AAH]at a;simp(decide:=true)only[C2.J2,C2.J3,C2.J4,C2.J5,C2.J6,C2.J7,C2.J8,ABF,AAT,AAl,AAY,AA6,or_true,true_or,false_or,AAR]
    all_goals first|done| (rw[Bz (l:=wv.Al) a,AAG,Bz (l:=s.AK) (by rw[d];exact Gr hf a)];grind)| (rw[Bz (l:=wv.Al) a,AAG,Bz (l:=s.AK) (by rw[d];exact Gr hf a)];grind)| (rw[Bz (l:=s.AK) am];grind)| (rw[Bz (l:=s.AA) am];grind)| (rw[Bz (l:=s.Br) am];grind)|grind| (simp only[b,AAG];generalize (ix s.AA t).dm=x;by_cases u:x=2<;>simp[u];done)|simp_all|skip
theorem oV(l:i6)(x:Int)(o:l.length<=1000000000):∀(n i:Nat),i<=l.length->l.length<n+i->(∀(k:Nat)(j:k<l.length),k<i->l[k]<x)->FC.AR l x n (i:Int)=some (ins l x)
 |0,i,h1,h2,_=>ah
 |n+1,i,h1,h2,h3=>by
  unfold FC.AR FC.L1;have step:∀(b:Bool),(∀(hi:i<l.length),b=decide (l[i]<x))->(¬i<l.length->b=false)->FC.J1 (FC.AR l x n) (i:Int) l x b=some (ins l x):=by intro b g f;unfold FC.J1;by_cases hi:i<l.length;rw[g hi];by_cases d:l[i]<x;rw[A6 d,AX ah];refine oV l x o n (i+1) ah ah λk j m=>?_;grind;rw[Aa d];have c:=jK l x i h1 h3 (λ_=>d);unfold FC.J2 FC.J3 ins;rw[A6 ah,Bm hi,AAG,c,AAO hi];by_cases e:l[i]=x;simp[e];have:(l[i]==x)=false:=(by simpa using e);rw[this,AAL ak,AAi,AAM ⟨ah,ah⟩,Bb an,Bb an,AAM ⟨ah,ah⟩,Bb an,AAL aA];have p:(l.drop i).take (l.length-i)=l.drop i:=AAo am;grind;rw[f hi,AAL ak];have c:=jK l x i h1 h3 (λh=>absurd h hi);have a:i=l.length:=ah;unfold FC.J2 FC.J3 ins;rw[Aa ah,AAL ak,c,AAi,AAM ⟨ah,ah⟩,Bb an,Bb an,AAM ⟨ah,ah⟩,Bb an,AAL (by simp[a])];simp_all
  by_cases hi:i<l.length;rw[A6 ah,Bm hi,AAG];grind;grind
theorem Put_eq(l:i6)(x:Int)(a:l.length<=1000000000):FC l x=some (ins l x):=oV l x a BQ 0 ah bh (λk b h=>ah)
theorem Union.L2(b:i6):∀(n i:Nat)(out:i6),i<=b.length->b.length<n+i->out.length+b.length<=1000000000+i->b.length<=1000000000->En.Bs b n out (i:Int)=some ((b.drop i).foldl ins out)|0,i,out,h1,h2,h3,h4=>ah|n+1,i,out,h1,h2,h3,h4=>by unfold En.Bs En.L2;by_cases hi:i<b.length;have a:=aB out b[i];rw[A6 ah,Bm hi,AAG,Put_eq _ _ ah,AAG,AX ah,Union.L2 b n (i+1) _ ah ah ah h4,D1 hi,List.foldl_cons];rw[Aa ah,Et hi];rfl
theorem Union.L1(a b:i6)(c:a.length+b.length<=1000000000):∀(n i:Nat)(out:i6),i<=a.length->a.length<n+i->out.length<=i->En.AR a b n out (i:Int)=some (b.foldl ins ((a.drop i).foldl ins out))|0,i,out,h1,h2,h3=>ah|n+1,i,out,h1,h2,h3=>by unfold En.AR En.L1;by_cases hi:i<a.length;have d:=aB out a[i];rw[A6 ah,Bm hi,AAG,Put_eq _ _ ah,AAG,AX ah,Union.L1 a b c n (i+1) _ ah ah ah,D1 hi,List.foldl_cons];rw[Aa ah,Et hi];unfold En.J1;have:=Union.L2 b BQ 0 out ah bh ah ah;simp_all
theorem oZ(a b:i6)(c:a.length+b.length<=1000000000):En a b=some (PS (a++b)):=by have:=Union.L1 a b c BQ 0 [] ah bh ak;rw[AAn,<- List.foldl_append]at this;refine Eq.trans this ?_;rw[<- insAll_eq];rfl
theorem QF(l:i6)(x:Int)(c:l.length<=1000000000):∀(n i:Nat)(out:i6),i<=l.length->l.length<n+i->out.length<=i->Ep.AR l x n out (i:Int)=some (out++(l.drop i).filter λy=>!(y==x))|0,i,out,h1,h2,h3=>ah|n+1,i,out,h1,h2,h3=>by unfold Ep.AR Ep.L1;by_cases hi:i<l.length;unfold Ep.J1;rw[A6 ah,Bm hi,AAG,D1 hi,List.filter_cons,AX ah];by_cases e:l[i]=x;have a:(l[i] != x)=false:=(by simp[e]);have b:(!(l[i]==x))=false:=(by simp[e]);rw[a,b,AAL ak,AAL ak];exact QF l x c n (i+1) out ah ah ah;have a:(l[i] != x):=(by simpa using e);have b:(!(l[i]==x)):=(by simpa using e);rw[a,b,AAM rfl,AAM rfl,Bb ah,QF l x c n (i+1) _ ah ah an];simp;rw[Aa ah,Et hi];simp[Ep.J2]
theorem yX(l:i6)(x:Int)(a:l.length<=1000000000):Ep l x=some (l.filter λy=>!(y==x)):=by have:=QF l x a BQ 0 [] ah bh ak;rw[AAn]at this;exact this
def Ic(x:AM)(o:Int):Bool:=x.dm==3&&x.D7==o
def CJ(o:Int):Nat->List AM->List Int|_,[]=>[]|i,x::r=>if Ic x o=true then(i:Int)::CJ o (i+1) r else CJ o (i+1) r
theorem Si(o:Int)(T:kx):∀i,(CJ o i T).length<=T.length:=by induction T with|nil=>intro i;simp[CJ]|cons x r ih=>intro i;have:=ih (i+1);unfold CJ;grind
theorem Jo(o:Int)(T:kx):∀(i:Nat)(u:Int),u∈CJ o i T->(i:Int)<=u/\u<((i+T.length:Nat):Int):=by induction T with|nil=>intro i u h;simp[CJ]at h|cons x r ih=>intro i u h;unfold CJ at h;grind
theorem s8(x:AM)(o:Int):Gu x o=some (Ic x o):=by unfold Gu Gu.J1 Ic;grind
theorem PX(s:AQ)(o:Int)(a:s.AA.length<=1000):∀(n i:Nat)(l:i6),i<=s.AA.length->s.AA.length<n+i->l.length<=i->DD.AR o s n l (i:Int)=some (l++CJ o i (s.AA.drop i))|0,i,l,h1,h2,h3=>ah|n+1,i,l,h1,h2,h3=>by unfold DD.AR DD.L1;by_cases hi:i<s.AA.length;unfold DD.J1 DD.J2;rw[A6 ah,Bm hi,AAG,D1 hi,CJ,AX ah,Bb ah];have b:=PX s o a n (i+1) (l++[(i:Int)]) ah ah an;have c:=PX s o a n (i+1) l ah ah ah;unfold Ic;grind;rw[Aa ah,Et hi];simp[DD.J3,CJ]
theorem Wj(s:AQ)(o:Int)(a:s.AA.length<=1000):DD s o=some (CJ o 0 s.AA):=by have:=PX s o a BQ 0 [] ah bh ak;rw[AAn]at this;exact this
def N0(wake:Int):Int->List Int->Int|c,[]=>c|c,w::r=>N0 wake (if c<0\/w=wake then w else c) r
theorem p8(wake:Int)(W:i6)(a:∀w∈W,0<=w):∀c,0<=c->N0 wake c W=if W.contains wake=true then wake else c:=by induction W with|nil=>intro c _;simp[N0]|cons w r ih=>intro c b;have d:=ih (λw h=>a w (ABH _ h));unfold N0;grind
def EU(wake:Int)(W:i6):Int:=if W=[]then -1 else if W.contains wake=true then wake else W.headD 0
theorem wH(wake:Int)(W:i6)(a:∀w∈W,0<=w):N0 wake (-1) W=EU wake W:=by cases W with|nil=>rfl|cons w r=>unfold N0 EU;rw[AAM (.inl ah),p8 wake r (λw h=>a w (ABH _ h)) w (a w (ABD ..)),AAL (c:=w::r=[]) ak];grind
theorem Xo(T:kx)(o wake:Int)(a:T.length<=1000):∀(n i:Nat)(c:Int),i<=T.length->T.length<n+i->Dp.AR o T wake n c (i:Int)=Dp.J3 T (N0 wake c (CJ o i (T.drop i)))|0,i,c,h1,h2=>ah|n+1,i,c,h1,h2=>by unfold Dp.AR Dp.L1;by_cases hi:i<T.length;(unfold Dp.J1 Dp.J2;rw[A6 ah,Bm hi,AAG,s8,AAG,D1 hi,CJ,AX ah];have b:=λc=>Xo T o wake a n (i+1) c ah ah;simp only[b];cases Ic T[i] o with|false=>simp|true=>simp only[AAl,N0];grind);rw[Aa ah,Et hi];rfl
def Iu(x:AM):AM:=⟨4,x.D7,x.d6⟩
def Hz(o:Int)(x:AM):AM:=if Ic x o=true then Iu x else x
theorem notify_eq(tx:Int)(T:kx)(o wake:Int)(a:T.length<=1000):Dp tx T o wake=some (EU wake (CJ o 0 T),if CJ o 0 T=[]then T else T.set (EU wake (CJ o 0 T)).toNat (Iu (ix T (EU wake (CJ o 0 T))))):=by have h:=Xo T o wake a BQ 0 (-1) ah bh;rw[AAn,wH _ _ (λw c=>(Jo o T 0 w c).1)]at h;refine Eq.trans h ?_;unfold Dp.J3 Dp.J4;by_cases e:CJ o 0 T=[];rw[e];simp[EU];(have b:EU wake (CJ o 0 T)∈CJ o 0 T:=by unfold EU;rw[AAL e];split;simp_all;cases hW:CJ o 0 T with|nil=>simp_all|cons w r=>simp);have d:=Jo o T 0 _ b;rw[AAL e,A6 ah,Bz (A0.2 ah)];rfl
theorem NO(T:kx)(o:Int)(d:T.length<=1000):∀(n i:Nat)(c:Nat),i<=T.length->T.length<n+i->c<=i->Dh.AR o T n ((T.take i).map (Hz o)++T.drop i) (c:Int) (i:Int)=some (((c+(CJ o i (T.drop i)).length:Nat):Int),T.map (Hz o))|0,i,c,h1,h2,_=>ah|n+1,i,c,h1,h2,h3=>by unfold Dh.AR Dh.L1;by_cases hi:i<T.length;(have a:((T.take i).map (Hz o)).length=i:=an;have f:gt ((T.take i).map (Hz o)++T.drop i) (i:Int)=some T[i]:=(by rw[Jv,AAp (by omega),a,Nat.sub_self,D1 hi];rfl);unfold Dh.J1;rw[A6 ah,f,AAG,s8,AAG,AX (i:=i) ah,AX (i:=c) ah,AAi];have b:∀y,y=Hz o T[i]->(T.take i).map (Hz o)++y::T.drop (i+1)=(T.take (i+1)).map (Hz o)++T.drop (i+1):=(by rintro y rfl;rw[<- AAe hi,AAu];simp);have g:((T.take i).map (Hz o)++T.drop i).set i (AM.mk 4 T[i].D7 T[i].d6)=(T.take i).map (Hz o)++AM.mk 4 T[i].D7 T[i].d6::T.drop (i+1):=(by rw[List.set_append_right _ _ (by omega),a,Nat.sub_self,D1 hi];rfl);have e:(T.take i).map (Hz o)++T.drop i=(T.take i).map (Hz o)++T[i]::T.drop (i+1):=(by rw[<- D1 hi]);rw[g,e,D1 hi,CJ];cases hw:Ic T[i] o with|true=>rw[AAM rfl,AAM rfl,b _ (by simp[Hz,hw,Iu]),NO T o d n (i+1) (c+1) ah ah ah];grind|false=>rw[AAL ak,AAL ak,b _ (by simp[Hz,hw]),NO T o d n (i+1) c ah ah ah]);rw[Aa ah,Et hi,AAo ah];simp[Dh.J2,CJ]
theorem mM(tx:Int)(T:kx)(o:Int)(a:T.length<=1000):Dh tx T o=some (((CJ o 0 T).length:Int),T.map (Hz o)):=by have:=NO T o a BQ 0 0 ah bh ah;simp only[List.take_zero,AAv,AAn,List.nil_append,AA7]at this;exact this
structure Wb (s:AQ):Prop where
 l:s.AK.length<=1000
 d:s.Br.length<=1000
 t:s.AA.length<=1000
 r:RB 1000000 s
theorem Zm(s:AQ)(b:Wb s):∀(n i:Nat),i<=s.AK.length->s.AK.length<n+i->Ey.AR s n (s.AK.take i++List.replicate (s.AK.length-i) ⟨0,[]⟩) (i:Int)=some s|0,i,h1,h2=>ah|n+1,i,h1,h2=>by have:=b.l;have:=b.d;have:=b.t;unfold Ey.AR Ey.L1;by_cases hi:i<s.AK.length;have a:(s.AK.take i).length=i:=an;have e:List.replicate (s.AK.length-i) (AW.mk 0 [])=AW.mk 0 []::List.replicate (s.AK.length-(i+1)) (AW.mk 0 []):=(by rw[show s.AK.length-i=(s.AK.length-(i+1))+1 from by omega,List.replicate_succ]);have c:gt (s.AK.take i++List.replicate (s.AK.length-i) (AW.mk 0 [])) (i:Int)=some ⟨0,[]⟩:=(by rw[Jv,e,AAp (by omega),a];simp);have f:(s.AK.take i++List.replicate (s.AK.length-i) (AW.mk 0 [])).set i s.AK[i]=s.AK.take (i+1)++List.replicate (s.AK.length-(i+1)) (AW.mk 0 []):=(by rw[e,List.set_append_right _ _ (by omega),a,Nat.sub_self,List.set_cons_zero,<- AAe hi,ABO];rfl);have g:=b.r _ (AAS hi);unfold slices_Clone_int;rw[A6 ah,Bm hi,AAG,Bb ah,AAG,c,AAG,AX ah,AAi];show Ey.AR s n ((s.AK.take i++List.replicate (s.AK.length-i) (AW.mk 0 [])).set i s.AK[i]) _=_;rw[f];exact Zm s b n (i+1) ah ah;rw[Aa ah,AAo ah,show s.AK.length-i=0 from by omega];unfold Ey.J1 LM Hb;rw[Bb ah,AAG,Bb ah,AAG];simp
theorem clone_eq(s:AQ)(a:Wb s):Ey s=some s:=by have:=a.l;unfold Ey;rw[AAM ⟨ah,ah,Bq ah⟩];have h:=Zm s a BQ 0 ah bh;simp_all
theorem gS(s:AQ)(a:Wb s)(tx:Int)(D:ko)(T:kx):∀(n i:Nat),i<=s.AK.length->s.AK.length<n+i->GM.AR s n ⟨s.AK.take i,tx,D,T⟩ (i:Int)=some ⟨s.AK,tx,D,T⟩|0,i,h1,h2=>ah|n+1,i,h1,h2=>by have:=a.l;unfold GM.AR GM.L1;by_cases hi:i<s.AK.length;have b:=a.r _ (AAS hi);rw[A6 ah,Bm hi,AAG,Bb ah,Bb an,AX ah];simp only[AAe hi];exact gS s a tx D T n (i+1) ah ah;rw[Aa ah,AAo ah];rfl
theorem eC(s:AQ)(a:Wb s):GM s=some s:=by have:=a.l;have:=a.d;have:=a.t;unfold GM;rw[Bb ah,Bb ah];exact gS s a s.Tx s.Br s.AA BQ 0 ah bh
def KI(s:AQ)(i:Int)(f:AM->AM):AQ:=⟨s.AK,s.Tx,s.Br,s.AA.set i.toNat (f (ix s.AA i))⟩
def HN(s:AQ)(i:Int)(f:AW->AW):AQ:=⟨s.AK.set i.toNat (f (ix s.AK i)),s.Tx,s.Br,s.AA⟩
def Cr(wv:AG)(s:AQ)(t k o wake:Int):AQ×Int:=if k=1 then(KI s t λx=>⟨2,x.D7,x.d6⟩,0)
 else if k=2 then(KI s t λx=>⟨5,x.D7,x.d6⟩,0)
 else if k=6\/k=10 then(HN s o λx=>⟨t,x.Am⟩,0)
 else if k=7\/k=11 then(HN s o λx=>⟨-1,x.Am⟩,0)
 else if k=8 then(HN s o λx=>⟨x.B6,PS (x.Am++[t])⟩,0)
 else if k=9 then(HN s o λx=>⟨x.B6,x.Am.filter λy=>!(y==t)⟩,0)
 else if k=12 then(⟨s.AK,t,s.Br,s.AA⟩,0)
 else if k=13 then(⟨s.AK, -1,s.Br,s.AA⟩,0)
 else if k=14 then(KI s t λx=>⟨x.dm,x.D7,true⟩,0)
 else if k=15 then(KI s t λx=>⟨x.dm,x.D7,false⟩,0)
 else if k=16 then(KI (HN s (ix wv.Al o).dr λx=>⟨-1,x.Am⟩) t λx=>⟨3,o,x.d6⟩,0)
 else if k=17 then(KI (HN s (ix wv.Al o).dr λx=>⟨t,x.Am⟩) t λx=>⟨2,0,x.d6⟩,0)
 else if k=18 then(if CJ o 0 s.AA=[]then s else KI s (EU wake (CJ o 0 s.AA)) Iu,EU wake (CJ o 0 s.AA))
 else if k=19 then(⟨s.AK,s.Tx,s.Br,s.AA.map (Hz o)⟩,((CJ o 0 s.AA).length:Int))
 else if k=20 then(KI s o λx=>⟨1,x.D7,x.d6⟩,0)
 else if k=22 then(⟨s.AK,s.Tx,s.Br.set o.toNat true,s.AA⟩,0)
 else(s,0)
def wS:AQ:=⟨[],0,[],[]⟩
def OU(wv:AG)(s:AQ)(t k o wake:Int):AQ×Int×Bool:=if B0 wv s t k o=true then((Cr wv s t k o wake).1,(Cr wv s t k o wake).2,true)else(wS,0,false)
theorem dC(b:CC t g.length)(a:AM):gt (g.set t.toNat a) t=some a:=by obtain⟨c,d⟩:=A0.1 b;have:t.toNat<g.length:=ah;unfold gt;simp_all
theorem Wb.of(a:Small wv)(b:He wv s)(c:RB 1000000 s):Wb s:=by obtain⟨d,e,g⟩:=Dl b;have:=a.l;have:=a.f;have:=a.t;exact⟨ah,ah,ah,c⟩
def RB.mono(h:RB i s)(a:i<=n):RB n s:=λx b=>ABB (h x b) a
theorem Sort_eq(l:i6)(a:l.length<=1000000000):OL l=some (TS l):=by unfold OL;rw[AAM ah];rfl
theorem uK(l:i6)(a:l.length<=1000000000):slices_Compact l=some (Lib.compact l):=by unfold slices_Compact;grind
theorem YR(wv:AG)(n:Small wv)(s:AQ)(g:RB 1000000 s)(t o wake:Int):∀k,GG wv s t k o wake=some (OU wv s t k o wake):=by
  intro k;unfold GG OU;rw[OA wv n s (g.mono ah),AAG];cases he:B0 wv s t k o with
  |false=>rfl
  |true=>
    have a:=he;unfold B0 at a;simp only[AAH]at a;obtain⟨f,I,c,d⟩:=a;obtain⟨J,U,K⟩:=Dl f;have b:=Wb.of n f g;have j:CC t s.AA.length:=(by rw[K];exact I);have m:gt s.AA t=some (ix s.AA t):=Bz j;have e:=dC j;have H:=g.ix o;have i:(TS ((ix s.AK o).Am++[t])).length<=1000000000:=(by rw[VR];simp;omega);have F:=notify_eq s.Tx s.AA o wake b.t;have E:=mM s.Tx s.AA o b.t;rw[clone_eq s b,AAG,AAL ak];clear he;revert c d;revert k;refine kinds ?_ ?_ ?_ ?_ ?_ ?_ ?_ ?_ ?_ ?_ ?_ ?_ ?_ ?_ ?_ ?_ ?_ ?_ ?_ ?_ ?_ ?_ ?_ (λk L M N O P Q R S T q r X u v w W x y z V B C D=>?_);all_goals
      intro c d;unfold Cr;simp(decide:=true)only[BC,AA6,or_true,true_or,false_or,AAl,AAY,AAH]at c;simp(decide:=true)only[GG.J1,GG.J2,GG.J3,ABF,AAT,AAl,AAY,AA6,or_true,true_or,false_or,AAR]
    all_goals first
      |done
      | (rw[m,AAG];rfl)
      | (rw[Bz (l:=s.AK) am,AAG];rfl)
      | (rw[Bz (l:=s.AK) am,AAG,Bb ah,Sort_eq _ an,AAG,uK _ i,AAG];rfl)
      | (rw[Bz (l:=s.AK) am,AAG]
         unfold Jg;have p:(ix s.AK o).Am≠[]:=(by intro h;simp(decide:=true)only[Eg,AAl,AAY,AA6,or_true,true_or,false_or,h,List.contains_nil,Bool.and_false,AAR]at d);rw[AAM ⟨p,ah⟩,AAG];rfl)
      | (rw[Bz (l:=wv.Al) c,AAG,Bz (l:=s.AK) (by rw[J];exact Gr f c),AAG,m,AAG,e,AAG];simp only[List.set_set];rfl)
      | (rw[F,AAG];simp only;by_cases G:CJ o 0 s.AA=[]<;>simp only[G,AAl,AAY]<;>rfl)
      | (rw[E,AAG];done)
      | (rw[Bz (l:=s.AA) am,AAG];rfl)
      | (rw[Bz (l:=s.Br) am,AAG];done)
      |rfl
      |simp_all
      |skip
theorem setAll(o:Int)(a:kx):∀(pre:kx),(CJ o pre.length a).foldl (λT (u:Int)=>T.set u.toNat (Iu (ix T u))) (pre++a)=pre++a.map (Hz o):=by
 induction a with
 |nil=>intro pre;simp[CJ]
 |cons x r ih=>
  intro pre;unfold CJ;have c:ix (pre++x::r) ((pre.length:Nat):Int)=x:=by unfold ix;rw[AAi,AAp (AAj _)];simp
  have b:=λy=>ih (pre++[y]);simp only[AAx,ABL,ABS,AA7,ABO,List.singleton_append]at b;cases hw:Ic x o with|true=>rw[AAM rfl,List.foldl_cons,c,AAi,List.set_append_right _ _ (AAj _),Nat.sub_self,List.set_cons_zero,b];simp[Hz,hw]|false=>rw[AAL ak,b];simp[Hz,hw]
theorem Xq(W:i6)(a:W.length<=1000000):∀(n i:Nat)(s:AQ),i<=W.length->W.length<n+i->(∀u∈W,CC u s.AA.length)->Du.AR W n s (i:Int)=some (⟨s.AK,s.Tx,s.Br,(W.drop i).foldl (λT (u:Int)=>T.set u.toNat (Iu (ix T u))) s.AA⟩,(W.length:Int),true)|0,i,s,h1,h2,_=>ah|n+1,i,s,h1,h2,h3=>by unfold Du.AR Du.L1;by_cases hi:i<W.length;rw[A6 ah,Bm hi,AAG,Bz (h3 _ (AAS hi)),AAG,AX ah,Xq W a n (i+1) _ ah ah am,D1 hi,List.foldl_cons];rfl;rw[Aa ah,Et hi];rfl
theorem NT(wv:AG)(H:Small wv)(s:AQ)(B:RB 1000000 s)(t o wake:Int):∀k,Du wv s t k o wake=some (OU wv s t k o wake):=by
 intro k;unfold Du OU;rw[Lk wv H s (B.mono ah),AAG];cases he:B0 wv s t k o with
 |false=>rfl
 |true=>
  have a:=he;unfold B0 at a;simp only[AAH]at a;obtain⟨z,W,d,D⟩:=a;obtain⟨X,l2,Z⟩:=Dl z;have b:=Wb.of H z B;have C:CC t s.AA.length:=by rw[Z];exact W
  have E:gt s.AA t=some (ix s.AA t):=Bz C;have y:=dC C;have V:=B.ix o;have S:=Wj s o b.t;have T:=Si o s.AA 0;have U:=b.t;rw[eC s b,AAG,AAL ak];clear he;revert d D;revert k;refine kinds ?_ ?_ ?_ ?_ ?_ ?_ ?_ ?_ ?_ ?_ ?_ ?_ ?_ ?_ ?_ ?_ ?_ ?_ ?_ ?_ ?_ ?_ ?_ (λk I J K L M N O P Q f g zX h i j wR m n p tO q v x=>?_);all_goals
   intro d D;unfold Cr;simp(decide:=true)only[BC,AA6,or_true,true_or,false_or,AAl,AAY,AAH]at d;simp(decide:=true)only[Du.J1,Du.J2,Du.J5,ABF,AAT,AAl,AAY,AA6,or_true,true_or,false_or,AAR]
  all_goals first|done| (rw[E,AAG];rfl)| (rw[Bz (l:=s.AK) am,AAG];rfl)| (rw[Bz (l:=s.AK) am,AAG,oZ _ _ an,AAG];rfl)| (rw[Bz (l:=s.AK) am,AAG,yX _ _ ah,AAG];rfl)| (rw[Bz (l:=wv.Al) d,AAG,Bz (l:=s.AK) (by rw[X];exact Gr z d),AAG,E,AAG,y,AAG];simp only[List.set_set];rfl)| (rw[Bz (l:=s.AA) am,AAG];rfl)| (rw[Bz (l:=s.Br) am,AAG];done)|rfl| (exfalso;revert d;simp only[I,J,K,L,M,N,O,P,Q,f,g,zX,h,i,j,wR,m,n,p,tO,q,v,x,AAY,or_self,AAR,imp_self];done)|skip
  (rw[S,AAG];cases hWW:CJ o 0 s.AA with|nil=>rfl|cons w r=>have F:(w::r).length<=1000:=(by rw[<- hWW];omega);have e:∀u,u∈w::r->CC u s.AA.length:=λu G=>(by have:=Jo o s.AA 0 u (by simp_all);exact A0.2 (by omega));have R:gt (w::r) 0=some w:=rfl;rw[A6 am,R,AAG,oQ _ _ ah,AAG];unfold Du.J3 Du.J5 EU;rw[AAL (c:=w::r=[]) ak,AAL (c:=w::r=[]) ak];cases hc:(w::r).contains wake with|true=>rw[AAM rfl,Bz (e wake am),AAG];rfl|false=>rw[AAL ak,Bz (e w (ABD ..)),AAG];rfl);have e:∀u,u∈CJ o 0 s.AA->CC u s.AA.length:=λu G=>(by have:=Jo o s.AA 0 u G;exact A0.2 (by omega));have h1:=Xq (CJ o 0 s.AA) ah BQ 0 s ah bh e;have h2:=setAll o s.AA [];simp_all
instance:Inhabited AQ:=⟨wS⟩
def Pg:AD:=⟨wS,[],[],[]⟩
def KW(ev:AH):Prop:=ev.Dy.length<4611686018427387904/\ev.DS.length<4611686018427387904
def OD(wv:AG)(ev:AH):Bool:=if ev.de=1\/ev.de=2 then ev.d7== -1 else CC ev.d7 wv.Bt.length&&(ix wv.Bt ev.d7).db==ev.db
def Gk(c:Int):Int->List Int->Bool|_,[]=>true|last,x::r=>decide (last<x)&&(decide (x<c)&&Gk c x r)
def QJ(wv:AG)(ev:AH):Bool:=if ev.de=3\/ev.de=4 then(ix wv.di ev.dq).CM != 0 else false
def Ei(wv:AG)(s:AD)(ev:AH):Bool:=((ev.Dy.isEmpty||(ev.de==5||QJ wv ev))&&Gk (ix s.dh ev.db) 0 ev.Dy)&&((ev.DS.isEmpty||(ev.de==4||ev.de==22))&&Gk (ix s.dh ev.db) 0 ev.DS)
def Hy(s:AD)(ev:AH):Bool:=if ev.de=3 then ev.dn==ix s.di ev.dq
 else if ev.de=23 then ev.dn==ix s.AL ev.dq
 else if ev.de=5 then ev.dn==0||ev.dn==1
 else if ev.de=4\/ev.de=22 then true
 else if ev.de=18 then(CJ ev.dq 0 s.df.AA).contains ev.dn||((CJ ev.dq 0 s.df.AA).isEmpty&&ev.dn== -1)
 else if ev.de=19 then ev.dn==((CJ ev.dq 0 s.df.AA).length:Int)
 else ev.dn==0
theorem placed_eq(wv:AG)(ev:AH):EB wv ev=some (OD wv ev):=by unfold EB EB.J1 OD;by_cases d:ev.de=1;simp[d];by_cases e:ev.de=2;simp[e];have f:(ev.de==1)=false:=(by simpa using d);have g:(ev.de==2)=false:=(by simpa using e);rw[f,g,AAL (c:=ev.de=1\/ev.de=2) ah];simp only[AAR,AAY];unfold EB.J2;by_cases a:ev.d7>=0;by_cases b:ev.d7<(wv.Bt.length:Int);have hi:CC ev.d7 wv.Bt.length:=A0.2 ⟨a,b⟩;rw[A6 a,A6 b,Bz hi,AAG,hi];rfl;have:CC ev.d7 wv.Bt.length=false:=br;grind;have:CC ev.d7 wv.Bt.length=false:=br;grind
theorem dec.L2(L1:ja)(ev:AH)(l:i6)(s:AD)(t:Int)(b:gt s.dh ev.db=some (ix s.dh ev.db))(c:l.length<4611686018427387904):∀(n i:Nat)(a:Int),i<=l.length->l.length<n+i->Ah.Bs L1 ev l s t n a (i:Int)=if Gk (ix s.dh ev.db) a (l.drop i)=true then Ah.J6 L1 t else some false|0,i,a,h1,h2=>ah|n+1,i,a,h1,h2=>by unfold Ah.Bs Ah.L2;by_cases hi:i<l.length;unfold Ah.J5;rw[A6 ah,Bm hi,AAG,b,D1 hi,AX ah,dec.L2 L1 ev l s t b c n (i+1) _ ah ah];generalize l[i]=x;rw[Gk];grind;rw[Aa ah,Et hi];simp[Gk]
theorem Zg:BQ=(BQ-3)+3:=rfl
theorem det.J4(L1:ja)(ev:AH)(l:i6)(s:AD)(t:Int)(a:gt s.dh ev.db=some (ix s.dh ev.db))(c:l.length<4611686018427387904)(b:Bool):Ah.J4 L1 ev l s t b=if(!b&&Gk (ix s.dh ev.db) 0 l)=true then Ah.J6 L1 t else some false:=by unfold Ah.J4;cases b with|true=>simp|false=>have:=dec.L2 L1 ev l s t a c BQ 0 0 ah bh;simp_all
theorem det.J2(wv:AG)(s:AD)(ev:AH)(g:KW ev)(e:gt s.dh ev.db=some (ix s.dh ev.db))(a b:Bool):Ah.J2 ev s a b=some (((ev.Dy.isEmpty||a)&&Gk (ix s.dh ev.db) 0 ev.Dy)&&((ev.DS.isEmpty||b)&&Gk (ix s.dh ev.db) 0 ev.DS)):=by
 unfold Ah.J2;rw[Zg];generalize BQ-3=m;have i:Ah.AR a b ev s (m+1) 2=some true:=by unfold Ah.AR Ah.L1;rfl
 have d:∀(L1:ja)(t:Int)(l:i6)(c:Bool),l.length<4611686018427387904->(t=0/\c=a\/t=1/\c=b)->Ah.J3 L1 a b ev s t l=if((l.isEmpty||c)&&Gk (ix s.dh ev.db) 0 l)=true then Ah.J6 L1 t else some false:=by intro L1 t l c f j;unfold Ah.J3;rw[det.J4 _ _ _ _ _ e f,det.J4 _ _ _ _ _ e f,det.J4 _ _ _ _ _ e f];cases l with|nil=>simp|cons x r=>grind
 have h:Ah.AR a b ev s (m+2) 1=some ((ev.DS.isEmpty||b)&&Gk (ix s.dh ev.db) 0 ev.DS):=by unfold Ah.AR Ah.L1;rw[A6 bg,AAL bg,AAM bg,d _ 1 ev.DS b g.2 (.inr ⟨rfl,rfl⟩)];unfold Ah.J6;rw[show A8 (1+1)=2 from rfl,i];cases((ev.DS.isEmpty||b)&&Gk (ix s.dh ev.db) 0 ev.DS)<;>rfl
 unfold Ah.AR Ah.L1;rw[A6 bg,AAM bg,d _ 0 ev.Dy a g.1 (.inl ⟨rfl,rfl⟩)];unfold Ah.J6;rw[show A8 (0+1)=1 from rfl,h];grind
theorem eX(wv:AG)(s:AD)(ev:AH)(f:KW ev)(d:gt s.dh ev.db=some (ix s.dh ev.db))(g:ev.de=3\/ev.de=4->CC ev.dq wv.di.length):Ah wv s ev=some (Ei wv s ev):=by
 have a:∀e,e=QJ wv ev->Ah.J1 ev s e=some (Ei wv s ev):=by intro e h;unfold Ah.J1 Ei;rw[det.J2 wv s ev f d,det.J2 wv s ev f d,det.J2 wv s ev f d,det.J2 wv s ev f d,h];by_cases i:ev.de=5;simp[i];grind
 unfold Ah;by_cases b:ev.de=3;rw[AAM (by simp[b]),Bz (g (.inl b)),AAG];exact a _ (by simp[QJ,b]);rw[AAL am];by_cases c:ev.de=4;rw[AAM (by simp[c]),Bz (g (.inr c)),AAG];exact a _ (by simp[QJ,c]);rw[AAL am];exact a _ (by simp[QJ,b,c])
theorem dP.L1(ev:AH)(s:AD)(f:s.df.AA.length<=1000):∀(n i w:Nat)(b:Bool),i<=s.df.AA.length->s.df.AA.length<n+i->w<=i->BR.AR ev s n (w:Int) b (i:Int)=some ((b||(CJ ev.dq i (s.df.AA.drop i)).contains ev.dn)||((w+(CJ ev.dq i (s.df.AA.drop i)).length==0)&&ev.dn== -1))|0,i,w,b,h1,h2,h3=>ah|n+1,i,w,b,h1,h2,h3=>by unfold BR.AR BR.L1;by_cases hi:i<s.df.AA.length;unfold BR.J3 BR.J4;rw[A6 ah,Bm hi,AAG,D1 hi,CJ,AX (i:=i) ah,AX (i:=w) ah];have a:=λ(w':Nat) b' h=>dP.L1 ev s f n (i+1) w' b' ah ah h;rw[a (w+1) true ah,a (w+1) (ev.dn==(i:Int)) ah,a w b ah];unfold Ic;have c:∀m:Nat,(w+1+m==0)=false:=λm=>ak;have d:∀m:Nat,(w+(m+1)==0)=false:=λm=>ak;have e:(ev.dn==(i:Int))=decide (ev.dn=(i:Int)):=rfl;cases(s.df.AA[i].dm==3)<;>cases(s.df.AA[i].D7==ev.dq)<;>cases b<;>simp[c,d,e];rw[Aa ah,Et hi];unfold BR.J5 BR.J6;have:((w:Int)==0)=(w==0):=(by rw[Bool.eq_iff_iff,AAT,AAT];omega);rw[this];simp only[CJ,List.contains_nil,ABS,Nat.add_zero,Bool.or_false];grind
theorem dP.L2(ev:AH)(s:AD)(b:s.df.AA.length<=1000):∀(n i w:Nat),i<=s.df.AA.length->s.df.AA.length<n+i->w<=i->BR.Bs ev s n (w:Int) (i:Int)=some (ev.dn==((w+(CJ ev.dq i (s.df.AA.drop i)).length:Nat):Int))|0,i,w,h1,h2,h3=>ah|n+1,i,w,h1,h2,h3=>by unfold BR.Bs BR.L2;by_cases hi:i<s.df.AA.length;unfold BR.J7 BR.J8;rw[A6 ah,Bm hi,AAG,D1 hi,CJ,AX (i:=i) ah,AX (i:=w) ah];have a:=λ(w':Nat) h=>dP.L2 ev s b n (i+1) w' ah ah h;rw[a (w+1) ah,a w ah];unfold Ic;grind;rw[Aa ah,Et hi];simp[BR.J9,CJ]
theorem q6(l:List a):(0+l.length==0)=l.isEmpty:=aA
theorem valued_eq(s:AD)(ev:AH)(e:s.df.AA.length<=1000)(f:ev.de=3->CC ev.dq s.di.length)(g:ev.de=23->CC ev.dq s.AL.length):BR s ev=some (Hy s ev):=by have c:=dP.L1 ev s e BQ 0 0 false ah bh ah;have d:=dP.L2 ev s e BQ 0 0 ah bh ah;rw[AAn,q6]at c;rw[AAn,AA7]at d;simp only[Int.natCast_zero,Bool.false_or]at c d;unfold BR BR.J1 BR.J2 BR.OS Hy;by_cases a:ev.de=3;rw[AAM (by simp[a]),Bz (f a),AAG,AAM a];rw[AAL am,AAL a];by_cases b:ev.de=23;rw[AAM (by simp[b]),Bz (g b),AAG,AAM b];grind
def Ed(wv:AG)(s:AD)(ev:AH):AD:=⟨(Cr wv s.df ev.db ev.de ev.dq (if ev.de=18 then ev.dn else -1)).1,if ev.de=4 then s.di.set ev.dq.toNat ev.dn else s.di,if ev.de=22 then s.AL.set ev.dq.toNat ev.dn else s.AL,s.dh.set ev.db.toNat (A8 (ix s.dh ev.db+1))⟩
def FV(wv:AG)(s:AD)(ev:AH):Bool:=JS wv s&&(CC ev.db wv.AA.length&&(B0 wv s.df ev.db ev.de ev.dq&&(OD wv ev&&(Ei wv s ev&&Hy s ev))))
def QZ(wv:AG)(s:AD)(ev:AH):AD×Bool:=if FV wv s ev=true then(Ed wv s ev,true)else(Pg,false)
theorem IW{s:AD}(h:JS wv s):He wv s.df/\s.di.length=wv.di.length/\s.AL.length=wv.AL.length/\s.dh.length=wv.AA.length:=by unfold JS at h;simp_all
theorem Un(h:BC wv t o):1<=t/\t<=23:=by unfold BC at h;grind
theorem Y4(wv:AG)(a:Small wv)(s:AD)(k:RB 1000000 s.df)(ev:AH)(u:KW ev):CN wv s ev=some (QZ wv s ev):=by
 have z:∀b,b=true->CN.J1 ev s wv b=some (Pg,false):=by rintro b rfl;rfl
 have p:∀b,b=true->CN.J2 ev s wv b=some (Pg,false):=by rintro b rfl;rfl
 unfold CN QZ FV;rw[NY wv a,AAG];cases hf:JS wv s with|false=>rfl|true=>rw[AAL (c:=(!true)=true) ak,AAf];cases ht:CC ev.db wv.AA.length with|false=>rw[Bool.false_and,AAL (c:=false=true) ak];by_cases d:ev.db<0;simp_all;rw[Aa d];by_cases n:ev.db>=(wv.AA.length:Int);simp_all;exfalso;have:=A0.2 ⟨Int.not_lt.1 d,Int.not_le.1 n⟩;simp_all|true=>obtain⟨B,C⟩:=A0.1 ht;rw[Aa ah,Aa ah,AAf];obtain⟨j,D,E,F⟩:=IW hf;have v:=a.c;have w:=a.f;have x:=a.t;have i:=Wb.of a j k;have e:=OA wv a s.df (k.mono ah) ev.db ev.dq ev.de;cases ZA:B0 wv s.df ev.db ev.de ev.dq with|false=>rw[Bool.false_and,AAL (c:=false=true) ak];by_cases d:ev.de<1;simp_all;rw[Aa d];unfold CN.J1;by_cases n:ev.de>23;rw[AAM am];rfl;grind|true=>have l:=ZA;unfold B0 at l;simp only[AAH]at l;obtain⟨_,_,g,_⟩:=l;obtain⟨G,H⟩:=Un g;have o:gt s.dh ev.db=some (ix s.dh ev.db):=Bz am;have y:ev.de=3\/ev.de=4->CC ev.dq wv.di.length:=(by rintro(h|h)<;>simpa(decide:=true) [BC,h]using g);have I:ev.de=22\/ev.de=23->CC ev.dq wv.AL.length:=(by rintro(h|h)<;>simpa(decide:=true) [BC,h]using g);rw[Aa ah];unfold CN.J1;rw[AAL an,e,ZA,AAG,AAL (c:=(!true)=true) ak,placed_eq,AAG,AAf];cases hp:OD wv ev with|false=>rfl|true=>rw[AAL (c:=(!true)=true) ak,eX wv s ev u o y,AAG,AAf];cases hd:Ei wv s ev with|false=>rfl|true=>rw[AAL (c:=(!true)=true) ak,valued_eq s ev i.t (λh=>am) (λh=>am),AAG,AAf];cases hv:Hy s ev with|false=>rfl|true=>(rw[AAM rfl];unfold CN.J2;have r:∀wake,wake=(if ev.de=18 then ev.dn else -1)->CN.J3 ev s wv wake=some (Ed wv s ev,true):=by rintro wake rfl;unfold CN.J3;rw[YR wv a s.df k,AAG];unfold OU;rw[ZA,AAM rfl,AAL ak];unfold JA slices_Clone_int;rw[Bb ah,AAG,Bb ah,AAG,Bb ah,AAG];unfold CN.J4 Ed;simp only[o,AAG];by_cases q:ev.de=4;rw[AAM (by simp[q]),Bz am,AAG];simp[q];rw[AAL am];by_cases m:ev.de=22;rw[AAM (by simp[m]),Bz am,AAG];simp[m];simp_all);grind
theorem VV(c:Int)(l:i6)(f:l.length<4611686018427387904):∀(n i:Nat)(a:Int),i<=l.length->l.length<n+i->(∀(h:0<i)(o:i-1<l.length),a=l[i-1])->(i=0->a=0)->(0<i->1<=a)->EW.AR c l n (i:Int)=some (Gk c a (l.drop i))|0,i,a,h1,h2,_,_,_=>ah|n+1,i,a,h1,h2,h3,h4,h5=>by unfold EW.AR EW.L1;by_cases hi:i<l.length;have k:1<=l[i]->EW.AR c l n ((i+1:Nat):Int)=some (Gk c l[i] (l.drop (i+1))):=λj=>VV c l f n (i+1) l[i] ah ah (λ_ _=>rfl) ah (λ_=>j);unfold EW.J1;rw[A6 ah,Bm hi,AAG,D1 hi,AX ah,Gk];by_cases b:l[i]<1;(have:¬a<l[i]:=by by_cases e:i=0;omega;omega);grind;rw[Aa b,k ah];by_cases d:l[i]>=c;grind;have m:l[i]<c:=ah;rw[Aa d];by_cases e:i=0;grind;have g:=h3 ah ah;rw[A6 ah,CD ah ah,show(i:Int)-1=((i-1:Nat):Int)from by omega,Bm ah,AAG,<- g];grind;rw[Aa ah,Et hi];rfl
theorem aX(c:Int)(l:i6)(a:l.length<4611686018427387904):EW l c=some (Gk c 0 l):=by have:=VV c l a BQ 0 0 ah bh ah (λ_=>rfl) ah;rw[AAn]at this;exact this
theorem value_eq(s:AD)(ev:AH)(m:s.df.AA.length<=1000)(i:ev.de=3->CC ev.dq s.di.length)(o:ev.de=23->CC ev.dq s.AL.length):G4 s ev=some (Hy s ev):=by have k:=Wj s.df ev.dq m;have e:=Si ev.dq s.df.AA 0;unfold G4 G4.J1 G4.J2 Hy;rw[k,AAG,AAG];by_cases b:ev.de=3;rw[AAM (by simp[b]),Bz (i b),AAG,AAM b];rw[AAL am,AAL b];by_cases a:ev.de=23;rw[AAM (by simp[a]),Bz (o a),AAG,AAM a];rw[AAL am,AAL a];by_cases n:ev.de=5;grind;rw[AAL am,AAL n];by_cases h:ev.de=4;simp[h];have j:(ev.de==4)=false:=(by simpa using h);rw[j];by_cases f:ev.de=22;simp[f];have d:(ev.de==22)=false:=(by simpa using f);rw[d,AAL (c:=ev.de=4\/ev.de=22) ah];simp only[AAR,AAY];by_cases g:ev.de=18;(rw[AAM (by simp[g]),AAM g];have l:=Jo ev.dq s.df.AA 0;cases hWW:CJ ev.dq 0 s.df.AA with|nil=>simp|cons w r=>rw[hWW]at e l;unfold G4.J3;rw[AAL an,oQ _ _ ah,AAG];grind);grind
theorem RQ(wv:AG)(a:Small wv)(s:AD)(B:RB 1000000 s.df)(ev:AH)(H:KW ev):CH wv s ev=some (QZ wv s ev):=by unfold CH QZ FV;rw[TW wv a,AAG];cases hf:JS wv s with|false=>rfl|true=>rw[AAL (c:=(!true)=true) ak,Xx,AAG,AAf];cases ht:CC ev.db wv.AA.length with|false=>rfl|true=>rw[AAL (c:=(!true)=true) ak,AAf];obtain⟨y,Q,R,S⟩:=IW hf;have N:=a.c;have O:=a.f;have P:=a.t;have w:=Wb.of a y B;have g:=Lk wv a s.df (B.mono ah) ev.db ev.dq ev.de;cases ZA:B0 wv s.df ev.db ev.de ev.dq with|false=>rw[Bool.false_and,AAL (c:=false=true) ak];by_cases E:ev.de<1;rw[A6 E];rfl;rw[Aa E];by_cases F:ev.de>23;rw[A6 F];rfl;rw[Aa F,g,ZA];rfl|true=>have C:=ZA;unfold B0 at C;simp only[AAH]at C;obtain⟨_,_,v,_⟩:=C;obtain⟨T,U⟩:=Un v;have G:gt s.dh ev.db=some (ix s.dh ev.db):=Bz am;have J:ev.de=3\/ev.de=4->CC ev.dq wv.di.length:=(by rintro(h|h)<;>simpa(decide:=true) [BC,h]using v);have V:ev.de=22\/ev.de=23->CC ev.dq wv.AL.length:=(by rintro(h|h)<;>simpa(decide:=true) [BC,h]using v);rw[Aa ah,Aa ah,g,ZA,AAG,AAf];unfold CH.J1;rw[AAL (c:=(!true)=true) ak];(have M:∀wake,wake=(if ev.de=18 then ev.dn else -1)->CH.J9 ev s wv wake=some (Ed wv s ev,true):=by rintro wake rfl;unfold CH.J9;rw[NT wv a s.df B,AAG];unfold OU;rw[ZA,AAM rfl];unfold CH.OS CH.Qu Ed;simp only[G,AAG];by_cases d:ev.de=4;rw[AAM (by simp[d]),Bz am,AAG];simp[d];rw[AAL (c:=(ev.de==4)=true) am];by_cases D:ev.de=22;rw[AAM (by simp[D]),Bz am,AAG];simp[D];simp_all);(have u:∀b,CH.J8 ev s wv b=if b=true then some (Pg,false)else some (Ed wv s ev,true):=by intro b;unfold CH.J8;cases b with|true=>rfl|false=>rw[AAL (c:=false=true) ak,Bb ah,Bb ah,Bb ah,AAL (c:=false=true) ak];grind);(have o:∀b,CH.J7 ev s wv b=if(!b&&(Gk (ix s.dh ev.db) 0 ev.Dy&&(Gk (ix s.dh ev.db) 0 ev.DS&&Hy s ev)))=true then some (Ed wv s ev,true)else some (Pg,false):=by intro b;unfold CH.J7;rw[G,AAG,aX _ _ H.1,AAG,aX _ _ H.2,AAG,value_eq s ev w.t (λh=>am) (λh=>am),AAG];simp only[u];cases b<;>cases Gk (ix s.dh ev.db) 0 ev.Dy<;>cases Gk (ix s.dh ev.db) 0 ev.DS<;>cases Hy s ev<;>rfl);(have n:∀b,CH.J6 ev s wv b=if(!b&&((ev.DS.isEmpty||(ev.de==4||ev.de==22))&&(Gk (ix s.dh ev.db) 0 ev.Dy&&(Gk (ix s.dh ev.db) 0 ev.DS&&Hy s ev))))=true then some (Ed wv s ev,true)else some (Pg,false):=by intro b;unfold CH.J6;simp only[o];cases b with|true=>rfl|false=>cases hF:ev.DS with|nil=>simp|cons x r=>grind);(have L:∀b,b=(ev.de==3||ev.de==4)->CH.J5 ev s wv b=if((ev.Dy.isEmpty||(ev.de==5||QJ wv ev))&&((ev.DS.isEmpty||(ev.de==4||ev.de==22))&&(Gk (ix s.dh ev.db) 0 ev.Dy&&(Gk (ix s.dh ev.db) 0 ev.DS&&Hy s ev))))=true then some (Ed wv s ev,true)else some (Pg,false):=by rintro b rfl;unfold CH.J5;simp only[n];cases hD:ev.Dy with|nil=>simp|cons x r=>rw[A6 am];by_cases I:ev.de=5;simp[I];by_cases j:ev.de=3;have z:=Bz (l:=wv.di) (J (.inl j));simp[j,z,QJ];by_cases d:ev.de=4;have z:=Bz (l:=wv.di) (J (.inr d));simp[d,z,QJ];simp[I,j,d,QJ]);(have m:CH.J4 ev s wv=if(Ei wv s ev&&Hy s ev)=true then some (Ed wv s ev,true)else some (Pg,false):=by have e:(Ei wv s ev&&Hy s ev)=((ev.Dy.isEmpty||(ev.de==5||QJ wv ev))&&((ev.DS.isEmpty||(ev.de==4||ev.de==22))&&(Gk (ix s.dh ev.db) 0 ev.Dy&&(Gk (ix s.dh ev.db) 0 ev.DS&&Hy s ev)))):=(by unfold Ei;generalize (ev.Dy.isEmpty||(ev.de==5||QJ wv ev))=p;generalize (ev.DS.isEmpty||(ev.de==4||ev.de==22))=q;cases p<;>cases q<;>cases Gk (ix s.dh ev.db) 0 ev.Dy<;>cases Gk (ix s.dh ev.db) 0 ev.DS<;>rfl);rw[e];unfold CH.J4;by_cases j:ev.de=3;simp_all;grind);(have K:∀b,b=(ev.de==1||ev.de==2)->CH.J2 ev s wv b=if(OD wv ev&&(Ei wv s ev&&Hy s ev))=true then some (Ed wv s ev,true)else some (Pg,false):=by rintro b rfl;unfold CH.J2 CH.J3 OD;rw[m,Xx,AAG];generalize (Ei wv s ev&&Hy s ev)=q;by_cases k:ev.de=1\/ev.de=2;have:(ev.de==1||ev.de==2):=(by simpa using k);rw[this,AAM rfl,AAM k];by_cases i:ev.d7= -1;simp[i];simp[i];rfl;have:(ev.de==1||ev.de==2)=false:=(by simpa using k);rw[this,AAL (c:=false=true) ak,AAL k];cases hi:CC ev.d7 wv.Bt.length with|false=>rfl|true=>rw[AAL (c:=(!true)=true) ak,Bz hi,AAG];by_cases i:(ix wv.Bt ev.d7).db=ev.db;simp[i];simp[i];rfl);grind
theorem RB.HN(h:RB i s)(b:i<=n)(N:Int)(f:AW->AW)(c:(f (Abs.ix s.AK N)).Am.length<=n):RB n (Abs.HN s N f):=by
 intro x a;rcases AAw a with a|rfl
 exact ABB (h x a) b;exact c
theorem RB.apply(h:RB i s)(wv:AG)(t k o wake:Int):RB (i+1) (Cr wv s t k o wake).1:=by
 have c:RB (i+1) s:=h.mono ah;have hi:=λN=>Nat.le_succ_of_le (h.ix N);have key:∀(p:Prop) [Decidable p] (a b:AQ×Int),RB (i+1) a.1->RB (i+1) b.1->RB (i+1) (if p then a else b).1:=by intro p _ a b e f;split<;>assumption
 unfold Cr;repeat' refine key _ _ _ ?_ ?_
 all_goals first|exact c|exact h.HN ah _ _ (hi _)| (refine h.HN ah _ _ ?_;have:=WE ((Abs.ix s.AK o).Am++[t]);have:=h.ix o;grind)| (refine h.HN ah _ _ (ABB (List.length_filter_le _ _) (hi _)))|exact h.HN ah (Abs.ix wv.Al o).dr (λx=>⟨-1,x.Am⟩) (hi _)|exact h.HN ah (Abs.ix wv.Al o).dr (λx=>⟨t,x.Am⟩) (hi _)| (by_cases d:CJ o 0 s.AA=[]<;>simp only[d,AAl,AAY]<;>exact c)
theorem RB.start(wv:AG):RB 0 (Kd wv):=by intro x a;have:=List.eq_of_mem_replicate a;simp_all
def fF(e:AH):Bool:=e.de==3||e.de==23
def JH(l:js)(t:Int):List Bool:=(l.filter λe=>e.db==t).map fF
def Ka(reads:ko)(k:Int):Bool:=CC k reads.length&&ix reads k
def P1(pre:js)(ev:AH):Bool:=ev.Dy.all (Ka (JH pre ev.db))&&ev.DS.all (Ka (JH pre ev.db))
theorem o8.L2(L1:ja)(l:i6)(reads:ko)(t:Int)(c:l.length<4611686018427387904):∀(n i:Nat),i<=l.length->l.length<n+i->BH.Bs L1 l reads t n (i:Int)=if(l.drop i).all (Ka reads)=true then BH.J3 L1 t else some false|0,i,h1,h2=>ah|n+1,i,h1,h2=>by unfold BH.Bs BH.L2;by_cases hi:i<l.length;unfold BH.J2;rw[A6 ah,Bm hi,AAG,D1 hi,AX ah,o8.L2 L1 l reads t c n (i+1) ah ah,AA4];generalize l[i]=x;generalize (l.drop (i+1)).all (Ka reads)=q;unfold Ka;by_cases a:x<0;have:CC x reads.length=false:=br;simp_all;by_cases b:x>=(reads.length:Int);have:CC x reads.length=false:=br;simp_all;have h:CC x reads.length:=br;rw[Aa a,Aa b,Bz h,AAG,h];grind;grind
theorem o9(reads:ko)(ev:AH)(b:KW ev):BH reads ev=some (ev.Dy.all (Ka reads)&&ev.DS.all (Ka reads)):=by
 unfold BH;have f:=BK;have a:∀L1 t l,l.length<4611686018427387904->BH.J1 L1 reads t l=if l.all (Ka reads)=true then BH.J3 L1 t else some false:=by intro L1 t l c;have:=o8.L2 L1 l reads t c BQ 0 ah ah;rw[AAn]at this;exact this
 rw[Zg];generalize BQ-3=m;have e:BH.AR ev reads (m+1) 2=some true:=by unfold BH.AR BH.L1;rfl
 have d:BH.AR ev reads (m+2) 1=some (ev.DS.all (Ka reads)):=by unfold BH.AR BH.L1;rw[A6 bg,AAL bg,AAM bg,a _ _ _ b.2];unfold BH.J3;rw[show A8 (1+1)=2 from rfl,e];cases ev.DS.all (Ka reads)<;>rfl
 unfold BH.AR BH.L1;rw[A6 bg,AAM bg,a _ _ _ b.1];unfold BH.J3;rw[show A8 (0+1)=1 from rfl,d];grind
def X5(x t:Int):Int->List AH->Bool|_,[]=>false|nv,e::r=>if e.db=t then(nv==x&&fF e)||X5 x t (nv+1) r else X5 x t nv r
theorem rP(e:AH)(r:js)(t:Int):JH (e::r) t=if e.db=t then fF e::JH r t else JH r t:=by unfold JH;grind
theorem scan_eq(x t:Int)(l:js):∀a:Int,X5 x t a l=Ka (JH l t) (x-a):=by induction l with|nil=>intro a;simp[X5,Ka,JH,CC];omega|cons e r ih=>intro a;unfold X5;rw[rP];by_cases h:e.db=t;(rw[AAM h,AAM h,ih];unfold Ka;by_cases c:x=a;(subst c;have b:CC (x-x) (fF e::JH r t).length:=(by rw[A0];simp only[ABL];omega);have i:ix (fF e::JH r t) (x-x)=fF e:=(by simp[ix]);have j:CC (x-(x+1)) (JH r t).length=false:=by cases hq:CC (x-(x+1)) (JH r t).length with|false=>rfl|true=>have:=A0.1 hq;omega);simp_all;have d:(a==x)=false:=(by simpa usingλh=>c h.symm);have b:CC (x-a) (fF e::JH r t).length=CC (x-(a+1)) (JH r t).length:=(by rw[Bool.eq_iff_iff,A0,A0];simp;omega);rw[d,b];cases hb:CC (x-(a+1)) (JH r t).length with|false=>simp|true=>obtain⟨f,g⟩:=A0.1 hb;have:ix (fF e::JH r t) (x-a)=ix (JH r t) (x-(a+1)):=(by unfold ix;rw[show(x-a).toNat=(x-(a+1)).toNat+1 from by omega,ABG]);simp_all);simp_all
theorem reads.L2(L1:ja)(i:Nat)(k:Int)(l:js)(a:i6)(t x:Int)(hi:i<=l.length)(hi':i<=1000000)(d:gt a k=some x):∀(n j b:Nat)(ok:Bool),j<=i->i<n+j->b<=j->Dc.Bs L1 (i:Int) k l a t n (b:Int) ok (j:Int)=Dc.J3 L1 k (ok||X5 x t b ((l.take i).drop j))|0,j,b,ok,h1,h2,h3=>ah|n+1,j,b,ok,h1,h2,h3=>by unfold Dc.Bs Dc.L2;by_cases g:j<i;have f:j<(l.take i).length:=an;have e:=λ(c:Nat) ok' h=>reads.L2 L1 i k l a t x hi hi' d n (j+1) c ok' ah ah h;unfold Dc.J1 Dc.J2;rw[A6 ah,Bm ah,AAG,D1 f,AX (i:=j) ah,AX (i:=b) ah,d,AAG,X5];simp only[List.getElem_take,e (b+1) _ ah,e b _ ah,show((b:Int)+1)=((b+1:Nat):Int)from rfl];unfold fF;grind;rw[Aa ah,List.drop_eq_nil_of_le an];simp[X5]
theorem bF(i:Nat)(l:js)(a:i6)(t:Int)(hi:i<=l.length)(hi':i<=1000000)(c:a.length<4611686018427387904):∀(n k:Nat),k<=a.length->a.length<n+k->Dc.AR (i:Int) l a t n (k:Int)=some ((a.drop k).all (Ka (JH (l.take i) t)))|0,k,h1,h2=>ah|n+1,k,h1,h2=>by unfold Dc.AR Dc.L1;by_cases b:k<a.length;have:=reads.L2 (Dc.AR (i:Int) l a t n) i (k:Int) l a t a[k] hi hi' (Bm b) BQ 0 0 false ah bh ah;rw[AAn,scan_eq]at this;simp only[Int.natCast_zero,Int.sub_zero,Bool.false_or]at this;rw[A6 ah,this,D1 b,AA4];unfold Dc.J3 Dc.J4;rw[AX ah,bF i l a t hi hi' c n (k+1) ah ah];grind;rw[Aa ah,Et b];rfl
theorem rR(i:Nat)(l:js)(a:i6)(t:Int)(hi:i<=l.length)(hi':i<=1000000)(b:a.length<4611686018427387904):Dc l (i:Int) t a=some (a.all (Ka (JH (l.take i) t))):=by have:=bF i l a t hi hi' b BQ 0 ah bh;rw[AAn]at this;exact this
def F8(wv:AG):List AH->AD->List AH->Int×Int|_,_,[]=>(0,0)|pre,s,x::r=>if(FV wv s x&&P1 pre x)=true then F8 wv (pre++[x]) (Ed wv s x) r else((pre.length:Int),12)
def KC(t:Ck):Int×Int:=if t.AB.length>400 then(0,2)else if C6 t.dc=true then F8 t.dc [] (IG t.dc) t.AB else(0,1)
theorem K9{s:AD}{x:AH}(h:FV wv s x):CC x.db wv.AA.length:=by unfold FV at h;simp_all
theorem NR(l:js)(x:AH)(t:Int):JH (l++[x]) t=if x.db=t then JH l t++[fF x]else JH l t:=by unfold JH;grind
theorem Kb(l:js)(t:Int):(JH l t).length<=l.length:=by unfold JH;grind
theorem ZK(t:Ck)(h:Small t.dc)(a:∀e∈t.AB,KW e)(l:t.AB.length<=400):∀(n i:Nat)(s:AD)(R:jf),i<=t.AB.length->t.AB.length<n+i->RB i s.df->R.length=t.dc.AA.length->(∀u:Nat,u<R.length->R[u]? =some (JH (t.AB.take i) (u:Int)))->D6.AR t n s R (i:Int)=some (F8 t.dc (t.AB.take i) s (t.AB.drop i))|0,i,s,R,h1,h2,_,_,_=>ah|n+1,i,s,R,h1,h2,h3,h4,h5=>by unfold D6.AR D6.L1;by_cases hi:i<t.AB.length;(have f:=a _ (AAS hi);rw[A6 ah,Bm hi,AAG,Y4 t.dc h s (h3.mono ah) _ f,AAG,D1 hi,F8,ABd ah];unfold QZ;cases hp:FV t.dc s t.AB[i]with|false=>rfl|true=>rw[AAM rfl,AAL (c:=(!true)=true) ak,AAf];have m:=K9 hp;obtain⟨k,r⟩:=A0.1 m;have o:t.AB[i].db.toNat<R.length:=ah;have d:gt R t.AB[i].db=some (JH (t.AB.take i) t.AB[i].db):=(by unfold gt;rw[AAM k,h5 _ o];congr 2;omega);have q:=Kb (t.AB.take i) t.AB[i].db;rw[ABd ah]at q;rw[d,AAG,o9 _ _ f,AAG];unfold D6.J1;show(if(!(P1 (t.AB.take i) t.AB[i]))=true then _ else _)=_;cases P1 (t.AB.take i) t.AB[i]with|false=>rfl|true=>(rw[AAL (c:=(!true)=true) ak,AAM rfl,d,AAG,Bb ah,Bb ah];unfold D6.J2;have g:∀b,b=fF t.AB[i]->D6.AR t n (Ed t.dc s t.AB[i]) (R.set t.AB[i].db.toNat (JH (t.AB.take i) t.AB[i].db++[b])) (A8 ((i:Int)+1))=some (F8 t.dc (t.AB.take i++[t.AB[i]]) (Ed t.dc s t.AB[i]) (t.AB.drop (i+1))):=by rintro b rfl;rw[AX ah,AAe hi];refine ZK t h a l n (i+1) _ _ ah ah ?_ am ?_;exact h3.apply _ _ _ _ _;intro u p;rw[<- AAe hi,NR];grind);by_cases j:t.AB[i].de=3;rw[AAM (by simp[j])];exact g _ (by simp[fF,j]);rw[AAL am];exact g _ (by simp[fF,show(t.AB[i].de==3)=false by simp_all]));rw[Aa ah,Et hi];rfl
theorem Check_eq(t:Ck)(d:∀e∈t.AB,KW e):D6 t=some (KC t):=by unfold D6 KC;by_cases f:t.AB.length>400;grind;rw[Aa ah,AAL f,TK,AAG];cases hv:C6 t.dc with|false=>rfl|true=>have a:=Dw hv;have g:=a.t;rw[AAL (c:=(!true)=true) ak,TG _ a,AAG,AAM ⟨ah,ah,Bq ah⟩,AAM rfl];have:=ZK t a d ah BQ 0 (IG t.dc) (List.replicate t.dc.AA.length []) ah bh (RB.start _) ak (by intro u b;simp at b;simp[b,JH]);simp_all
theorem Xr(t:Ck)(d:Small t.dc)(b:∀e∈t.AB,KW e)(f:t.AB.length<=400):∀(n i:Nat)(s:AD),i<=t.AB.length->t.AB.length<n+i->RB i s.df->Gb.AR t n s (i:Int)=some (F8 t.dc (t.AB.take i) s (t.AB.drop i))|0,i,s,h1,h2,_=>ah|n+1,i,s,h1,h2,h3=>by unfold Gb.AR Gb.L1;by_cases hi:i<t.AB.length;(have a:=b _ (AAS hi);rw[A6 ah,Bm hi,AAG,RQ t.dc d s (h3.mono ah) _ a,AAG,D1 hi,F8,ABd ah];unfold QZ;cases hp:FV t.dc s t.AB[i]with|false=>rfl|true=>rw[AAM rfl,AAL (c:=(!true)=true) ak,AAf,rR i _ _ _ ah ah a.1,AAG,rR i _ _ _ ah ah a.2,AAG];unfold P1;cases t.AB[i].Dy.all (Ka (JH (t.AB.take i) t.AB[i].db))with|false=>rfl|true=>cases t.AB[i].DS.all (Ka (JH (t.AB.take i) t.AB[i].db))with|false=>rfl|true=>rw[AAL (c:=(!true)=true) ak,AAf,AAM rfl];unfold Gb.J1;rw[AAL (c:=(!true)=true) ak,AX ah,AAe hi];exact Xr t d b f n (i+1) _ ah ah (h3.apply _ _ _ _ _));rw[Aa ah,Et hi];rfl
theorem rCheck_eq(t:Ck)(b:∀e∈t.AB,KW e):Gb t=some (KC t):=by unfold Gb KC;by_cases d:t.AB.length>400;grind;rw[Aa ah,AAL d,LA,AAG];cases hv:C6 t.dc with|false=>rfl|true=>have a:=Dw hv;rw[AAL (c:=(!true)=true) ak,LG _ a,AAG,AAM rfl];have:=Xr t a b ah BQ 0 (IG t.dc) ah bh (RB.start _);simp_all
end
end Go.Abs
