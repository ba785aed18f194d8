/- What the typed programs give, in plain Lean. -/
import Derived.Test.YtdadohkcmclilaaGreatDoorWalkS
import Derived.Test.YtdadohkcmclilaaGreatDoorPlainB
import Derived.Shelf.Slices.SearchI
set_option linter.unusedSimpArgs false
set_option linter.unusedVariables false
namespace Go.Abs
set_option maxHeartbeats 4000000
def TB (E:Int) (x:List Int):Prop:=x.Pairwise (· < ·)/\∀y∈x,0≤y/\y<E
theorem TB.len {E:Int} {x:List Int} (h:TB E x) (d:0≤E):(x.length:Int)≤E:=by
 have key:∀(x:List Int) (a:Int),x.Pairwise (· < ·)->(∀y∈x,a≤y/\y<E)->a≤E->(x.length:Int)≤E-a:=by
  intro x;induction x with
  |nil=>intro a _ _ h;simp;omega
  |cons y r ih=>
   intro a e b i;obtain⟨f,g⟩:=List.pairwise_cons.1 e;have j:=b y ABL
   have:=ih (y+1) g (λz c=>⟨f z c,(b z (List.mem_cons_of_mem _ c)).2⟩) (by omega);simp only[AA7];omega
 have:=key x 0 h.1 h.2 d;omega
theorem TB.mono {E F:Int} {x:List Int} (h:TB E x) (b:E≤F):TB F x:=⟨h.1,λy a=>⟨(h.2 y a).1,by have:=(h.2 y a).2;omega⟩⟩
structure TH (E:Nat) (s:AL):Prop where
 r:s.Br.length≤100
 t:s.Bn.length≤100
 b:∀x∈s.Bn,TB s.AF x
 e:0≤s.AF/\s.AF≤E
theorem TH.zero (E:Nat):TH E ⟨0,[],[],0⟩:=⟨by simp,by simp,by simp,by simp,by simp⟩
theorem Zz {E:Nat} {s:AL} (h:TH E s) (f:E≤100000):Ch s=some s:=by
 have g:=h.r;have j:=h.t;have c:=h.e;have key:D6 (Ch s) λr=>r=s:=by
  unfold Ch;refine tC (DK (by omega)) (XN s.Bn.length (λi o=>o=⟨s.PC,s.Br,s.Bn.take i,s.AF⟩) (F:=λn o i=>Ch.Aa s n o i) (by omega) rfl λn i o hi d k=> ?_);subst d;unfold Ch.Aa Ch.L1 Ch.J1;refine tD (λ_=>jM (by omega) ?_) λ_=>tR (by rw[AA3 (by omega)])
  have:=(h.b _ (AAi (show i<s.Bn.length by omega))).len c.1;exact tC (DK (by omega)) (tC (DK (by simp;omega)) (k _ (by omega) (by rw[AAk])))
 obtain⟨r,a,rfl⟩:=key;exact a
theorem rg1 {i:Ab} (h:i.Op=1):rg i=[i.A]:=by unfold rg AU AU.J1;simp[h]
theorem rg2 {i:Ab} (h:i.Op=2):rg i=[i.A,i.B]:=by unfold rg AU AU.J1 AU.J2;simp[h]
theorem rg3 {i:Ab} (h:i.Op=3):rg i=[i.A,i.B]:=by unfold rg AU AU.J1 AU.J2;simp[h]
theorem rg4 {i:Ab} (h:i.Op=4):rg i=[i.A,i.B,i.C]:=by unfold rg AU AU.J1 AU.J2;simp[h]
theorem rg6 {i:Ab} (h:i.Op=6):rg i=[i.A]:=by unfold rg AU AU.J1;simp[h]
theorem rg7 {i:Ab} (h:i.Op=7):rg i=[i.A,i.C]:=by unfold rg AU AU.J1 AU.J2;simp[h]
theorem rg8 {i:Ab} (h:i.Op=8):rg i=[i.B]:=by unfold rg AU AU.J1 AU.J2 AU.J3;simp[h]
theorem rg9 {i:Ab} (h:i.Op=9):rg i=[i.B,i.C]:=by unfold rg AU AU.J1 AU.J2 AU.J3;simp[h]
theorem rg10 {i:Ab} (h:i.Op=10):rg i=[i.A]:=by unfold rg AU AU.J1;simp[h]
theorem rg26 {i:Ab} (h:i.Op=26):rg i=[i.B]:=by unfold rg AU AU.J1 AU.J2 AU.J3;simp[h]
theorem rg27 {i:Ab} (h:i.Op=27):rg i=[i.A]:=by unfold rg AU AU.J1;simp[h]
theorem SD (n:Int):TT (Cj n):=by
 unfold Cj Cj.J1
 repeat' first|exact tR trivial|refine tI (λ_=> ?_) λ_=> ?_
theorem Ys (b:Bool):TT (Di b):=by unfold Di;exact tI (λ_=>tR trivial) λ_=>tR trivial
theorem mI (o a:Int):TT (Hq o a):=by
 unfold Hq
 repeat' first|exact tR trivial|refine NN (Ys _) λ_=> ?_|refine tI (λ_=> ?_) λ_=> ?_
theorem eD (o a b:Int):TT (DW o a b):=by
 unfold DW DW.J1 DW.J2
 repeat' first|exact tR trivial|refine NN (Ys _) λ_=> ?_|refine tD (λ_=>tR trivial) λc=>tC c ?_|refine tI (λ_=> ?_) λ_=> ?_
theorem zW {E:Nat} {i:Ab} {s:AL} {P:Int->Prop} (d:TH E s) (g:∀x∈s.Bn,∀k∈x,P k) (S:E≤100000) (u:s.Bn.length=s.Br.length) (K:UF i.Op=true):D6 (B4 i s) λr=>r.2=true->(TH E r.1/\r.1.Bn.length=r.1.Br.length)/\r.1.AF=s.AF/\∀x∈r.1.Bn,∀k∈x,P k:=by
 have N:∀{x} {P:AL×Bool->Prop},D6 (some (x,false)) λr:AL×Bool=>r.2=true->P r:=tR λh=>by cases h
 have l:=d.e;have w:=d.r;have B:=d.t;have o:∀v ok t,0≤i.A/\i.A<s.Br.length->TB s.AF t->(∀k∈t,P k)->D6 (B4.J3 i s v ok t) λr=>r.2=true->(TH E r.1/\r.1.Bn.length=r.1.Br.length)/\r.1.AF=s.AF/\∀x∈r.1.Bn,∀k∈x,P k:=by
  intro v ok t J m p
  have:=m.len l.1;unfold B4.J3;refine tC (DK (by omega)) (tG J λ_ _=>tG (by omega) λ_ _=>tR λ_=>⟨⟨⟨by simpa using w,by simpa using B,?_,l⟩,by simpa using u⟩,rfl,?_⟩)
  . intro x a;rcases AAv a with a|rfl
    . exact d.b x a
    . exact m
  . intro x a;rcases AAv a with a|rfl
    . exact g x a
    . exact p
 have L:(∀y∈rg i,0≤y/\y<s.Br.length)->D6 (B4.J2 i s) λr=>r.2=true->(TH E r.1/\r.1.Bn.length=r.1.Br.length)/\r.1.AF=s.AF/\∀x∈r.1.Bn,∀k∈x,P k:=by
  intro c;unfold B4.J2;refine tI (λ_=>tR λ_=>⟨⟨⟨w,B,d.b,l⟩,u⟩,rfl,g⟩) λR=>tI (λD=> ?_) λM=>tI (λG=> ?_) λO=>tI (λH=> ?_) λQ=> ?_
  . simp only[rg1 (eq_of_beq D),AA4,forall_eq]at c;exact o _ _ _ c ⟨List.Pairwise.nil,by simp⟩ (by simp)
  . simp only[rg2 (eq_of_beq G),AAp,ABn,ABd,forall_eq_or_imp,forall_eq]at c;exact tG c.2 λ_ _=>tG (by omega) λx a=>o _ _ _ c.1 (d.b x a) (g x a)
  . simp only[rg3 (eq_of_beq H),AAp,ABn,ABd,forall_eq_or_imp,forall_eq]at c;exact NN (SD _) λ_=>tG c.2 λ_ _=>NN (mI _ _) λ_=>tG (by omega) λx a=>o _ _ _ c.1 (d.b x a) (g x a)
  . have I:i.Op=4:=(by simp[UF]at K R M O Q;omega);simp only[rg4 I,AAp,ABn,ABd,forall_eq_or_imp,forall_eq]at c;refine NN (SD _) λ_=>tG c.2.1 λ_ _=>tG c.2.2 λ_ _=>NN (eD _ _ _) λ_=>tG (by omega) λx a=>tG (by omega) λy q=> ?_;have U:=(d.b x a).len l.1;have V:=(d.b y q).len l.1;refine tE (Z6 x y (by omega)) (o _ _ _ c.1 ⟨NK _,λz f=> ?_⟩ λz f=> ?_)
    . rcases AAj.1 ((Pb _ _).1 f)with f|f
      . exact(d.b x a).2 z f
      . exact(d.b y q).2 z f
    . rcases AAj.1 ((Pb _ _).1 f)with f|f
      . exact g x a z f
      . exact g y q z f
 unfold B4;refine tE (GF i).1 (XN (rg i).length (λj (_:Unit)=>∀y∈(rg i).take j,0≤y/\y<(s.Br.length:Int)) (s0:=()) (F:=λn _ j=>B4.Aa i s (rg i) n j) (by have:=(GF i).2;omega) (by simp) λn j _ T C k=> ?_);unfold B4.Aa B4.L1 B4.J1;refine tD (λ_=>jM (by omega) (tD (λ_=>tI (λ_=>N) λh=>by cases h) λ_=>tD (λ_=>N) λ_=>k () (by omega) (take_one (by omega) C (by omega)))) λ_=>L (XB (by omega) C)
def PN:AL:=⟨0,[],[],0⟩
theorem eM {E:Nat} {c:An} {s:AL} {P:Int->Prop} (e:TH E s) (l:∀x∈s.Bn,∀k∈x,P k) (d:E≤100000) (p:c.A1.length≤8000000):D6 (Bf c s) λr=>TH E r.1/\(r.1=PN∨r.1.AF=s.AF/\∀x∈r.1.Bn,∀k∈x,P k):=by
 have Z:TH E PN/\(PN=PN∨PN.AF=s.AF/\∀x∈PN.Bn,∀k∈x,P k):=⟨TH.zero E,.inl rfl⟩;have j1:∀b,(b=false->s.Bn.length=s.Br.length)->D6 (Bf.J1 c s b) λr=>TH E r.1/\(r.1=PN∨r.1.AF=s.AF/\∀x∈r.1.Bn,∀k∈x,P k):=by intro b m;unfold Bf.J1;refine tI (λ_=>tR Z) λf=>tE (Zz e d) (XN (c.A1.length+1) (λ_ t=>(TH E t/\t.Bn.length=t.Br.length)/\t.AF=s.AF/\∀x∈t.Bn,∀k∈x,P k) (F:=λn s j=>Bf.Aa c n s j) (by omega) ⟨⟨e,m f⟩,rfl,l⟩ λn i t hi a k=> ?_);unfold Bf.Aa Bf.L1 Bf.J2 Bf.J3;refine tD (λ_=>tD (λ_=>tI (λ_=>tR Z) λh=>by cases h) λ_=>tD (λ_=>tR Z) λ_=>tG (by omega) λx _=>tE (PO _) (tI (λ_=>tR ⟨a.1.1,.inr a.2⟩) λh=>tI (λ_=>tR Z) λ_=> ?_)) λ_=>tR Z;exact tB (zW a.1.1 a.2.2 d a.1.2 (by simpa using h)) λv o=>tI (λ_=>tR Z) λh=>k _ (by omega) (by have:=o (by simpa using h);rw[a.2.1]at this;exact this)
 unfold Bf;refine tI (λ_=>j1 _ λh=>by cases h) λh=>j1 _ λg=> ?_;simp at h g;omega
def bV:List Ic:=[⟨⟨#[109]⟩,false⟩,⟨⟨#[110]⟩,false⟩,⟨⟨#[114]⟩,true⟩]
def W9:AD:=⟨QU,[],[],[],[],[]⟩
structure WF (T:ABq->Prop) (w:AD):Prop where
 c:w.Cells=QU
 l:w.AG=bV
 d:w.Af=[⟨cN,0⟩]
 f:w.AK=[⟨#[102]⟩]
 t:∀s,T s->s∈w.AA
 n:w.AA.length≤4
structure GW (T:ABq->Prop) (g:A5):Prop where
 w:WF T g.w
 l:g.locals=sB
theorem XP {w:AD} (h:w.Cells=QU) (s:ABq):CJ w s=CJ W9 s:=by
 unfold CJ;have key:∀n i,CJ.Aa s w n i=CJ.Aa s W9 n i:=by
  intro n;induction n with
  |zero=>exactλ_=>rfl
  |succ n ih=>intro i;unfold CJ.Aa CJ.L1;rw[h,show W9.Cells=QU from rfl];simp only[ih]
 exact key _ _
theorem gt_in {a:Type} {l:List a} {i:Int} {x:a} (h:gt l i=some x):0≤i/\i<l.length:=by
 unfold gt at h;split at h
 . have:=(AAQ.1 h).1;omega
 . cases h
theorem PX {i n:Int} (h:0≤i/\i<n):DS i n=some true:=by unfold DS DS.J1;simp[h.1,h.2]
theorem obj0 {w:AD} {x:Ab} (h:x.Op∈[(1:Int),2,5,10,17,18,19,20]):AY w x=some true:=by simp only[AAp,ABn,ABd]at h;rcases h with h|h|h|h|h|h|h|h<;>simp[AY,AY.J3,AY.J5,AY.J7,AY.J8,h]
theorem obj4 {w:AD} {x:Ab} (h:x.Op=4) (hn:6≤x.N/\x.N≤18):AY w x=some true:=by simp[AY,AY.J3,AY.J5,AY.J7,AY.J8,AY.Th,h,hn.1,hn.2]
theorem obj6 {w:AD} {x:Ab} {y:DB} (h:x.Op=6) (a:gt w.Cells x.B=some y) (b:y.B0=0):AY w x=some true:=by simp[AY,AY.J1,h,PX (gt_in a),a,b]
theorem obj8 {w:AD} {x:Ab} {y:DB} (h:x.Op=8) (a:gt w.Cells x.A=some y) (b:y.B0=0):AY w x=some true:=by simp[AY,AY.J2,h,PX (gt_in a),a,b]
theorem arr_true {w:AD} {b n:Int} {y:DB} (a:gt w.Cells b=some y) (hi:y.Index=0) (c:y.B0≠0) (hn:y.B0=n):E3 w b n=some true:=by subst hn;simp[E3,E3.J1,PX (gt_in a),a,hi,c]
theorem obj7 {w:AD} {x:Ab} {y:DB} (h:x.Op=7) (b:gt w.Cells x.B=some y) (hi:y.Index=0) (a:y.B0≠0) (hn:y.B0=x.N):AY w x=some true:=by simp[AY,h,arr_true b hi a hn]
theorem obj9 {w:AD} {x:Ab} {y:DB} (h:x.Op=9) (b:gt w.Cells x.A=some y) (hi:y.Index=0) (a:y.B0≠0) (hn:y.B0=x.N):AY w x=some true:=by simp[AY,h,arr_true b hi a hn]
theorem objM {w:AD} {x:Ab} {y:Ic} (h:x.Op=11∨x.Op=12) (a:gt w.AG x.A=some y) (b:y.RW=false):AY w x=some true:=by rcases h with h|h<;>simp[AY,AY.J3,AY.J4,h,PX (gt_in a),a,b]
theorem objR {w:AD} {x:Ab} {y:Ic} (h:x.Op=13∨x.Op=14∨x.Op=15∨x.Op=16) (a:gt w.AG x.A=some y) (b:y.RW=true):AY w x=some true:=by rcases h with h|h|h|h<;>simp[AY,AY.J3,AY.J5,AY.J6,h,PX (gt_in a),a,b]
theorem objC {w:AD} {x:Ab} (h:x.Op=21∨x.Op=22∨x.Op=23) (a:0≤x.A/\x.A<w.Af.length):AY w x=some true:=by rcases h with h|h|h<;>simp[AY,AY.J3,AY.J5,AY.J7,h,PX a]
theorem objT {w:AD} {x:Ab} (h:x.Op=24∨x.Op=25) (a:0≤x.A/\x.A<w.AA.length):AY w x=some true:=by rcases h with h|h<;>simp[AY,AY.J3,AY.J5,AY.J7,AY.J8,h,PX a]
theorem obj26 {w:AD} {x:Ab} (h:x.Op=26) (a:0≤x.A/\x.A<w.AK.length):AY w x=some true:=by simp[AY,AY.J3,AY.J5,AY.J7,AY.J8,h,PX a]
theorem obj27 {w:AD} {x:Ab} (h:x.Op=27) (a:0≤x.B/\x.B<w.AK.length):AY w x=some true:=by simp[AY,AY.J3,AY.J5,AY.J7,AY.J8,h,PX a]
theorem rg0 {i:Ab} (h:i.Op=5∨11≤i.Op/\i.Op≤25∨i.Op=28):rg i=[]:=by have n:∀k:Int,i.Op≠k->(i.Op==k)=false:=λk h=>beq_eq_false_iff_ne.2 h;unfold rg AU AU.J1 AU.J2 AU.J3;simp[n 1 (by omega),n 2 (by omega),n 3 (by omega),n 4 (by omega),n 6 (by omega),n 7 (by omega),n 8 (by omega),n 9 (by omega),n 10 (by omega),n 26 (by omega),n 27 (by omega)]
def NameF (x:ABq):Prop:=(∃e,Ca sB x=some e/\0≤e/\e<2)∨(∃e,Ca sB x=some e/\e<0)/\∃c y,CJ W9 x=some c/\gt QU c=some y/\y.B0=0
theorem name_f {x:ABq} (h:x∈vN):NameF x:=by
 unfold vN at h;simp only[AAp,ABn,ABd]at h;rcases h with rfl|rfl|rfl|rfl|rfl
 . exact .inl ⟨0,by decide +kernel,by omega,by omega⟩
 . exact .inl ⟨1,by decide +kernel,by omega,by omega⟩
 . exact .inr ⟨⟨-1,by decide +kernel,by omega⟩,0,_,by decide +kernel,rfl,rfl⟩
 . exact .inr ⟨⟨-1,by decide +kernel,by omega⟩,1,_,by decide +kernel,rfl,rfl⟩
 . exact .inr ⟨⟨-1,by decide +kernel,by omega⟩,2,_,by decide +kernel,rfl,rfl⟩
theorem q_at:CJ W9 qS=some 3:=by decide +kernel
structure GV (g r:A5) (lo hi:Int):Prop where
 w:r.w=g.w
 l:r.locals=g.locals
 n:g.out.length≤r.out.length
 p:∀i,i<g.out.length->r.out[i]? =g.out[i]?
 s:SG g.w lo hi r.out g.out.length r.out.length r.out.length
section
variable {T:ABq->Prop} {g h r:A5} {lo hi lo' hi':Int}
theorem GV.refl:GV g g lo hi:=⟨rfl,rfl,AAy _,λ_ _=>rfl,SG.nil (AAy _)⟩
theorem GV.trans (a:GV g h lo hi) (b:GV h r lo hi):GV g r lo hi:=by
 have c:=a.n;have e:=b.n;refine⟨b.w.trans a.w,b.l.trans a.l,by omega,λi hi=>(b.p i (by omega)).trans (a.p i hi),(a.s.frame (l':=r.out) (d:=r.out.length) (λi _ hi=>(b.p i hi).symm) (by omega) (by omega) (by omega) (by omega)).app ?_⟩
 have:=b.s;rw[a.w]at this;exact this
theorem GV.mono (a:GV g r lo hi) (b:lo'≤lo) (c:hi≤hi'):GV g r lo' hi':=⟨a.w,a.l,a.n,a.p,a.s.mono b c (AAy _)⟩
theorem GV.site (a:GV g r lo hi) (s n:Int):GV g ⟨r.w,r.locals,r.out,s,n⟩ lo hi:=⟨a.w,a.l,a.n,a.p,a.s⟩
theorem GW.next (a:GW T g) (b:GV g r lo hi):GW T r:=⟨by rw[b.w];exact a.w,b.l.trans a.l⟩
theorem GW.site (a:GW T g) (s n:Int):GW T ⟨g.w,g.locals,g.out,s,n⟩:=⟨a.w,a.l⟩
theorem put_eq (i:Ab):Kl (A8 g i) λr=>r=⟨g.w,g.locals,g.out++[⟨i.Op,i.A,i.B,i.C,i.N,g.site⟩],g.site,g.next⟩:=by unfold A8;exact pC λ_=>pR rfl
theorem GV.put {x:Ab} {s n:Int} (b:LV g.w lo hi (g.out.length+1) x) (a:x.Op≠5):GV g ⟨g.w,g.locals,g.out++[x],s,n⟩ lo hi:=by refine⟨rfl,rfl,by simp,λi hi=>by simp only;rw[AAr hi],?_⟩;simp only[AA1,AA7,ABR];exact SG.one (by simp) b a
abbrev GK (g r:A5) (lo hi:Int):Prop:=GV g r lo hi/\r.site=g.site/\r.next=g.next
theorem put_par {i:Ab} (b:LV g.w lo hi (g.out.length+1) ⟨i.Op,i.A,i.B,i.C,i.N,g.site⟩) (a:i.Op≠5):Kl (A8 g i) λr=>GK g r lo hi:=
 pM (put_eq i) λ_ e=>by subst e;exact⟨GV.put b a,rfl,rfl⟩
theorem Oo {i:Ab} (b:LV g.w lo hi (g.out.length+1) ⟨i.Op,i.A,i.B,i.C,i.N,g.site⟩) (a:i.Op≠5):Kl ((A8 g i).bind λv=>some v) λr=>GK g r lo hi:=pB (put_par b a) λ_ h=>pR h
theorem GK.trans (a:GK g h lo hi) (b:GK h r lo hi):GK g r lo hi:=⟨a.1.trans b.1,b.2.1.trans a.2.1,b.2.2.trans a.2.2⟩
theorem dH {x r:Int} (h:0≤r/\r<32):∀y∈[r],0≤y/\y<32:=λy a=>by rw[AA4.1 a];exact h
theorem sM {r s:Int} (h:0≤r/\r<32) (k:0≤s/\s<32):∀y∈[r,s],0≤y/\y<32:=λy a=>by
 simp only[AAp,ABn,ABd]at a;rcases a with rfl|rfl
 . exact h
 . exact k
theorem value_par (d:Nat):∀(n:Nat) (g:A5) (e:A4) (r:Int),Zw d e->GW T g->(lo≤g.site/\g.site<hi)->0≤r/\r+d≤32->Kl (DP n g e r) λv=>GK g v lo hi:=by
 induction d with
 |zero=>exactλn g e r h=>h.elim
 |succ d ih=>
  intro n g e r H m j P;cases n with
  |zero=>exact pN
  |succ n=>
  have i:0≤r/\r<32:=by omega
  show Kl (HW (DP n) g e r) _;unfold HW;rcases H with⟨f,_⟩|⟨f,_,hn⟩|⟨f,F,a,t,s⟩|⟨f,a,b,t,s,G⟩
  . simp only[f];exact pI (λ_=>Oo ⟨by simp,obj0 (by simp),by rw[rg1 rfl];exact dH (x:=0) i,j,by simp,by simp⟩ (by simp)) λh=>by cases h
  . simp only[f];refine pI (λh=>by cases h) λ_=>pI (λ_=> ?_) λh=>(by cases h);rw[m.l];rcases name_f hn with⟨k,z,K,Q⟩|⟨⟨k,z,K⟩,c,y,C,D,E⟩
    . exact pE z (pD (λ_=>Oo ⟨by simp,obj0 (by simp),by rw[rg2 rfl];exact sM i (by simp only;omega),j,by simp,by simp⟩ (by simp)) λh=>by omega)
    . refine pE z (pD (λh=>by omega) λ_=>pE ((XP m.w.c _).trans C) (Oo ⟨by simp,obj6 rfl (y:=y) (by rw[m.w.c];exact D) E,by rw[rg6 rfl];exact dH (x:=0) i,j,by simp,by simp⟩ (by simp)))
  . simp only[f,t];refine pI (λh=>by cases h) λ_=>pI (λh=>by cases h) λ_=>pI (λ_=>pE (y:=a) rfl ?_) λh=>(by cases h);refine pB (ih n g a r s m j (by omega)) λv p=> ?_;have o:=m.next p.1;rw[F];refine pE ((XP o.w.c _).trans q_at) (pE (y:=⟨⟨#[113]⟩,0,2,false,0⟩) (by rw[o.w.c];rfl) ?_);exact pM (Oo ⟨by simp,obj7 rfl (y:=⟨⟨#[113]⟩,0,2,false,0⟩) (by rw[o.w.c];rfl) rfl (by simp) rfl,by rw[rg7 rfl];exact sM i i,by simp only;rw[p.2.1];exact j,by simp,by simp⟩ (by simp)) λ_ h=>p.trans h
  . have L:e.Op≠1:=λh=>(by rw[h]at f;simp at f);have M:e.Op≠2:=λh=>(by rw[h]at f;simp at f);have N:e.Op≠3:=λh=>(by rw[h]at f;simp at f);have O:6≤e.Op/\e.Op≤18:=(by simp only[AAp,ABn,ABd]at f;omega);rw[AAX (by simpa using L),AAX (by simpa using M),AAX (by simpa using N),t];have B:Ap (r+1)=r+1:=DR (by omega) (by omega);refine pI (λh=>by cases h) λ_=>pE (y:=a) rfl (pB (ih n g a r s m j (by omega)) λv p=>pE (y:=b) rfl (pB (ih n v b _ G (m.next p.1) (by rw[p.2.1];exact j) (by rw[B];omega)) λu I=> ?_));rw[B];have q:=p.trans I;by_cases hd:d=0
    . subst hd;exact s.elim
    exact pM (Oo ⟨by simp,obj4 rfl O,by rw[rg4 rfl];intro y J;simp only[AAp,ABn,ABd]at J;omega,by simp only;rw[q.2.1];exact j,by simp,by simp⟩ (by simp)) λ_ h=>q.trans h
theorem l5 {e:A4} (a:Zw 2 e) (b:GW T g) (c:lo≤g.site/\g.site<hi) {r:Int} (d:0≤r/\r≤30):Kl (DP BT g e r) λv=>GK g v lo hi:=value_par 2 _ g e r a b c (by omega)
theorem assign_par (f:GW T g) (i:lo≤g.site/\g.site<hi) {k:Nat} {s:AP} (m:K8 T (k+1) s) (n:s.Op=1):Kl (G3 g s) λr=>GK g r lo hi:=by
 have o:Zw 2 s.Expr:=m.2.2.1.resolve_right λh=>h.1 (by simp[n]);have q:(g.locals.length:Int)=2:=by rw[f.l];rfl
 unfold G3;rw[q];rcases m.2.1 with h|⟨_,t,a,h,p⟩
 . rw[h];refine pI (λh=>by cases h) λ_=>pB (l5 o f i (by omega)) λv b=> ?_;have d:=f.next b.1;have j:lo≤v.site/\v.site<hi:=(by rw[b.2.1];exact i);rw[d.l];rcases name_f (m.2.2.2.2.2.2.2.2.2.1 n h)with⟨c,k1,k2,k3⟩|⟨⟨c,k1,k2⟩,c,y,c1,c2,c3⟩
   . exact pE k1 (pD (λ_=>pM (Oo ⟨by simp,obj0 (by simp),by rw[rg2 rfl];exact sM (by simp only;omega) (by simp),j,by simp,by simp⟩ (by simp)) λ_ h=>b.trans h) λh=>by omega)
   . refine pE k1 (pD (λh=>by omega) λ_=>pE ((XP d.w.c _).trans c1) (pM (Oo ⟨by simp,obj8 rfl (y:=y) (by rw[d.w.c];exact c2) c3,by rw[rg8 rfl];exact dH (x:=0) (by simp),j,by simp,by simp⟩ (by simp)) λ_ h=>b.trans h))
 . rw[h];refine pI (λ_=>pE (y:=a) rfl ?_) λh=>(by cases h);rw[show Ap (2+1)=3 from rfl];refine pB (l5 p f i (by omega)) λv b=>pB (l5 o (f.next b.1) (by rw[b.2.1];exact i) (by omega)) λu z=> ?_;have e:=b.trans z;have d:=f.next e.1;have j:lo≤u.site/\u.site<hi:=(by rw[e.2.1];exact i);rw[t];refine pE ((XP d.w.c _).trans q_at) (pE (y:=⟨⟨#[113]⟩,0,2,false,0⟩) (by rw[d.w.c];rfl) ?_);exact pM (Oo ⟨by simp,obj9 rfl (y:=⟨⟨#[113]⟩,0,2,false,0⟩) (by rw[d.w.c];rfl) rfl (by simp) rfl,by rw[rg9 rfl];exact sM (by simp) (by simp),j,by simp,by simp⟩ (by simp)) λ_ h=>e.trans h
end
theorem uV {l:List DB} (r:l.length≤12) {L:List ABq->Int->ABp (List ABq×Bool)} {i:Nat} {names:List ABq} {x:DB} {v:List ABq×Bool} (q:1≤x.B0/\x.B0≤4) (hi:(i:Int)+x.B0≤l.length) (p:v.2=true):
 ∀(n t:Nat) (d:DB),d.B0=x.B0->(t:Int)≤x.B0->AR.C2 L i l names x n d t=some v->
 (∀k:Nat,t≤k->(k:Int)<x.B0->∃c,l[i+k]? =some c/\c.Index=k/\c.B0=x.B0)/\L (names++[x.Name]) (i+x.B0)=some v:=by
 intro n;induction n with
 |zero=>intro t d _ _ h;cases h
 |succ n ih=>
  intro t d g s h;unfold AR.C2 AR.L2 at h;by_cases j:(t:Int)<x.B0
  . rw[BC j,DR (n:=(i:Int)+t) (by omega) (by omega),show(i:Int)+t=((i+t:Nat):Int)from by omega,CU (by omega),AAO]at h;split at h
    . cases h;cases p
    . rename_i f;rw[Ao (by omega)]at h;obtain⟨a,b⟩:=ih (t+1) ⟨d.Name,t,d.B0,d.Fv,d.Init⟩ g (by omega) h;refine⟨λk o m=> ?_,b⟩;by_cases e:k=t
      . subst e;refine⟨l[i+k],AAT (by omega),?_⟩;simp only[ABU,Bool.not_eq_false,AAP,AAd]at f;exact⟨f.2.1,f.2.2.1.trans g⟩
      . exact a k (by omega) m
  . rw[Ac j]at h;unfold AR.J2 at h;rw[g,DR (by omega) (by omega)]at h;exact⟨λk o m=>by omega,h⟩
theorem nK {l:List DB} (E:l.length≤12) {v:List ABq×Bool} (m:v.2=true):∀(n i:Nat) (names:List ABq),names.length≤i->i≤l.length->AR.Aa l n names i=some v->
 ∀(b:Nat) (c:DB),i≤b->l[b]? =some c->c.Index=0->c.B0≠0->(1≤c.B0/\c.B0≤4)/\∀k:Nat,(k:Int)<c.B0->∃d,l[b+k]? =some d/\d.B0≠0:=by
 intro n;induction n with
 |zero=>intro i names _ _ h;cases h
 |succ n ih=>
  intro i names hn C h b c K f s g;have B:=(AAQ.1 f).1;unfold AR.Aa AR.L1 at h;have hi:i<l.length:=by omega
  rw[BC (by omega),CU hi,AAO,BL (by omega)]at h;have o:l[i]? =some l[i]:=AAT hi;generalize l[i]=x at h o;by_cases e:x.B0=0
  . rw[AAY (by simpa using e)]at h;split at h
    . cases h;cases m
    . rw[Ao (by omega)]at h;by_cases q:b=i
      . subst q;rw[o]at f;cases f;exact absurd e g
      . exact ih (i+1) _ (by simp;omega) (by omega) h b c (by omega) f s g
  . rw[AAX (by simpa using e)]at h;have J:∀t,AR.J1 (AR.Aa l n) i l names x t=some v->t=false/\AR.C2 (AR.Aa l n) i l names x BT x 0=some v:=by
     intro t j;unfold AR.J1 at j;cases t with
     |true=>cases j;cases m
     |false=>exact⟨rfl,j⟩
    have key:(1≤x.B0/\x.B0≤4)/\(i:Int)+x.B0≤l.length/\AR.C2 (AR.Aa l n) i l names x BT x 0=some v:=by
     rw[DR (n:=(l.length:Int)-i) (by omega) (by omega)]at h;split at h
     . exact absurd (J _ h).1 (by simp)
     . rename_i w;split at h
       . exact absurd (J _ h).1 (by simp)
       . rename_i y;split at h
         . exact absurd (J _ h).1 (by simp)
         . obtain⟨H,I⟩:=J _ h;simp at w y H;exact⟨by omega,by omega,I⟩
    obtain⟨u,F,G⟩:=key;obtain⟨a,r⟩:=uV E u F m BT 0 x rfl (by omega) G;by_cases q:(b:Int)<i+x.B0
    . obtain⟨d,d1,z,p⟩:=a (b-i) (by omega) (by omega);rw[show i+(b-i)=b from by omega,f]at d1;cases d1;have:b=i:=(by omega);subst this;rw[o]at f;cases f;refine⟨u,λk D=> ?_⟩;obtain⟨d,d1,z,p⟩:=a k (by omega) D;exact⟨d,d1,by rw[p];exact g⟩
    . rw[show(i:Int)+x.B0=((i+x.B0.toNat:Nat):Int)from by omega]at r;exact ih (i+x.B0.toNat) _ (by simp;omega) (by omega) r b c (by omega) f s g
theorem mP {w:AD} (a:Ck w=true) {b n:Int} (h:QT w b n):(1≤n/\n≤4)/\∀k,0≤k->k<n->∃d,gt w.Cells (b+k)=some d/\d.B0≠0:=by
 have o:=(EC a).c;obtain⟨x,e,i,p,hn⟩:=h;have t:0≤b:=by
  unfold gt at e;split at e
  . assumption
  . cases e
 obtain⟨m,rfl⟩:∃m:Nat,b=m:=⟨b.toNat,by omega⟩;rw[LG]at e;have l:∃v,AR w.Cells=some v/\v.2=true:=by
  unfold Ck at a;cases hv:AR w.Cells with
  |none=>simp[hv]at a
  |some v=>simp[hv]at a;exact⟨v,rfl,a.2.1.1.1⟩
 obtain⟨v,r,s⟩:=l;obtain⟨f,g⟩:=nK o s BT 0 [] (by simp) (by omega) r m x (by omega) e i p;rw[hn]at f g;refine⟨f,λk u q=> ?_⟩;obtain⟨j,rfl⟩:∃j:Nat,k=j:=⟨k.toNat,by omega⟩;rw[show(m:Int)+j=((m+j:Nat):Int)from by omega,LG];exact g j q
structure FT (c:BF) (s:Ad):Prop where
 v:VC c
 f:G8 c.World s.Sync=true
 c':s.Cells.length=c.World.Cells.length
 u:s.AK.length=c.World.AK.length
 n:s.AA.length=c.AA.length
 t:∀(i:Nat) x y,s.AA[i]? =some x->c.AA[i]? =some y->(0≤x.PC/\x.PC<y.A1.length)/\(x.Br.length:Int)=y.Br/\(x.Bn.length:Int)=y.Br
theorem vJ {c:BF} (p:CK c) (s:Ad):D6 (ES c s) λb=>b=true->FT c s:=by
 have N:∀{C:Prop},D6 (some false) λb:Bool=>b=true->C:=tR λh=>by cases h
 have hn:=p.n;have j1:∀b,(b=false->VC c/\G8 c.World s.Sync=true/\s.Cells.length=c.World.Cells.length/\s.AK.length=c.World.AK.length/\s.AA.length=c.AA.length)->D6 (ES.J1 c s b) λb=>b=true->FT c s:=by
  intro b B;unfold ES.J1;refine tI (λ_=>N) λu=> ?_;obtain⟨g,l,m,o,z⟩:=B u;refine XN c.AA.length (λi (_:Unit)=>∀(j:Nat) x y,j<i->s.AA[j]? =some x->c.AA[j]? =some y->(0≤x.PC/\x.PC<y.A1.length)/\(x.Br.length:Int)=y.Br/\(x.Bn.length:Int)=y.Br) (s0:=()) (F:=λn _ i=>ES.Aa c s n i) (by omega) (λj _ _ h=>by omega) λn i _ hi q k=> ?_;unfold ES.Aa ES.L1 ES.J2 ES.J3;refine tD (λ_=>jM (by omega) (tD (λ_=>tI (λ_=>N) λh=>by cases h) λE=>jM (by omega) (tD (λ_=>tI (λ_=>N) λh=>by cases h) λG=>tI (λ_=>tI (λ_=>N) λh=>by cases h) λr=>tI (λ_=>N) λt=>k () (by omega) ?_))) λ_=>tR λ_=>⟨g,l,m,o,z,λj x y d a=>q j x y ?_ d a⟩
  . intro j x y D d a;by_cases e:j<i
    . exact q j x y e d a
    . obtain rfl:j=i:=(by omega);rw[AAT (by omega)]at d a;rw[← AAR d,← AAR a];simp at r t;exact⟨by omega,r,t⟩
  . have:=(AAQ.1 a).1;omega
 unfold ES;refine tB (VK p) λv f=>tI (λ_=>j1 _ λh=>by cases h) λh=> ?_;have f:=f (by simpa using h);refine tE (Nr _ (EC f.w) _) (tI (λ_=>j1 _ λh=>by cases h) λg=>tI (λ_=>j1 _ λh=>by cases h) λl=>tI (λ_=>j1 _ λh=>by cases h) λm=>j1 _ λo=>⟨f,by simpa using g,?_,?_,?_⟩)
 . simp at l;omega
 . simp at m;omega
 . simp at o;omega
theorem X8 (i n:Int):D6 (F7 i n) λv=>1≤n/\n≤4->0≤v/\v<n:=by
 unfold F7 F7.J1;refine tD (λ_=>tR (by omega)) λh=>tC (by omega) (tD (λa=>tR λb=> ?_) λa=>tR λb=> ?_)
 . have:=Int.lt_tmod_of_pos i (show 0<n by omega);rw[DR (by omega) (by omega)];omega
 . have:=Int.tmod_lt_of_pos i (show 0<n by omega);omega
def kindL:List Int:=[3,3,4,4,5,6,7,8,9,10,11,12,13,14,15,16,18,19,20,21,22,23,2]
def KO (o k:Int):Prop:=((k=3->o=6∨o=7)/\(k=4->o=8∨o=9)/\(k=5->o=10)/\(k=22->o=26)/\(k=23->o=27)/\(k=2↔o=28)/\(k=16->o=21)/\k≠1/\k≠17)/\(o=7->k=3)/\(o=9->k=4)/\(o=10->k=5)/\(o=8->k=4)/\(o=26->k=22)
instance (o k:Int):Decidable (KO o k):=by unfold KO;infer_instance
theorem bR:∀n:Fin 23,KO ((n.1:Int)+6) kindL[n.1]:=by decide
theorem xY {o:Int} (h:1≤o/\o≤28):D6 (HQ o) λk=>k=0∨KO o k:=by
 unfold HQ HQ.J1;refine tD (λ_=>tI (λ_=>tR (.inl rfl)) λh=>by cases h) λb=>tD (λh=>by omega) λ_=> ?_;rw[DR (by omega) (by omega)];obtain⟨n,hn⟩:∃n:Nat,o-6=n:=⟨(o-6).toNat,by omega⟩;rw[hn];have a:n<23:=by omega
 refine jM (l:=kindL) a (tR (.inr ?_))
 have:=bR ⟨n,a⟩;simp only at this;rw[show(n:Int)+6=o from by omega]at this;exact this
theorem iD {i:Ab} {t:AL} (e:i.Op=7∨i.Op=9->0≤i.C/\i.C<t.Br.length):
 D6 (En i t) λo=>(i.Op=7->∃v,o=Ap (i.B+v)/\(1≤i.N/\i.N≤4->0≤v/\v<i.N))/\(i.Op=9->∃v,o=Ap (i.A+v)/\(1≤i.N/\i.N≤4->0≤v/\v<i.N)):=by
 have T:∀{o:ABp Int},TT o->i.Op≠7->i.Op≠9->D6 o λo=>(i.Op=7->∃v,o=Ap (i.B+v)/\(1≤i.N/\i.N≤4->0≤v/\v<i.N))/\(i.Op=9->∃v,o=Ap (i.A+v)/\(1≤i.N/\i.N≤4->0≤v/\v<i.N)):=λh a b=>tM h λ_ _=>⟨λh=>absurd h a,λh=>absurd h b⟩;have j1:∀b,(b=true->i.Op≠7/\i.Op≠9)->D6 (En.J1 i t b) λo=>(i.Op=7->∃v,o=Ap (i.B+v)/\(1≤i.N/\i.N≤4->0≤v/\v<i.N))/\(i.Op=9->∃v,o=Ap (i.A+v)/\(1≤i.N/\i.N≤4->0≤v/\v<i.N)):=by
  intro b f;unfold En.J1 En.J2;refine tI (λh=>T (tR trivial) (f h).1 (f h).2) λ_=>tI (λh=>tG (e (.inl (eq_of_beq h))) λ_ _=>tB (X8 _ _) λv d=>tR ⟨λ_=>⟨v,rfl,d⟩,λc=> ?_⟩) λg=>tI (λh=>tG (e (.inr (eq_of_beq h))) λ_ _=>tB (X8 _ _) λv d=>tR ⟨λc=> ?_,λ_=>⟨v,rfl,d⟩⟩) λj=>T ?_ (by simpa using g) (by simpa using j)
  . rw[eq_of_beq h]at c;cases c
  . rw[eq_of_beq h]at c;cases c
  . repeat' first|exact tR trivial|refine tI (λ_=> ?_) λ_=> ?_
 unfold En;refine tI (λh=>j1 _ λ_=> ?_) λ_=>j1 _ λh=> ?_<;>rw[eq_of_beq h]<;>decide
def mD (e:AH):Prop:=e.D9.length≤100000/\e.Db.length≤100000
structure PI (w:AD) (x:AL) (y:An) (z:Ab) (q:AE) (e:AH):Prop where
 a:e.Kind=3∨e.Kind=23∨e.Kind=5->0≤z.A/\z.A<y.Br
 b:e.Kind=4∨e.Kind=22->0≤z.B/\z.B<y.Br
 d:e.D9=[]∨e.D9∈x.Bn/\(e.Kind=5∨(e.Kind=3∨e.Kind=4)/\(ix w.Cells e.Obj).B0≠0)
 r:e.Db=[]∨e.Db∈x.Bn/\(e.Kind=4∨e.Kind=22)
 s:e.Kind=1/\e.Site= -1∨(q.Status=4/\e.Kind=17∨q.Status=2/\(e.Kind=2↔z.Op=28)/\e.Kind≠1/\e.Kind≠17/\(e.Kind=16->z.Op=21))/\e.Site=z.Site
 j:e.Kind=5->z.Op=10
structure PE (c:BF) (s:Ad) (th:Int) (e:AH):Prop where
 f:FT c s
 t:0≤th/\th<c.AA.length
 l:mD e
 h:e.Thread=th
 i:∀x y z q,s.AA[th.toNat]? =some x->c.AA[th.toNat]? =some y->y.A1[x.PC.toNat]? =some z->s.Sync.AA[th.toNat]? =some q->PI c.World x y z q e
theorem kN {a:Type} [Inhabited a] {l:List a} {i:Int} {x:a} (h:gt l i=some x):ix l i=x:=by
 unfold gt at h;split at h
 . unfold ix;rw[h];rfl
 . cases h
theorem To {E:Nat} {c:BF} (hc:CK c) {s:Ad} (hs:∀t∈s.AA,TH E t) (hE:E≤100000) (th:Int):D6 (CD c s th) λr=>r.2=true->PE c s th r.1:=by
 have N:∀{x} {P:AH×Bool->Prop},D6 (some (x,false)) λr:AH×Bool=>r.2=true->P r:=tR λh=>by cases h
 have j1:∀b,(b=false->FT c s/\0≤th/\th<c.AA.length)->D6 (CD.J1 c s th b) λr=>r.2=true->PE c s th r.1:=by
  intro b K;unfold CD.J1;refine tI (λ_=>N) λh0=> ?_;obtain⟨G,ht⟩:=K h0;obtain⟨_,_,l3⟩:=FA G.f;have hn:=G.n;have hn2:=G.v.n;obtain⟨x,x1,x2,x3⟩:=Fm (l:=s.AA) (i:=th) (by omega);obtain⟨y,y1,y2,y3⟩:=Fm (l:=c.AA) (i:=th) (by omega);obtain⟨p1,p2,p3⟩:=G.t _ x y x2 y2;obtain⟨z,z1,z2,z3⟩:=Fm (l:=y.A1) (i:=x.PC) (by omega);obtain⟨q,q1,q2,q3⟩:=Fm (l:=s.Sync.AA) (i:=th) (by omega);have S:=(G.v.t _ y y2).i z z3;have ho:=S.o;have u:=S.g;have W:=hs x x3;have J:∀q∈x.Bn,q.length≤100000:=λq m=>by have:=(W.b q m).len W.e.1;have:=W.e.2;omega
  refine tE x1 (tE y1 (tE z1 (tE q1 ?_)));have I:∀e:AH,mD e->e.Thread=th->PI c.World x y z q e->PE c s th e:=by intro e p j L;refine⟨G,ht,p,j,λx' y' z' q' KY Q R O=> ?_⟩;rw[x2]at KY;rw[y2]at Q;rw[q2]at O;obtain rfl:=AAR KY;obtain rfl:=AAR Q;obtain rfl:=AAR O;rw[z2]at R;obtain rfl:=AAR R;exact L
  refine tI (λ_=>tR λ_=>I _ ⟨by simp,by simp⟩ rfl ⟨by simp,by simp,.inl rfl,.inl rfl,.inl ⟨rfl,rfl⟩,by simp⟩) λ_=>tI (λh=>tR λ_=>I _ ⟨by simp,by simp⟩ rfl ⟨by simp,by simp,.inl rfl,.inl rfl,.inr ⟨.inl ⟨eq_of_beq h,rfl⟩,rfl⟩,by simp⟩) λ_=>tI (λT=> ?_) λ_=>N;have T:=eq_of_beq T;refine tB (xY ho) λk V=> ?_;have hC:z.Op=7∨z.Op=9->0≤z.C/\z.C<y.Br:=by
   rintro(h|h)
   . simp[rg7 h]at u;omega
   . simp[rg9 h]at u;omega
  have hB:z.Op=8∨z.Op=9∨z.Op=26->0≤z.B/\z.B<y.Br:=by
   rintro(h|h|h)
   . simp[rg8 h]at u;omega
   . simp[rg9 h]at u;omega
   . simp[rg26 h]at u;omega
  have hA:z.Op=6∨z.Op=7∨z.Op=10∨z.Op=27->0≤z.A/\z.A<y.Br:=by
   rintro(h|h|h|h)
   . simp[rg6 h]at u;omega
   . simp[rg7 h]at u;omega
   . simp[rg10 h]at u;omega
   . simp[rg27 h]at u;omega
  refine tB (iD λh=>by have:=hC h;omega) λo H=>tI (λ_=>N) λaZ=> ?_;have V:=V.resolve_left (by simpa using aZ);obtain⟨⟨a1,a2,a3,a4,a5,a6,a7,a8,a9⟩,b1,b2,b3,b4,b5⟩:=V;have U:z.Op=7∨z.Op=9->(k=3∨k=4)/\(ix c.World.Cells o).B0≠0:=by
   have key:∀b v,QT c.World b z.N->o=Ap (b+v)->(1≤z.N/\z.N≤4->0≤v/\v<z.N)->(ix c.World.Cells o).B0≠0:=by
    intro b v p j L;obtain⟨n1,n2⟩:=mP G.v.w p;obtain⟨d,d1,d2⟩:=n2 v (L n1).1 (L n1).2;have hd:=d1;unfold gt at hd;split at hd
    . have:=(AAQ.1 hd).1
      have:=(EC G.v.w).c;rw[j,DR (by omega) (by omega),kN d1];exact d2
    . cases hd
   rintro(h|h)
   . obtain⟨v,v1,v2⟩:=H.1 h;exact⟨.inl (b1 h),key _ v (S.a.1 h) v1 v2⟩
   . obtain⟨v,v1,v2⟩:=H.2 h;exact⟨.inr (b2 h),key _ v (S.a.2 h) v1 v2⟩
  have mk:∀D F,(D=[]∨D∈x.Bn/\(k=5∨(k=3∨k=4)/\(ix c.World.Cells o).B0≠0))->(F=[]∨F∈x.Bn/\(k=4∨k=22))->D.length≤100000->F.length≤100000->PE c s th ⟨th,k,o,0,z.Site,D,F⟩:=
   λD F p j L h4=>I _ ⟨L,h4⟩ rfl ⟨λh=>hA (by simp only at h;omega),λh=>hB (by simp only at h;omega),p,j,.inr ⟨.inr ⟨T,a6,a8,a9,a7⟩,rfl⟩,a3⟩
  have X:∀D,(D=[]∨D∈x.Bn/\(k=5∨(k=3∨k=4)/\(ix c.World.Cells o).B0≠0))->D.length≤100000->D6 (CD.J3 x z ⟨th,k,o,0,z.Site,D,[]⟩) λr=>r.2=true->PE c s th r.1:=by
   intro D p j;have Z:∀b,(b=true->z.Op=8∨z.Op=9∨z.Op=26)->D6 (CD.J4 ⟨th,k,o,0,z.Site,D,[]⟩ x z b) λr=>r.2=true->PE c s th r.1:=by
    intro b K;unfold CD.J4 CD.J5;refine tI (λh=>tG (by have:=hB (K h);omega) λq m=> ?_) λ_=>tR λ_=>mk _ _ p (.inl rfl) j (by simp);have M:=J q m;refine tC (DK (by simp;omega)) (tR λ_=>mk _ _ p (.inr ⟨by simpa using m,?_⟩) j (by simpa using M))
    have:=K h;omega
   unfold CD.J3;exact tI (λh=>Z _ λ_=>.inl (eq_of_beq h)) λ_=>tI (λh=>Z _ λ_=>.inr (.inl (eq_of_beq h))) λ_=>Z _ λh=>.inr (.inr (eq_of_beq h))
  have j2:∀b,(b=true->z.Op=7∨z.Op=9)->D6 (CD.J2 th k o x z b) λr=>r.2=true->PE c s th r.1:=by intro b h;unfold CD.J2;refine tI (λK=>tG (by have:=hC (h K);omega) λq m=> ?_) λ_=>X _ (.inl rfl) (by simp);have M:=J q m;exact tC (DK (by omega)) (X _ (.inr ⟨m,.inr (U (h K))⟩) M)
  refine tI (λh=>tG (by have:=hA (.inr (.inr (.inl (eq_of_beq h))));omega) λq m=> ?_) λ_=>tI (λh=>j2 _ λ_=>.inl (eq_of_beq h)) λ_=>j2 _ λh=>.inr (eq_of_beq h);have M:=J q m;exact tC (DK (by omega)) (X _ (.inr ⟨m,.inl (b3 (eq_of_beq h))⟩) M)
 unfold CD;refine tB (vJ hc s) λv hv=>tI (λ_=>j1 _ λh=>by cases h) λh=>tD (λ_=>j1 _ λh=>by cases h) λp=>j1 _ λj=>⟨hv (by simpa using h),by omega,?_⟩
 have:=of_decide_eq_false j;omega
def SI (N:Nat) (s:Ad):Prop:=RB N s.Sync/\∀t∈s.AA,TH N t
theorem TH.mono {E F:Nat} {t:AL} (h:TH E t) (a:E≤F):TH F t:=⟨h.r,h.t,h.b,h.e.1,by have:=h.e.2;omega⟩
theorem Z0 {E:Nat} {s:Ad} (h:∀t∈s.AA,TH E t) (b:E≤100000) (c:Tn s.Sync) (e:s.Cells.length≤1000) (g:s.AK.length≤1000) (f:s.AA.length≤1000):E5 s=some s:=by
 have key:D6 (E5 s) λr=>r=s:=by unfold E5;refine tE (jQ _ c) (tC (DK (by omega)) (tC (DK (by omega)) (XN s.AA.length (λi o=>o=⟨s.Sync,s.Cells,s.AK,s.AA.take i⟩) (F:=λn o i=>E5.Aa s n o i) (by omega) rfl λn i o hi d k=> ?_)));subst d;unfold E5.Aa E5.L1 E5.J1;refine tD (λ_=>jM (by omega) ?_) λ_=>tR (by rw[AA3 (by omega)]);exact tE (Zz (h _ (AAi (by omega))) b) (tC (DK (by simp;omega)) (k _ (by omega) (by rw[AAk])))
 obtain⟨r,a,rfl⟩:=key;exact a
structure SR (c:BF) (s:Ad) (ch:BK) (s':Ad) (e:AH):Prop where
 p:PE c s ch.Thread e
 en:DC c.World s.Sync ch.Thread e.Kind e.Obj=true
 sy:s'.Sync=(EN c.World s.Sync ch.Thread e.Kind e.Obj ch.S8).1
 va:(e.Kind=3->gt s.Cells e.Obj=some e.Value)/\(e.Kind=23->gt s.AK e.Obj=some e.Value)/\(e.Kind=5->e.Value=0∨e.Value=1)/\(e.Kind≠3->e.Kind≠23->e.Kind≠5->e.Kind≠4->e.Kind≠22->e.Value=(EN c.World s.Sync ch.Thread e.Kind e.Obj ch.S8).2)
 ce:s'.Cells=if e.Kind=4 then s.Cells.set e.Obj.toNat e.Value else s.Cells
 fu:s'.AK=if e.Kind=22 then s.AK.set e.Obj.toNat e.Value else s.AK
 th:∃x x',s.AA[ch.Thread.toNat]? =some x/\s'.AA=s.AA.set ch.Thread.toNat x'/\(e.Kind=16->x'.PC=x.PC)/\(x'=PN∨x'.AF=x.AF+1/\∀l∈x'.Bn,∀k∈l,(∃m∈x.Bn,k∈m)∨k=x.AF/\(e.Kind=3∨e.Kind=23))
theorem dC {E:Nat} {c:BF} (hc:CK c) {s:Ad} (O:SI E s) (hE:E≤10000) (g:BK):D6 (BE c s g) λr=>r.2.2=true->(SI (E+1) r.1/\mD r.2.1)/\SR c s g r.1 r.2.1:=by
 obtain⟨hr,O⟩:=O;have N:∀{x y} {P:Ad×AH×Bool->Prop},D6 (some (x,y,false)) λr:Ad×AH×Bool=>r.2.2=true->P r:=tR λh=>by cases h
 unfold BE;refine tB (To hc O (by omega) g.Thread) λv hv=>tI (λ_=>N) λh=> ?_;have hv:=hv (by simpa using h);obtain⟨D,ht,J,hh,hi⟩:=hv;have S:=EC D.v.w;have w1:=S.c;have w2:=S.f;have w3:=S.t;have c1:=D.c';have c2:=D.u;have c3:=D.n;have c4:=D.v.n;refine tE (Sd _ S _ (hr.mono (by omega)) _ _ _ _) (tI (λ_=>N) λB=> ?_);have M:DC c.World s.Sync g.Thread v.1.Kind v.1.Obj=true:=by
  cases I:DC c.World s.Sync g.Thread v.1.Kind v.1.Obj with
  |true=>rfl
  |false=>simp[Nt,I]at B
 have Z:CF c.World v.1.Kind v.1.Obj=true:=by have M:=M;unfold DC at M;simp only[AAP]at M;exact M.2.2.1
 have hap:Nt c.World s.Sync g.Thread v.1.Kind v.1.Obj g.S8=((EN c.World s.Sync g.Thread v.1.Kind v.1.Obj g.S8).1,(EN c.World s.Sync g.Thread v.1.Kind v.1.Obj g.S8).2,true):=by simp[Nt,M]
 rw[hap];have hR:=hr.apply c.World g.Thread v.1.Kind v.1.Obj g.S8;refine tE (Z0 O (by omega) (Tn.of S D.f (hr.mono (by omega))) (by omega) (by omega) (by omega)) ?_;obtain⟨x,x1,x2,x3⟩:=Fm (l:=s.AA) (i:=g.Thread) (by omega);obtain⟨y,y1,y2,y3⟩:=Fm (l:=c.AA) (i:=g.Thread) (by omega);obtain⟨p1,p2,p3⟩:=D.t _ x y x2 y2;obtain⟨z,z1,z2,z3⟩:=Fm (l:=y.A1) (i:=x.PC) (by omega);obtain⟨q,q1,q2,q3⟩:=Fm (l:=s.Sync.AA) (i:=g.Thread) (by have:=(FA D.f).2.2;omega);have iA:=(hi x y z q x2 y2 z2 q2).a;have iB:=(hi x y z q x2 y2 z2 q2).b;have K:=O x x3;refine tE x1 (tE y1 (tE z1 ?_));have hpe:∀val,PE c s g.Thread ⟨v.1.Thread,v.1.Kind,v.1.Obj,val,v.1.Site,v.1.D9,v.1.Db⟩:=λval=>⟨D,ht,J,hh,λx y z q a b c d=>by have h:=hi x y z q a b c d;exact⟨h.a,h.b,h.d,h.r,h.s,h.j⟩⟩;generalize H:EN c.World s.Sync g.Thread v.1.Kind v.1.Obj g.S8=ap at hR ⊢
 let VAC:Int->List Int->List Int->Prop:=λval C F=>((v.1.Kind=3->gt s.Cells v.1.Obj=some val)/\(v.1.Kind=23->gt s.AK v.1.Obj=some val)/\(v.1.Kind=5->val=0∨val=1)/\(v.1.Kind≠3->v.1.Kind≠23->v.1.Kind≠5->v.1.Kind≠4->v.1.Kind≠22->val=ap.2))/\C=(if v.1.Kind=4 then s.Cells.set v.1.Obj.toNat val else s.Cells)/\F=(if v.1.Kind=22 then s.AK.set v.1.Obj.toNat val else s.AK)
 let TX:AL->Prop:=λt=>t=PN∨t.AF=x.AF+1/\∀l∈t.Bn,∀k∈l,(∃m∈x.Bn,k∈m)∨k=x.AF/\(v.1.Kind=3∨v.1.Kind=23)
 have j6:∀val C F t,VAC val C F->TX t->(v.1.Kind=16->t.PC=x.PC)->TH (E+1) t->D6 (BE.J6 g ⟨v.1.Thread,v.1.Kind,v.1.Obj,val,v.1.Site,v.1.D9,v.1.Db⟩ C F (ap.1,ap.2,true) s t) λr=>r.2.2=true->(SI (E+1) r.1/\mD r.2.1)/\SR c s g r.1 r.2.1:=by
  intro val C F t p B X h4;unfold BE.J6;refine tE x1 (tR λ_=>⟨⟨⟨hR,?_⟩,J⟩,hpe val,M,by rw[H],?_,p.2.1,p.2.2,x,t,x2,rfl,X,B⟩)
  . intro q G;rcases AAv G with G|rfl
    . exact(O q G).mono (by omega)
    . exact h4
  . rw[H];exact p.1
 have W:Ap (x.AF+1)=x.AF+1:=by have:=K.e;exact DR (by omega) (by omega)
 have j5:∀val n C F t b,VAC val C F->(v.1.Kind=16->n=x.PC/\b=false)->t.AF=x.AF->(∀l∈t.Bn,∀k∈l,(∃m∈x.Bn,k∈m)∨k=x.AF/\(v.1.Kind=3∨v.1.Kind=23))->TH (E+1) ⟨0,t.Br,t.Bn,Ap (t.AF+1)⟩->
  D6 (BE.J5 c g ⟨v.1.Thread,v.1.Kind,v.1.Obj,val,v.1.Site,v.1.D9,v.1.Db⟩ n C F t (ap.1,ap.2,true) s b) λr=>r.2.2=true->(SI (E+1) r.1/\mD r.2.1)/\SR c s g r.1 r.2.1:=by
  intro val n C F t b p hn I R B;unfold BE.J5;have X:∀n,TH (E+1) ⟨n,t.Br,t.Bn,Ap (t.AF+1)⟩:=λn=>⟨B.r,B.t,B.b,B.e⟩;refine tI (λo=>tE y1 (tB (eM (X n) R (by omega) (hc.i y y3)) λu hu=>j6 _ _ _ _ p ?_ (λh=>by rw[(hn h).2]at o;cases o) hu.1)) λ_=>j6 _ _ _ _ p (.inr ⟨by rw[I,W],R⟩) (λh=>(hn h).1) (X n);exact hu.2.imp id λh=>⟨by rw[h.1,I,W],h.2⟩
 have j3:∀val n C F b,VAC val C F->(v.1.Kind=16->n=x.PC)->(b=true->(v.1.Kind=3∨v.1.Kind=23))->D6 (BE.J3 c g ⟨v.1.Thread,v.1.Kind,v.1.Obj,val,v.1.Site,v.1.D9,v.1.Db⟩ n C F (ap.1,ap.2,true) s x z b) λr=>r.2.2=true->(SI (E+1) r.1/\mD r.2.1)/\SR c s g r.1 r.2.1:=by
  intro val n C F b p hn B;unfold BE.J3 BE.J4;have I:=K.e;have T:∀{t},(∀l∈t.Bn,∀k∈l,(∃m∈x.Bn,k∈m)∨k=x.AF/\(v.1.Kind=3∨v.1.Kind=23))->t.AF=x.AF->TH (E+1) ⟨0,t.Br,t.Bn,Ap (t.AF+1)⟩->D6 (if(v.1.Kind != 16)=true then BE.J5 c g ⟨v.1.Thread,v.1.Kind,v.1.Obj,val,v.1.Site,v.1.D9,v.1.Db⟩ n C F t (ap.1,ap.2,true) s (v.1.Kind != 2)else BE.J5 c g ⟨v.1.Thread,v.1.Kind,v.1.Obj,val,v.1.Site,v.1.D9,v.1.Db⟩ n C F t (ap.1,ap.2,true) s false) λr=>r.2.2=true->(SI (E+1) r.1/\mD r.2.1)/\SR c s g r.1 r.2.1:=λR I hT=>
   tI (λh=>j5 _ _ _ _ _ _ p (λQ=>by rw[Q]at h;cases h) I R hT) λ_=>j5 _ _ _ _ _ _ p (λh=>⟨hn h,rfl⟩) I R hT
  refine tI (λo=> ?_) λ_=> ?_
  . have B:=B o;have hA:=iA (by omega);refine tG (by omega) λ_ _=>tG (by omega) λ_ _=>T ?_ rfl ?_
    . intro l J k hk;rcases AAv J with J|rfl
      . exact .inl ⟨l,J,hk⟩
      . exact .inr ⟨AA4.1 hk,B⟩
    . simp only[W];refine⟨by simpa using K.r,by simpa using K.t,?_,by simp only;omega⟩;intro q G;rcases AAv G with G|rfl
      . exact(K.b q G).mono (by simp only;omega)
      . exact⟨by simp,by simp;omega⟩
  . refine T (λl J k hk=>.inl ⟨l,J,hk⟩) rfl ?_;simp only[W];exact⟨K.r,K.t,λq G=>(K.b q G).mono (by simp only;omega),by simp only;omega⟩
 have L:∀C F val n,VAC val C F->(v.1.Kind=16->n=x.PC)->D6 (BE.J2 c g (ap.1,ap.2,true) s x z C F ⟨v.1.Thread,v.1.Kind,v.1.Obj,val,v.1.Site,v.1.D9,v.1.Db⟩ n) λr=>r.2.2=true->(SI (E+1) r.1/\mD r.2.1)/\SR c s g r.1 r.2.1:=by intro C F val n p hn;unfold BE.J2;exact tI (λh=>j3 _ _ _ _ _ p hn λ_=>.inl (eq_of_beq h)) λ_=>j3 _ _ _ _ _ p hn λh=>.inr (eq_of_beq h)
 have j1:∀b,(b=true->v.1.Kind=1∨v.1.Kind=16∨v.1.Kind=2)->(b=false->v.1.Kind≠16)->D6 (BE.J1 c g v (ap.1,ap.2,true) s x z b) λr=>r.2.2=true->(SI (E+1) r.1/\mD r.2.1)/\SR c s g r.1 r.2.1:=by
  intro b o hb2;unfold BE.J1;refine tI (λh=>L _ _ _ _ ⟨⟨by have:=o h;omega,by have:=o h;omega,by have:=o h;omega,λ_ _ _ _ _=>rfl⟩,by rw[AAX (by have:=o h;omega)],by rw[AAX (by have:=o h;omega)]⟩ λ_=>rfl) λh0=>tI (λh=> ?_) λn3=>tI (λh=> ?_) λV=>tI (λh=> ?_) λn4=>tI (λh=> ?_) λU=>tI (λh=> ?_) λn5=> ?_
  . have h:=eq_of_beq h
    have:=B9.1 (show Ee v.1.Obj c.World.Cells.length=true by simpa[CF,h]using Z);obtain⟨d,d1,_⟩:=Fm (l:=s.Cells) (i:=v.1.Obj) (by omega);exact tE d1 (L _ _ _ _ ⟨⟨λ_=>d1,by omega,by omega,by omega⟩,by rw[AAX (by omega)],by rw[AAX (by omega)]⟩ (by omega))
  . have h:=eq_of_beq h
    have:=B9.1 (show Ee v.1.Obj c.World.AK.length=true by simpa[CF,h]using Z);obtain⟨d,d1,_⟩:=Fm (l:=s.AK) (i:=v.1.Obj) (by omega);exact tE d1 (L _ _ _ _ ⟨⟨by omega,λ_=>d1,by omega,by omega⟩,by rw[AAX (by omega)],by rw[AAX (by omega)]⟩ (by omega))
  . have h:=eq_of_beq h
    have:=B9.1 (show Ee v.1.Obj c.World.Cells.length=true by simpa[CF,h]using Z);have o:=iB (.inl h);exact tG (by omega) λ_ _=>tG (by omega) λ_ _=>L _ _ _ _ ⟨⟨by omega,by omega,by omega,by omega⟩,by rw[AAY h],by rw[AAX (by omega)]⟩ (by omega)
  . have h:=eq_of_beq h
    have:=B9.1 (show Ee v.1.Obj c.World.AK.length=true by simpa[CF,h]using Z);have o:=iB (.inr h);exact tG (by omega) λ_ _=>tG (by omega) λ_ _=>L _ _ _ _ ⟨⟨by omega,by omega,by omega,by omega⟩,by rw[AAX (by omega)],by rw[AAY h]⟩ (by omega)
  . have h:=eq_of_beq h;have o:=iA (.inr (.inr h));exact tG (by omega) λ_ _=>tI (λ_=>L _ _ _ _ ⟨⟨by omega,by omega,λ_=>.inl rfl,by omega⟩,by rw[AAX (by omega)],by rw[AAX (by omega)]⟩ (by omega)) λ_=>L _ _ _ _ ⟨⟨by omega,by omega,λ_=>.inr rfl,by omega⟩,by rw[AAX (by omega)],by rw[AAX (by omega)]⟩ (by omega)
  . simp only[beq_eq_false_iff_ne,ne_eq]at n3 V n4 U n5;exact L _ _ _ _ ⟨⟨λh=>absurd h n3,λh=>absurd h V,λh=>absurd h n5,λ_ _ _ _ _=>rfl⟩,by rw[AAX n4],by rw[AAX U]⟩ λh=>absurd h (hb2 h0)
 exact tI (λh=>j1 _ (λ_=>.inl (eq_of_beq h)) λQ=>by rw[Q]at h;cases h) λ_=>tI (λh=>j1 _ (λ_=>.inr (.inl (eq_of_beq h))) λQ=>by rw[Q]at h;cases h) λn16=>j1 _ (λh=>.inr (.inr (eq_of_beq h))) λ_=>by simpa using n16
structure TM (n:Nat) (t:Az):Prop where
 n:t.AF.length≤n
 e:∀e∈t.AF,mD e
 w:t.AF≠[]->Ck t.World=true
theorem mD.ok {e:AH} (h:mD e):S7 e:=⟨by have:=h.1;omega,by have:=h.2;omega⟩
theorem getT {s:AN} {i:Int} {f:AE->AE} {u:Nat} {q:AE} (hi:0≤i/\i<s.AA.length) (h:(LB s i f).AA[u]? =some q):(u:Int)=i/\q=f (ix s.AA i)∨(u:Int)≠i/\s.AA[u]? =some q:=by
 unfold LB at h;by_cases e:(u:Int)=i
 . have a:i.toNat=u:=(by omega);rw[a,AAS (by omega)]at h;exact .inl ⟨e,(AAR h).symm⟩
 . rw[AAV (by omega)]at h;exact .inr ⟨e,h⟩
theorem lH {a:Type} [Inhabited a] {l:List a} {u:Nat} {i:Int} {x:a} (h:l[u]? =some x) (hi:(u:Int)=i):ix l i=x:=by subst hi;unfold ix;simp[h]
theorem qD {wv:AD} {s:AN} {t k o:Int} (h:DC wv s t k o=true) (a:k≠1) (b:k≠17):(ix s.AA t).Status=2:=by unfold DC Kb at h;simp only[AAP,AAX a,AAX b]at h;exact eq_of_beq h.2.2.2.1
theorem Mt {wake:Int} {W:List Int} (h:W≠[]):EX wake W∈W:=by
 unfold EX;rw[AAX h];split
 . rename_i h;simpa using h
 . cases W with
   |nil=>exact absurd rfl h
   |cons a r=>simp
theorem jG (o:Int) (T:List AE):∀(i:Nat) (u:Int),u∈Bz o i T->∃x,T[(u-i).toNat]? =some x/\x.Status=3:=by
 induction T with
 |nil=>intro i u h;cases h
 |cons x r ih=>
  intro i u h;unfold Bz at h;have key:u∈Bz o (i+1) r->∃y,(x::r)[(u-i).toNat]? =some y/\y.Status=3:=by intro h;have b:=(Ie o r (i+1) u h).1;obtain⟨y,y1,y2⟩:=ih (i+1) u h;refine⟨y,?_,y2⟩;rw[show(u-(i:Int)).toNat=(u-((i+1:Nat):Int)).toNat+1 from by omega,ABA];exact y1
  split at h
  . rename_i a;rcases AAp.1 h with rfl|h
    . refine⟨x,by simp,?_⟩;unfold Ia at a;simp only[AAP]at a;exact eq_of_beq a.1
    . exact key h
  . exact key h
theorem jE {wv:AD} {s:AN} {t k o wake:Int} (h:DC wv s t k o=true) {u:Nat} {i:AE} (c:(EN wv s t k o wake).1.AA[u]? =some i):
 ((u:Int)=t->k=16∨i.Status=2∨i.Status=5)/\((u:Int)≠t->i.Status=1∨∃q,s.AA[u]? =some q/\(i=q∨q.Status=3/\i.Status=4)):=by
 have m:=λa b=>qD h (k:=k) a b;have E:=h;unfold DC at E;simp only[AAP]at E;obtain⟨M,C,L,H⟩:=E;obtain⟨_,_,N⟩:=FA M;have C:=B9.1 C;rw[← N]at C
 -- a thread's own place
 have own:∀(j:AN) (f:AE->AE),j.AA=s.AA->(LB j t f).AA[u]? =some i->(k=16∨(f (ix s.AA t)).Status=2∨(f (ix s.AA t)).Status=5)->
  ((u:Int)=t->k=16∨i.Status=2∨i.Status=5)/\((u:Int)≠t->i.Status=1∨∃q,s.AA[u]? =some q/\(i=q∨q.Status=3/\i.Status=4)):=by
  intro j f G y z;rcases getT (by rw[G];exact C) y with⟨e,rfl⟩|⟨e,p⟩
  . rw[G];exact⟨λ_=>z,λh=>absurd e h⟩
  . rw[G]at p;exact⟨λh=>absurd h e,λ_=>.inr ⟨i,p,.inl rfl⟩⟩
 -- nobody's place
 have g:∀(T:List AE),T=s.AA->T[u]? =some i->(ix s.AA t).Status=2->((u:Int)=t->k=16∨i.Status=2∨i.Status=5)/\((u:Int)≠t->i.Status=1∨∃q,s.AA[u]? =some q/\(i=q∨q.Status=3/\i.Status=4)):=by rintro _ rfl y z;exact⟨λe=>.inr (.inl (by rw[lH y e]at z;exact z)),λ_=>.inr ⟨i,y,.inl rfl⟩⟩
 unfold EN at c;by_cases l:k=1
 . rw[AAY l]at c;exact own s _ rfl c (.inr (.inl rfl))
 rw[AAX l]at c;by_cases K:k=2
 . rw[AAY K]at c;exact own s _ rfl c (.inr (.inr rfl))
 rw[AAX K]at c;by_cases e:k=6∨k=10
 . rw[AAY e]at c;exact g _ rfl c (m l (by omega))
 rw[AAX e]at c;by_cases e:k=7∨k=11
 . rw[AAY e]at c;exact g _ rfl c (m l (by omega))
 rw[AAX e]at c;by_cases e:k=8
 . rw[AAY e]at c;exact g _ rfl c (m l (by omega))
 rw[AAX e]at c;by_cases e:k=9
 . rw[AAY e]at c;exact g _ rfl c (m l (by omega))
 rw[AAX e]at c;by_cases e:k=12
 . rw[AAY e]at c;exact g _ rfl c (m l (by omega))
 rw[AAX e]at c;by_cases e:k=13
 . rw[AAY e]at c;exact g _ rfl c (m l (by omega))
 rw[AAX e]at c;by_cases e:k=14
 . rw[AAY e]at c;exact own s _ rfl c (.inr (.inl (m l (by omega))))
 rw[AAX e]at c;by_cases e:k=15
 . rw[AAY e]at c;exact own s _ rfl c (.inr (.inl (m l (by omega))))
 rw[AAX e]at c;by_cases D:k=16
 . rw[AAY D]at c;exact own (Kc s (ix wv.Af o).Mutex λx=>⟨-1,x.As⟩) _ rfl c (.inl D)
 rw[AAX D]at c;by_cases n:k=17
 . rw[AAY n]at c;exact own (Kc s (ix wv.Af o).Mutex λx=>⟨t,x.As⟩) _ rfl c (.inr (.inl rfl))
 rw[AAX n]at c;have j:=m l n;by_cases e:k=18
 . rw[AAY e]at c;by_cases B:Bz o 0 s.AA=[]
   . rw[AAY B]at c;exact g _ rfl c j
   . rw[AAX B]at c;obtain⟨x,v,O⟩:=jG o s.AA 0 _ (Mt (wake:=wake) B);have I:=Ie o s.AA 0 _ (Mt (wake:=wake) B);generalize EX wake (Bz o 0 s.AA)=d at c v I;have v:s.AA[d.toNat]? =some x:=(by simpa using v);have hd:ix s.AA d=x:=lH v (by omega);rcases getT (by simp at I;omega) c with⟨e,rfl⟩|⟨e,p⟩
     . refine⟨λh=> ?_,λ_=>.inr ⟨x,?_,.inr ⟨O,rfl⟩⟩⟩
       . rw[← h,e,hd]at j;omega
       . rw[show u=d.toNat from by omega];exact v
     . exact g _ rfl p j
 rw[AAX e]at c;by_cases e:k=19
 . rw[AAY e]at c;have c:(s.AA.map (IM o))[u]? =some i:=c;rw[AAZ]at c;cases hx:s.AA[u]? with
   |none=>rw[hx]at c;cases c
   |some x=>
    rw[hx]at c;obtain rfl:=AAR c;unfold IM;by_cases r:Ia x o=true
    . have:x.Status=3:=(by unfold Ia at r;simp only[AAP]at r;exact eq_of_beq r.1);rw[AAY r];refine⟨λe=> ?_,λ_=>.inr ⟨x,rfl,.inr ⟨this,rfl⟩⟩⟩;rw[lH hx e]at j;omega
    . rw[AAX r];exact⟨λe=>.inr (.inl (by rw[lH hx e]at j;exact j)),λ_=>.inr ⟨x,rfl,.inl rfl⟩⟩
 rw[AAX e]at c;by_cases w:k=20
 . rw[AAY w]at c;have J:Ee o wv.AA.length=true:=(by simpa[CF,w]using L);have F:o≠t:=(by simp[Kb,w]at H;exact H.2.1);have J:=B9.1 J;rcases getT (by omega) c with⟨e,rfl⟩|⟨e,p⟩
   . exact⟨λh=>absurd (e.symm.trans h) F,λ_=>.inl rfl⟩
   . exact g _ rfl p j
 rw[AAX w]at c;by_cases e:k=22
 . rw[AAY e]at c;exact g _ rfl c j
 . rw[AAX e]at c;exact g _ rfl c j
theorem VZ (wv:AD) (s:AN) (t k o wake:Int):(EN wv s t k o (if k=18 then(EN wv s t k o wake).2 else -1)).1=(EN wv s t k o wake).1:=by
 by_cases h:k=18
 . rw[AAY h,h];have key:∀w,(EN wv s t 18 o w)=(if Bz o 0 s.AA=[]then s else LB s (EX w (Bz o 0 s.AA)) Hv,EX w (Bz o 0 s.AA)):=λw=>by simp[EN]
   rw[key,key];by_cases a:Bz o 0 s.AA=[]
   . simp[a]
   . have:=Mt (wake:=wake) a;simp only[a,AAe];rw[show EX (EX wake (Bz o 0 s.AA)) (Bz o 0 s.AA)=EX wake (Bz o 0 s.AA)from ?_];generalize EX wake (Bz o 0 s.AA)=d at this ⊢;unfold EX;rw[AAX a,AAY (by simpa using this)]
 . rw[AAX h];unfold EN;simp only[AAX h]
theorem nums_of {c:Int} (D:List Int):∀a:Int,D.Pairwise (· < ·)->(∀k∈D,a<k/\k<c)->Gb c a D=true:=by
 induction D with
 |nil=>exactλ_ _ _=>rfl
 |cons x r ih=>intro a f b;obtain⟨g,h⟩:=List.pairwise_cons.1 f;have e:=b x ABL;unfold Gb;simp only[AAP,AAf];exact⟨e.1,e.2,ih x h λk d=>⟨g k d,(b k (List.mem_cons_of_mem _ d)).2⟩⟩
theorem xT {l:List Bool} {b:Bool} {k:Int} (h:NV l k=true):NV (l++[b]) k=true:=by
 unfold NV at h ⊢;simp only[AAP]at h ⊢;have hi:=B9.1 h.1;refine⟨B9.2 (by simp;omega),?_⟩
 have:=h.2;unfold ix at this ⊢;rw[AAr (by omega)];exact this
theorem o5 {l:List Bool}:NV (l++[true]) (l.length:Int)=true:=by unfold NV;simp only[AAP];exact⟨B9.2 (by simp;omega),by unfold ix;simp⟩
structure GT (pre:List AH) (u:Int) (cnt:Int) (x:AL):Prop where
 c:cnt=x.AF
 n:x.AF=((OB pre u).length:Int)
 k:∀l∈x.Bn,∀k∈l,NV (OB pre u) k=true/\1≤k
structure LK (c:BF) (pre:List AH) (S:AB) (s:Ad):Prop where
 y:S.Sync=s.Sync
 ce:S.Cells=s.Cells
 f:S.AK=s.AK
 n:S.Count.length=c.World.AA.length
 t:∀(u:Nat) x y,s.AA[u]? =some x->c.AA[u]? =some y->y.Br=0∨x=PN∨GT pre u (ix S.Count u) x
 w:∀(u:Nat) x y q,s.AA[u]? =some x->c.AA[u]? =some y->s.Sync.AA[u]? =some q->q.Status=3∨q.Status=4->∃z,gt y.A1 x.PC=some z/\z.Op=21
 e:∀(u:Nat) x q,s.AA[u]? =some x->s.Sync.AA[u]? =some q->2≤q.Status->x=PN∨1≤x.AF
theorem tK {wv:AD} {s:AN} {t k o wake:Int} (c:k≠18) (d:k≠19):(EN wv s t k o wake).2=0:=by
 have key:∀(P:Prop) [Decidable P] (a b:AN×Int),a.2=0->b.2=0->(if P then a else b).2=0:=λP _ a b e f=>by
  by_cases h:P
  . rw[AAY h];exact e
  . rw[AAX h];exact f
 unfold EN;rw[AAX c,AAX d]
 repeat' first|rfl|apply key
theorem sim {E:Nat} {c:BF} {s s':Ad} {g:BK} {e:AH} {j:List AH} {S:AB} (hE:E≤10000) (L:SI E s) (B:LK c j S s) (hr:SR c s g s' e):
 Kf c.World S e=true/\RG j e=true/\LK c (j++[e]) (GL c.World S e) s':=by
 obtain⟨hp,O,hsy,xM,hce,hfu,x,x',U,hth,h16,KY⟩:=hr;obtain⟨M,ht,_,R,hi⟩:=hp;have c1:=M.c';have c2:=M.u;have c3:=M.n;have c4:=M.v.n;have l3:=(FA M.f).2.2;obtain⟨y,_,y2,_⟩:=Fm (l:=c.AA) (i:=g.Thread) (by omega);obtain⟨p1,p2,p3⟩:=M.t _ x y U y2;obtain⟨z,z1,z2,z3⟩:=Fm (l:=y.A1) (i:=x.PC) (by omega);obtain⟨q,_,q2,_⟩:=Fm (l:=s.Sync.AA) (i:=g.Thread) (by omega);have F:=hi x y z q U y2 z2 q2;have hz:=(M.v.t _ y y2).i z z3;have hx:=L.2 x (AAb U);have G:((g.Thread.toNat:Nat):Int)=g.Thread:=by omega
 -- a thread with registers shows what its trace shows
 have hgt:y.Br=0∨GT j g.Thread (ix S.Count g.Thread) x:=by
  rcases B.t _ x y U y2 with h|h|h
  . exact .inl h
  . rw[h]at p2;exact .inl p2.symm
  . rw[G]at h;exact .inr h
 have J:∀D,D=[]∨D∈x.Bn->Gb (ix S.Count e.Thread) 0 D=true/\D.all (NV (OB j e.Thread))=true:=by
  rintro D (rfl|J)
  . exact⟨rfl,rfl⟩
  . rcases hgt with h|h
    . have:x.Bn.length=0:=(by omega);rw[List.length_eq_zero_iff.1 this]at J;cases J
    . rw[R];refine⟨nums_of D 0 (hx.b D J).1 λk T=>⟨by have:=(h.k D J k T).2;omega,?_⟩,AAU.2 λk T=>(h.k D J k T).1⟩;rw[h.c];exact((hx.b D J).2 k T).2
 have Z:=J e.D9 (F.d.imp id λh=>h.1);have Zs:=J e.Db (F.r.imp id λh=>h.1);have p:CF c.World e.Kind e.Obj=true:=by have O:=O;unfold DC at O;simp only[AAP]at O;exact O.2.2.1
 have TK:ND c.World e=true:=by
  unfold ND;have site:z.Op≠28->e.Site=z.Site->(Ee e.Site c.World.A7.length&&(ix c.World.A7 e.Site).Thread==e.Thread)=true:=by
   intro W I;have L:=hz.s;unfold W5 at L;rw[AAX W,G]at L;obtain⟨b,V,b2⟩:=L;have C:=V;unfold gt at C;split at C
   . have:=(AAQ.1 C).1;rw[I,kN V,b2,R];simp only[AAP,ABB,and_true];exact B9.2 (by omega)
   . cases C
  rcases F.s with⟨k1,k2⟩|⟨⟨q4,gV⟩|⟨q2',k2,n1,n17,Q⟩,xK⟩
  . rw[AAY (.inl k1),k2];rfl
  . obtain⟨z',V,b2⟩:=B.w _ x y q U y2 q2 (.inr q4);rw[z1]at V;obtain rfl:=AAR V;rw[AAX (by omega)];exact site (by omega) xK
  . by_cases I:e.Kind=2
    . have L:=hz.s;unfold W5 at L;rw[AAY (k2.1 I)]at L;rw[AAY (.inr I),xK,L];rfl
    . rw[AAX (by omega)];exact site (λh=>I (k2.2 h)) xK
 have X:FN c.World S e=true:=by unfold FN;rw[Z.1,Zs.1];simp only[Bool.and_true,AAP,AAx];refine⟨F.d.imp (λh=>by rw[h];rfl) λh=>h.2.imp (λh=>by rw[h];rfl) λh=> ?_,F.r.imp (λh=>by rw[h];rfl) λh=>h.2.imp (λh=>by rw[h];rfl) λh=>by rw[h];rfl⟩;unfold RT;rw[AAY h.1];simpa using h.2
 have BP:JE S e=true:=by
  unfold JE;rw[B.ce,B.f,B.y];obtain⟨v1,v2,v3,v4⟩:=xM;by_cases k3:e.Kind=3
  . rw[AAY k3,kN (v1 k3)];simp
  rw[AAX k3];by_cases o7:e.Kind=23
  . rw[AAY o7,kN (v2 o7)];simp
  rw[AAX o7];by_cases k5:e.Kind=5
  . rw[AAY k5];rcases v3 k5 with h|h<;>rw[h]<;>rfl
  rw[AAX k5];by_cases k4:e.Kind=4∨e.Kind=22
  . rw[AAY k4]
  rw[AAX k4];have hv:=v4 k3 o7 k5 (by omega) (by omega);by_cases N:e.Kind=18
  . rw[AAY N];have:e.Value=EX g.S8 (Bz e.Obj 0 s.Sync.AA):=(by rw[hv,N];simp[EN]);by_cases hW:Bz e.Obj 0 s.Sync.AA=[]
    . rw[this,hW];rfl
    . have hm:=Mt (wake:=g.S8) hW;rw[← this]at hm;simp only[AAx];exact .inl (by simpa using hm)
  rw[AAX N];by_cases jK:e.Kind=19
  . rw[AAY jK,hv,jK];simp[EN]
  rw[AAX jK,hv];simp[tK N jK]
 have P:Kf c.World S e=true:=by unfold Kf MJ;rw[B.y,B.ce,B.f,M.f,R,O,TK,X,BP,B.n,c1,c2];simp only[ABB,Bool.and_true,AA0];exact B9.2 (by omega)
 have K:RG j e=true:=by unfold RG;rw[Z.2,Zs.2];rfl
 refine⟨P,K,?_⟩;have hsy':(GL c.World S e).Sync=s'.Sync:=by
  show(EN c.World S.Sync e.Thread e.Kind e.Obj (if e.Kind=18 then e.Value else -1)).1=_
  rw[B.y,hsy,R];by_cases N:e.Kind=18
  . have hv:=xM.2.2.2 (by omega) (by omega) (by omega) (by omega) (by omega)
    have:=VZ c.World s.Sync g.Thread e.Kind e.Obj g.S8;rw[AAY N]at this ⊢;rw[hv];exact this
  . have:=VZ c.World s.Sync g.Thread e.Kind e.Obj g.S8;rw[AAX N]at this ⊢;exact this
 have H:∀(u:Nat) a,s'.AA[u]? =some a->(u:Int)=g.Thread/\a=x'∨(u:Int)≠g.Thread/\s.AA[u]? =some a:=by
  intro u a p;rw[hth]at p;by_cases o:(u:Int)=g.Thread
  . rw[show g.Thread.toNat=u from by omega,AAS (by omega)]at p;exact .inl ⟨o,(AAR p).symm⟩
  . rw[AAV (by omega)]at p;exact .inr ⟨o,p⟩
 have sJ:∀u:Nat,ix (GL c.World S e).Count (u:Int)=if(u:Int)=g.Thread then Ap (ix S.Count g.Thread+1)else ix S.Count u:=by
  intro u;show ix (S.Count.set e.Thread.toNat (Ap (ix S.Count e.Thread+1))) u=_;rw[R];by_cases o:(u:Int)=g.Thread
  . rw[AAY o];have D5:u<S.Count.length:=(by rw[B.n];omega);rw[show g.Thread.toNat=u from by omega];unfold ix;simp[D5]
  . rw[AAX o];unfold ix;rw[AAV (by omega)]
 have RF:∀u:Int,OB (j++[e]) u=if g.Thread=u then OB j u++[rF e]else OB j u:=λu=>by rw[NF,R]
 have Bs:∀(u:Nat) b,s'.Sync.AA[u]? =some b->((u:Int)=g.Thread->e.Kind=16∨b.Status=2∨b.Status=5)/\((u:Int)≠g.Thread->b.Status=1∨∃q,s.Sync.AA[u]? =some q/\(b=q∨q.Status=3/\b.Status=4)):=by intro u b C;rw[hsy]at C;exact jE O C
 refine⟨hsy',?_,?_,?_,?_,?_,?_⟩
 . rw[hce,← B.ce];rfl
 . rw[hfu,← B.f];rfl
 . show(S.Count.set _ _).length=_;rw[List.length_set];exact B.n
 . intro u a b p C;rcases H u a p with⟨o,rfl⟩|⟨o,p⟩
   . rw[show u=g.Thread.toNat from by omega,y2]at C;obtain rfl:=AAR C;rcases hgt with h|h
     . exact .inl h
     . rcases KY with KY|⟨e1,e2⟩
       . exact .inr (.inl KY)
       . by_cases hR:y.Br=0
         . exact .inl hR
         . refine .inr (.inr ⟨?_,?_,?_⟩)
           . rw[sJ,AAY o,h.c,e1]
             have:=hx.e;exact DR (by omega) (by omega)
           . rw[RF,o,AAY rfl,e1,h.n];simp
           . intro l hl' k T;rw[RF,o,AAY rfl];rcases e2 l hl' k T with⟨m,m1,m2⟩|⟨rfl,hk3⟩
             . exact⟨xT (h.k m m1 k m2).1,(h.k m m1 k m2).2⟩
             . have hr:rF e=true:=(by unfold rF;rcases hk3 with h|h<;>simp[h]);rw[hr]
               have:=o5 (l:=OB j g.Thread);rw[← h.n]at this;refine⟨this,?_⟩;have hq:2≤q.Status:=(by rcases F.s with⟨k1,_⟩|⟨⟨_,gV⟩|⟨q2',_⟩,_⟩<;>omega);rcases B.e _ x q U q2 hq with h0|h0
               . rw[h0]at p2;exact absurd p2.symm hR
               . exact h0
   . rcases B.t u a b p C with h|h|h
     . exact .inl h
     . exact .inr (.inl h)
     . refine .inr (.inr ⟨?_,?_,?_⟩)
       . rw[sJ,AAX o];exact h.c
       . rw[RF,AAX (λh=>o h.symm)];exact h.n
       . rw[RF,AAX (λh=>o h.symm)];exact h.k
 . intro u a b d p C hd hs34;rcases H u a p with⟨o,rfl⟩|⟨o,p⟩
   . rw[show u=g.Thread.toNat from by omega,y2]at C;obtain rfl:=AAR C;have Q:e.Kind=16:=(by rcases(Bs u d hd).1 o with h|h|h<;>omega);rw[h16 Q];refine⟨z,z1,?_⟩;rcases F.s with⟨k1,_⟩|⟨⟨_,gV⟩|⟨_,_,_,_,h⟩,_⟩
     . omega
     . omega
     . exact h Q
   . rcases(Bs u d hd).2 o with h|⟨q',W,I⟩
     . omega
     . refine B.w u a b q' p C W ?_;rcases I with rfl|I
       . exact hs34
       . exact .inl I.1
 . intro u a d p hd I;rcases H u a p with⟨o,rfl⟩|⟨o,p⟩
   . rcases KY with h|⟨e1,_⟩
     . exact .inl h
     . have:=hx.e;exact .inr (by omega)
   . rcases(Bs u d hd).2 o with h|⟨q',W,h3⟩
     . omega
     . refine B.e u a q' p W ?_;rcases h3 with rfl|h3<;>omega
theorem lZ {wv:AD} {j:Nat} {q:AE} (h:(Mj wv).AA[j]? =some q):q.Status=0∨q.Status=1:=by
 have h:=AAb h;unfold Mj at h;rcases AAv h with h|rfl
 . rw[List.eq_of_mem_replicate h];exact .inl rfl
 . exact .inr rfl
theorem Start9_ok {c:BF} (I:CK c) (b:CB c=some true):D6 (EW c) λs=>SI 0 s/\LK c [] (Gg c.World) s:=by
 unfold EW;obtain⟨v,G,H⟩:=VK I;rw[b]at G;have z:=H (AAR G).symm;rw[b,AAO];refine tI (λh=>by cases h) λ_=> ?_;have b:=z;have B:=EC b.w;have W:=B.c;have X:=B.f;have Z:=I.n;refine tE (cE _ B) (XN c.World.Cells.length (λi s=>s.Sync=Mj c.World/\s.Cells=(c.World.Cells.take i).map (·.Init)/\s.AK=[]/\s.AA=[]) (F:=λn s i=>EW.Aa c n s i) (by omega) ⟨rfl,rfl,rfl,rfl⟩ λn i s hi e k=> ?_);obtain⟨K,g,L,M⟩:=e;have T:s.Cells.length=i:=by rw[g];simp;omega
 unfold EW.Aa EW.L1 EW.J1;refine tD (λ_=>jM (by omega) (tC (DK (by omega)) (k _ (by omega) ⟨K,by simp only;rw[g,← AAk (by omega),AA9];rfl,L,M⟩))) λ_=> ?_;have g:s.Cells=c.World.Cells.map (·.Init):=by rw[g,AA3 (by omega)]
 refine XN c.World.AK.length (λi t=>t.Sync=Mj c.World/\t.AK=List.replicate i 0/\t.AA=[]/\t.Cells=s.Cells) (F:=λn s i=>EW.C2 c n s i) (by omega) ⟨K,by simp[L],M,rfl⟩ λn i t hi e k=> ?_;obtain⟨N,m,D,O⟩:=e;have T:t.AK.length=i:=by rw[m];simp
 unfold EW.C2 EW.L2 EW.J2;refine tD (λ_=>tC (DK (by omega)) (k _ (by omega) ⟨N,by simp only;rw[m,← List.replicate_succ'],D,O⟩)) λ_=> ?_;have m:t.AK=List.replicate c.World.AK.length 0:=by rw[m,show i=c.World.AK.length by omega]
 refine XN c.AA.length (λi u=>u.Sync=Mj c.World/\u.AA.length=i/\(∀x∈u.AA,TH 0 x/\x.AF=0/\∀l∈x.Bn,l=[])/\u.Cells=s.Cells/\u.AK=t.AK) (F:=λn s i=>EW.Gm c n s i) (by omega) ⟨N,by simp[D],by simp[D],O,rfl⟩ λn i u hi e k=> ?_;obtain⟨o,V,E,P,Q⟩:=e;unfold EW.Gm EW.L3 EW.J3;refine tD (λ_=>jM (by omega) ?_) λ_=>tR ⟨⟨by rw[o];exact RB.start _,λx a=>(E x a).1⟩,by rw[o];rfl,by rw[P,g];rfl,by rw[Q,m];rfl,by have:=b.n;simp[Gg],?_,?_,?_⟩
 . have U:=(b.t i _ (AAT (by omega))).r;refine tC ⟨by omega,by omega,DK (by omega)⟩ (tC ⟨by omega,by omega,DK (by omega)⟩ (tC (DK (by omega)) (k _ (by omega) ⟨o,by simp;omega,?_,P,Q⟩)));intro x a;rcases AAj.1 a with a|a
   . exact E x a
   . rw[AA4.1 a];refine⟨⟨by simp;omega,by simp;omega,?_,by simp⟩,rfl,λl p=>List.eq_of_mem_replicate p⟩;intro y C;have C:=List.eq_of_mem_replicate C;rw[C];exact⟨List.Pairwise.nil,by simp⟩
 . intro j x y a _;have a:=E x (AAb a);refine .inr (.inr ⟨?_,by rw[a.2.1];rfl,λl p k J=>by rw[a.2.2 l p]at J;cases J⟩);rw[a.2.1];show ix (List.replicate c.World.AA.length 0) (j:Int)=0;unfold ix;simp only[ABE];by_cases S:j<c.World.AA.length
   . rw[AAT (by simpa using S)];simp
   . rw[ABQ (by simp;omega)];rfl
 . intro j x y q _ _ d R;rw[o]at d
   have:=lZ d;omega
 . intro j x q _ d H;rw[o]at d
   have:=lZ d;omega
def Acc (wv:AD) (l:List AH) (S:AB):Prop:=∀r,Hg wv [] (Gg wv) (l++r)=Hg wv l S r
theorem Acc.step {wv:AD} {l:List AH} {S:AB} (h:Acc wv l S) {e:AH} (a:Kf wv S e=true) (b:RG l e=true):Acc wv (l++[e]) (GL wv S e):=by intro r;rw[AA6,h,List.singleton_append,Hg,a,b];rfl
theorem from_ok {c:BF} (q:CK c) {s:Ad} (j:SI 0 s) (u:LK c [] (Gg c.World) s) {l:List BK} (D:l.length≤1000):D6 (Gk c s [] l) λr=>(r.1.length≤l.length/\∀e∈r.1,mD e)/\∃S,Acc c.World r.1 S/\LK c r.1 S r.2:=by
 unfold Gk;refine XN l.length (λi (s:List AH×Ad)=>(SI i s.2/\s.1.length≤i/\∀e∈s.1,mD e)/\∃S,Acc c.World s.1 S/\LK c s.1 S s.2) (F:=λn s i=>Gk.Aa c l n s.1 s.2 i) (s0:=([],s)) (by omega) ⟨⟨j,by simp,by simp⟩,_,λ_=>rfl,u⟩ λn i s hi j k=> ?_;obtain⟨⟨f,E,g⟩,S,b,d⟩:=j;have up:SI (i+1) s.2:=⟨f.1.mono (by omega),λt w=>(f.2 t w).mono (by omega)⟩;unfold Gk.Aa Gk.L1 Gk.J1 Gk.J2 Gk.J3;refine tD (λ_=>tI (λ_=>tG (by omega) λx _=> ?_) λ_=>tR ⟨⟨by simp only;omega,g⟩,S,b,d⟩) λ_=>tI (λh=>by cases h) λ_=>tR ⟨⟨by simp only;omega,g⟩,S,b,d⟩;refine tB (dC q f (by omega) x) λv y=>tI (λh=> ?_) λ_=>k (_,_) (by omega) ⟨⟨up,by simp only;omega,g⟩,S,b,d⟩;obtain⟨⟨z,B⟩,C⟩:=y h;obtain⟨m,o,p⟩:=sim (by omega) f d C;refine tC (DK (by omega)) (k (_,_) (by omega) ⟨⟨z,by simp;omega,?_⟩,_,b.step m o,p⟩);intro e a;rcases AAj.1 a with a|a
 . exact g e a
 . rw[AA4.1 a];exact B
structure TA (n:Nat) (t:Az):Prop where
 m:TM n t
 c:Hg t.World [] (Gg t.World) t.AF=(0,0)
theorem Run_ok {c:BF} (a:CK c) {l:List BK} (j:l.length≤1000):D6 (LN c l) λr=>TA l.length r.1:=by
 unfold LN;obtain⟨v,d,i⟩:=VK a;rw[d,AAO];refine tI (λ_=>tR ⟨⟨by simp,by simp,λh=>absurd rfl h⟩,rfl⟩) λh=> ?_;have f:v=true:=by simpa using h
 refine tB (Start9_ok a (by rw[d,f])) λs e=>tB (from_ok a e.1 e.2 j) λr b=>tR ⟨⟨b.1.1,b.1.2,λ_=>(i f).w⟩,?_⟩;obtain⟨S,g,_⟩:=b.2
 have:=g [];rw[ABf]at this;exact this
section
variable {T:ABq->Prop}
def XX:Nat->List AP->Nat
 |0,_=>0
 |d+1,l=>(l.map λs=>1+XX d s.Body+XX d s.Else).sum
theorem sum_le {l:List Nat} {k:Nat} (h:∀x∈l,x≤k):l.sum≤l.length*k:=by
 induction l with
 |nil=>simp
 |cons x r ih=>have b:=h x ABL;have c:=ih λy a=>h y (List.mem_cons_of_mem _ a);rw[List.sum_cons,AA7,ABa];omega
theorem szs_le (d:Nat):∀l,dT T d l->XX d l≤10*MS d:=by
 induction d with
 |zero=>exactλ_ _=>Nat.zero_le _
 |succ d ih=>intro l ⟨h1,h2⟩;have f:MS (d+1)=1+20*MS d:=rfl;refine ABO (sum_le (k:=MS (d+1)) ?_) (by rw[AAo];exact ABN _ h1);intro x b;obtain⟨s,a,rfl⟩:=ABZ.1 b;have c:=ih _ (h2 s a).body;have e:=ih _ (h2 s a).els;omega
theorem zZ {l:List AP} {i:Nat} (h:i<l.length) (f:AP->Nat):((l.take (i+1)).map f).sum=((l.take i).map f).sum+f l[i]:=by rw[← AAk h,AA9,List.sum_append];simp
theorem XW (l:List AP) (i:Nat) (f:AP->Nat):((l.take i).map f).sum≤(l.map f).sum:=by
 conv=>rhs;rw[← List.take_append_drop i l,AA9,List.sum_append]
 omega
theorem cst_le {d:Nat} (h:d≤4):MS d≤8421:=by
 have:d=0∨d=1∨d=2∨d=3∨d=4:=by omega
 rcases this with rfl|rfl|rfl|rfl|rfl<;>decide
theorem Count_eq (d:Nat):∀(n:Nat) (l:List AP),d≤4->d+1≤n->dT T d l->D6 (IF n l) λr=>r=(XX d l:Int):=by
 induction d with
 |zero=>intro n l _ hn ⟨_,h⟩;obtain⟨n,rfl⟩:∃k,n=k+1:=⟨n-1,by omega⟩;have:l=[]:=ABj.2 λx a=>(h x a).elim;subst this;show D6 (EU (IF n) []) _;exact tR rfl
 |succ d ih=>
  intro n l hd hn ⟨h1,h2⟩;obtain⟨n,rfl⟩:∃k,n=k+1:=⟨n-1,by omega⟩;show D6 (EU (IF n) l) _;unfold EU;have y:=cst_le (d:=d) (by omega);have g:=szs_le (T:=T) (d+1) l ⟨h1,h2⟩;have q:=cst_le hd
  let f:AP->Nat:=λs=>1+XX d s.Body+XX d s.Else
  refine XN l.length (λi (s:Int)=>s+i=((l.take i).map f).sum+l.length) (F:=λn s i=>EU.Aa _ l n s i) (by omega) (by simp) λm i s hi j k=> ?_;unfold EU.Aa EU.L1 EU.J1;have z:=XW l i f;have o:XX (d+1) l=(l.map f).sum:=rfl;refine tD (λp=>jM (by omega) ?_) λ_=>tR ?_
  . have a:l[i]∈l:=AAi (by omega);have b:=(h2 _ a).body;have c:=(h2 _ a).els;have t:=szs_le d _ b;have w:=szs_le d _ c;have e:=XW l (i+1) f;have st:=zZ (by omega) f (i:=i) (l:=l);refine tB (ih n _ (by omega) (by omega) b) λv C=>tB (ih n _ (by omega) (by omega) c) λu B=>k _ (by omega) ?_;rw[DR (n:=s+v) (by omega) (by omega),DR (by omega) (by omega),st];show _=((((l.take i).map f).sum+(1+XX d l[i].Body+XX d l[i].Else):Nat):Int)+_;omega
  . rw[o];have:i=l.length:=(by omega);subst this;rw[List.take_length]at j;omega
theorem sum_takeT {l:List CZ} {i:Nat} (h:i<l.length) (f:CZ->Nat):((l.take (i+1)).map f).sum=((l.take i).map f).sum+f l[i]:=by rw[← AAk h,AA9,List.sum_append];simp
theorem check60 {p:AQ} (h:MP p):D6 (Bg p) λr=>r.1=0->(p.AA.map λt=>XX 4 t.Body).sum≤60:=by
 have hd:=h.dl;have o:=h.t;have D:MS 4=8421:=rfl;have N:∀{a b:Int} {P:Prop},(a != 0)=true->D6 (some (a,b)) λr:Int×Int=>r.1=0->P:=λh=>tR λj=>by simp only at j;rw[j]at h;cases h
 unfold Bg;refine NN (sZ h) λ_=>tI (λ_=>N rfl) λ_=>NN (decls_tot h) λ_=>tI (λh=>N h) λ_=>tI (λ_=>N rfl) λ_=>NN (rE h) λ_=>tI (λh=>N h) λ_=> ?_
 let f:CZ->Nat:=λt=>XX 4 t.Body
 have c:∀t∈p.AA,f t≤84210:=λt o=>by have:=szs_le 4 _ (h.b t o);show XX 4 t.Body≤_;omega
 refine XN p.AA.length (λi (s:Int)=>s=((p.AA.take i).map f).sum/\s≤i*84210) (F:=λn s i=>Bg.Aa p n s i) (by omega) (by simp) λm i s hi g k=> ?_;unfold Bg.Aa Bg.L1 Bg.J1;refine tD (λ_=>jM (by omega) (tB (Count_eq 4 _ _ (by omega) (XR (by omega)) (h.b _ (AAi (by omega)))) λv q=>k _ (by omega) ?_)) λE=>tD (λ_=>N rfl) λy=> ?_
 . have st:=sum_takeT (l:=p.AA) (i:=i) (by omega) f;have C:=c _ (AAi (show i<p.AA.length by omega));have e:f p.AA[i]=XX 4 p.AA[i].Body:=rfl;rw[DR (by omega) (by omega),st];omega
 have d:i=p.AA.length:=by omega
 rw[d,List.take_length]at g;have u:(p.AA.map f).sum≤60:=by omega
 refine XN p.AA.length (λi w=>WK p 0 (i*84210) w) (F:=λn s i=>Bg.C2 p n s i) (by omega) ⟨rfl,rfl,by simp,by simp⟩ λm i s hi c k=> ?_;unfold Bg.C2 Bg.L2 Bg.J2;refine tD (λB=>tG (by omega) λx z=> ?_) λ_=>tR λ_=>u;refine tB (all_tot h 4 _ 0 (i*84210) _ _ (XR (by omega)) (by omega) (by omega) ⟨c.p,c.a,c.s,c.t⟩ (h.b x z)) λv q=>tI (λh=>N h) λ_=>k _ (by omega) (q.mono (by omega))
def SN (t nv:Int) (l:List DL):Prop:=∀(j:Nat) x,l[j]? =some x->x.Thread=t/\x.Stmt=nv+j
theorem SN.app {t d:Int} {a b:List DL} (h:SN t d a) (g:SN t (d+a.length) b):SN t d (a++b):=by
 intro j x c;by_cases e:j<a.length
 . rw[AAr e]at c;exact h j x c
 . rw[AAt (by omega)]at c
   have:=g _ x c;exact⟨this.1,by rw[this.2];omega⟩
theorem SN.one {t b l:Int}:SN t b [⟨t,b,l⟩]:=by
 intro j x a;cases j with
 |zero=>simp at a;subst a;exact⟨rfl,by simp⟩
 |succ j=>simp at a
theorem sites_ok (d:Nat):∀(n:Nat) (o:List DL) (t a:Int) (l:List AP),d+1≤n->o.length+XX d l≤900000->(0≤a/\a+XX d l≤900000)->dT T d l->D6 (IG n o t a l) λr=>∃S,r.1=o++S/\S.length=XX d l/\SN t a S/\r.2=a+XX d l:=by
 induction d with
 |zero=>intro n o t a l hn _ _ ⟨_,h⟩;obtain⟨n,rfl⟩:∃k,n=k+1:=⟨n-1,by omega⟩;have:l=[]:=ABj.2 λx b=>(h x b).elim;subst this;show D6 (EV (IG n) o t a []) _;exact tR ⟨[],by simp,rfl,λj x b=>by simp at b,by simp[XX]⟩
 |succ d ih=>
  intro n o t a l hn O P ⟨h1,h2⟩;obtain⟨n,rfl⟩:∃k,n=k+1:=⟨n-1,by omega⟩;show D6 (EV (IG n) o t a l) _;unfold EV
  let f:AP->Nat:=λs=>1+XX d s.Body+XX d s.Else
  have Q:XX (d+1) l=(l.map f).sum:=rfl;refine XN l.length (λi (s:List DL×Int)=>∃S,s.1=o++S/\S.length=((l.take i).map f).sum/\SN t a S/\s.2=a+((l.take i).map f).sum) (F:=λm s i=>EV.Aa _ l t m s.1 s.2 i) (s0:=(o,a)) (by omega) ⟨[],by simp,rfl,λj x b=>by simp at b,by simp⟩ λm i s hi G k=> ?_;obtain⟨S,p,c,z,q⟩:=G;unfold EV.Aa EV.L1 EV.J1;refine tD (λN=>jM (by omega) ?_) λR=> ?_
  . have st:=zZ (l:=l) (i:=i) (by omega) f;have E:=XW l (i+1) f;have b:l[i]∈l:=AAi (by omega);have D:f l[i]=1+XX d l[i].Body+XX d l[i].Else:=rfl;have y:s.1.length=o.length+((l.take i).map f).sum:=(by rw[p,AA1,c]);refine tC (DK (by omega)) ?_;rw[q,DR (n:=a+((l.take i).map f).sum+1) (by omega) (by omega)];refine tB (ih n _ t _ _ (by omega) (by simp;omega) (by omega) (h2 _ b).body) λv g=> ?_;obtain⟨S2,B,L,M,w⟩:=g;refine tB (ih n _ t _ _ (by omega) (by rw[B];simp;omega) (by rw[w];omega) (h2 _ b).els) λu H=> ?_;obtain⟨C,I,U,J,K⟩:=H;refine k (_,_) (by omega) ⟨S++([⟨t,a+((l.take i).map f).sum,l[i].Ep⟩]++(S2++C)),?_,?_,?_,?_⟩
    . simp only[I,B,p,AA6]
    . simp only[AA1,AA7,ABR];omega
    . refine z.app ?_;rw[c];refine SN.one.app ?_;rw[show a+((l.take i).map f).sum+(([⟨t,a+((l.take i).map f).sum,l[i].Ep⟩]:List DL).length:Int)=a+((l.take i).map f).sum+1 from by simp];refine M.app ?_;rw[L,← w];exact J
    . simp only;rw[K,w,st,D];omega
  . have e:i=l.length:=(by omega);subst e;rw[List.take_length]at c q;exact tR ⟨S,p,c,z,q⟩
end
section
variable {T:ABq->Prop} {g h r:A5} {lo hi lo' hi':Int}
def BS (T:ABq->Prop) (R:A5->List AP->ABp A5) (l:List AP) (n:Nat):Prop:=
 ∀g,GW T g->(0≤g.next/\g.next+n≤1000000)->Kl (R g l) λr=>GV g r g.next (g.next+n)/\r.next=g.next+n
theorem U7 {l k:List Ab} {i:Nat} (h:i<l.length):(l++k)[i]? =l[i]? :=AAr h
theorem kK {l:List Ab} {x:Ab}:(l++[x])[l.length]? =some x:=by simp
theorem around_par {R:A5->List AP->ABp A5} {s:AP} {n:Nat} (o:GW T g) (j:lo≤g.site/\g.site<hi) (hn:0≤g.next/\g.next+n≤1000000) (t:lo≤g.next) (q:g.next+n≤hi) (m:BS T R s.Body n) {a b c:Int}
 (x:11≤a/\a≤25) (y:11≤b/\b≤25) (i:∀p S,p=a∨p=b->AY g.w ⟨p,c,0,0,0,S⟩=some true):Kl (Es R g s a b c) λr=>GV g r lo hi/\r.next=g.next+n:=by
 unfold Es;refine pB (put_par (lo:=lo) (hi:=hi) ⟨by simp only;omega,i _ _ (.inl rfl),by rw[rg0 (by simp only;omega)];simp,j,by simp only;omega,by simp only;omega⟩ (by simp only;omega)) λv d=> ?_;have e:=m v (o.next d.1) (by rw[d.2.2];exact hn);rw[d.2.2]at e;refine pB e λu k=> ?_;have f:=d.1.trans (k.1.mono t q);have l:=f.site g.site u.next;refine pM (Oo (lo:=lo) (hi:=hi) ⟨by simp only;omega,?_,by rw[rg0 (by simp only;omega)];simp,j,by simp only;omega,by simp only;omega⟩ (by simp only;omega)) λ_ h=>⟨l.trans h.1,h.2.2.trans k.2⟩;simp only;rw[f.w];exact i _ _ (.inr rfl)
theorem branches_par {R:A5->List AP->ABp A5} {s:AP} {n m:Nat} (J:GW T g) (S:lo≤g.site/\g.site<hi) (hn:0≤g.next/\g.next+n+m≤1000000) (hl:lo≤g.next) (hh:g.next+n+m≤hi) (Q:Zw 2 s.Expr) (hR:BS T R s.Body n) (hE:BS T R s.Else m)
 (h3:s.Op=3->m=0) (h0:s.Else=[]->m=0):Kl (EP R g s) λr=>GV g r lo hi/\r.next=g.next+n+m:=by
 have hL:(g.locals.length:Int)=2:=by rw[J.l];rfl
 unfold EP;rw[hL];refine pB (l5 Q J S (by omega)) λd hd=> ?_;have dL:(d.locals.length:Int)=2:=by rw[hd.1.l];exact hL
 rw[dL];refine pB (put_eq _) λq hq=> ?_;have Jd:d.site=g.site:=hd.2.1;have z:d.next=g.next:=hd.2.2;subst hq;have L:=J.next hd.1;have o:=hR ⟨d.w,d.locals,d.out++[⟨10,2,0,0,0,d.site⟩],d.site,d.next⟩ ⟨L.w,L.l⟩ (by simp only;rw[z];omega);refine pB o λb v=> ?_;obtain⟨v,I⟩:=v;simp only at I;rw[z]at I;have v:=v.mono (lo':=lo) (hi':=hi) (by simp only;rw[z];exact hl) (by simp only;rw[z];omega);have q1:=hd.1.n;have b1:d.out.length+1≤b.out.length:=by have:=v.n;simpa using this
 have N:∀i,i<d.out.length+1->b.out[i]? =(d.out++[(⟨10,2,0,0,0,d.site⟩:Ab)])[i]? :=λi hi=>v.p i (by simpa using hi);have X:SG d.w lo hi b.out (d.out.length+1) b.out.length b.out.length:=by have:=v.s;simpa using this
 have G:b.w=g.w:=v.w.trans hd.1.w;have M:b.locals=g.locals:=v.l.trans hd.1.l;have dw:=hd.1.w;rw[dw]at X
 -- a list that goes on as these do, but for the branch
 have val:∀(F:List Ab),b.out.length≤F.length->(∀i,i<d.out.length->F[i]? =b.out[i]?)->SG g.w lo hi F g.out.length d.out.length F.length:=λF j u=>
  hd.1.s.frame (λi _ hi=>by rw[u i hi,N i (by omega),U7 hi]) (by omega) (by omega) (by omega) (by omega)
 have E:∀(F:List Ab),(∀i,i<d.out.length->F[i]? =b.out[i]?)->∀i,i<g.out.length->F[i]? =g.out[i]? :=λF u i hi=>by rw[u i (by omega),N i (by omega),U7 (by omega),hd.1.p i hi]
 have C:∀(F:List Ab) (c:Nat),b.out.length≤F.length->b.out.length≤c->(∀i,d.out.length<i->i<b.out.length->F[i]? =b.out[i]?)->SG g.w lo hi F (d.out.length+1) b.out.length c:=λF c j H u=>
  X.frame (λi o t=>(u i (by omega) t).symm) j (by omega) (by omega) H
 have O:∀(c:Nat) (B:Nat),B≤c->LV g.w lo hi c ⟨10,2,(B:Int),0,0,d.site⟩:=λc B hB=>⟨by simp,obj0 (by simp),by rw[rg10 rfl];exact dH (x:=0) (by simp),by simp only;rw[Jd];exact S,by simp,λ_=>by simp only;omega⟩;have ju:∀(c:Nat) (A:Nat),A≤c->LV g.w lo hi c ⟨5,(A:Int),0,0,0,g.site⟩:=λc A Z=>⟨by simp,obj0 (by simp),by rw[rg0 (.inl rfl)];simp,S,λ_=>by simp only;omega,by simp⟩;have bd:b.out[d.out.length]? =some ⟨10,2,0,0,0,d.site⟩:=by rw[N _ (by omega)];exact kK
 refine pI (λh=> ?_) λNp=>pI (λh=> ?_) λhne2=> ?_
 . -- a loop
   have hm:=h3 (eq_of_beq h);refine pB (put_eq _) λe Q=> ?_;subst Q;refine pE (y:=⟨10,2,0,0,0,d.site⟩) (by rw[LG];simp only;rw[U7 (by omega)];exact bd) (pR ⟨?_,by simp only;omega⟩);simp only;generalize a:(b.out++[(⟨5,(g.out.length:Int),0,0,0,g.site⟩:Ab)]).set d.out.length ⟨10,2,((b.out++[(⟨5,(g.out.length:Int),0,0,0,g.site⟩:Ab)]).length:Int),0,0,d.site⟩=F;have fl:F.length=b.out.length+1:=(by rw[← a];simp);have j:∀i,i≠d.out.length->i<b.out.length->F[i]? =b.out[i]? :=λi o t=>(by rw[← a,AAV (by omega),U7 t]);have u:F[d.out.length]? =some ⟨10,2,((b.out.length+1:Nat):Int),0,0,d.site⟩:=(by rw[← a,AAS (by simp;omega)];simp);have H:F[b.out.length]? =some ⟨5,(g.out.length:Int),0,0,0,g.site⟩:=(by rw[← a,AAV (by omega)];exact kK);refine⟨G,M,by simp only;omega,E F λi hi=>j i (by omega) (by omega),?_⟩;simp only
   have:=SG.back (val F (by omega) λi hi=>j i (by omega) (by omega)) u (O _ _ (by omega)) rfl (C F F.length (by omega) (by omega) λi o t=>j i (by omega) t) H (ju _ _ (by omega)) rfl rfl;rw[fl]at this ⊢;exact this
 . -- without another part
   have hm:m=0:=h0 (by have:=eq_of_beq h;exact List.length_eq_zero_iff.1 (by omega));refine pE (y:=⟨10,2,0,0,0,d.site⟩) (by rw[LG];exact bd) (pR ⟨?_,by simp only;omega⟩);simp only;generalize a:b.out.set d.out.length ⟨10,2,(b.out.length:Int),0,0,d.site⟩=F;have fl:F.length=b.out.length:=(by rw[← a];simp);have j:∀i,i≠d.out.length->F[i]? =b.out[i]? :=λi o=>(by rw[← a,AAV (by omega)]);have u:F[d.out.length]? =some ⟨10,2,(b.out.length:Int),0,0,d.site⟩:=(by rw[← a,AAS (by omega)]);refine⟨G,M,by simp only;omega,E F λi hi=>j i (by omega),?_⟩;simp only
   have:=((val F (by omega) λi hi=>j i (by omega)).app (SG.one u (O _ _ (by omega)) (by simp))).app (C F F.length (by omega) (by omega) λi o t=>j i (by omega));rw[fl]at this ⊢;exact this
 . -- with another part
   refine pB (put_eq _) λf hf=> ?_;subst hf;refine pE (y:=⟨10,2,0,0,0,d.site⟩) (by rw[LG];simp only;rw[U7 (by omega)];exact bd) ?_;simp only;generalize a:(b.out++[(⟨5,0,0,0,0,g.site⟩:Ab)]).set d.out.length ⟨10,2,((b.out++[(⟨5,0,0,0,0,g.site⟩:Ab)]).length:Int),0,0,d.site⟩=F;have fl:F.length=b.out.length+1:=(by rw[← a];simp);have j:∀i,i≠d.out.length->i<b.out.length->F[i]? =b.out[i]? :=λi o t=>(by rw[← a,AAV (by omega),U7 t]);have u:F[d.out.length]? =some ⟨10,2,((b.out.length+1:Nat):Int),0,0,d.site⟩:=(by rw[← a,AAS (by simp;omega)];simp);have H:F[b.out.length]? =some ⟨5,0,0,0,0,g.site⟩:=(by rw[← a,AAV (by omega)];exact kK);have h4:=hE ⟨b.w,b.locals,F,g.site,b.next⟩ ⟨by simp only;rw[G];exact J.w,M.trans J.l⟩ (by simp only;omega);refine pB h4 λi hi=> ?_;obtain⟨D,UP⟩:=hi;simp only at UP;have D:=D.mono (lo':=lo) (hi':=hi) (by simp only;omega) (by simp only;omega);have i1:b.out.length+1≤i.out.length:=(by have:=D.n;simp only[fl]at this;exact this);have U:∀k,k<b.out.length+1->i.out[k]? =F[k]? :=λk hk=>D.p k (by simp only[fl];exact hk);have is:SG g.w lo hi i.out (b.out.length+1) i.out.length i.out.length:=(by have:=D.s;simp only[fl,G]at this;exact this);refine pE (y:=⟨5,0,0,0,0,g.site⟩) (by rw[LG,U _ (by omega)];exact H) (pR ⟨?_,by simp only;omega⟩);simp only;generalize P:i.out.set b.out.length ⟨5,(i.out.length:Int),0,0,0,g.site⟩=K;have kl:K.length=i.out.length:=(by rw[← P];simp);have V:∀k,k≠b.out.length->K[k]? =i.out[k]? :=λk o=>(by rw[← P,AAV (by omega)]);have W:∀k,k≠d.out.length->k<b.out.length->K[k]? =b.out[k]? :=λk o t=>(by rw[V k (by omega),U k (by omega),j k o t]);have k3:K[d.out.length]? =some ⟨10,2,((b.out.length+1:Nat):Int),0,0,d.site⟩:=(by rw[V _ (by omega),U _ (by omega)];exact u);have k4:K[b.out.length]? =some ⟨5,(i.out.length:Int),0,0,0,g.site⟩:=(by rw[← P,AAS (by omega)]);refine⟨D.w.trans G,D.l.trans M,by simp only;omega,E K λi hi=>W i (by omega) (by omega),?_⟩;simp only;have Z:=((val K (by omega) λi hi=>W i (by omega) (by omega)).app (SG.one k3 (O _ _ (by omega)) (by simp))).app (C K K.length (by omega) (by omega) λi o t=>W i (by omega) t);have hB:SG g.w lo hi K (b.out.length+1) i.out.length K.length:=is.frame (λk o _=>(V k (by omega)).symm) (by omega) (by omega) (by omega) (by omega)
   have:=Z.jump k4 (ju _ _ (by omega)) rfl rfl hB;rw[kl]at this ⊢;exact this
theorem szs_nil (d:Nat):XX d []=0:=by cases d<;>rfl
end
section
variable {T:ABq->Prop} {g h r:A5} {lo hi lo' hi':Int}
theorem cond_eq (h:g.w.Af=[⟨cN,0⟩]):Cw g cN=some (0,g):=by unfold Cw;have a:=B1;obtain⟨n,hn⟩:∃n,BT=n+1:=⟨BT-1,by omega⟩;rw[hn];unfold Cw.Aa Cw.L1;rw[h];simp[gt]
theorem At_par {l:List ABq} {s:ABq} (m:l.length<1000000):Kl (Ca l s) λr=>s∈l->0≤r/\r<l.length:=by
 unfold Ca;refine pLs l.length (λi (_:Unit)=>∀j:Nat,j<i->l[j]? ≠some s) (s0:=()) (F:=λn _ i=>Ca.Aa l s n i) (λ_ _=>rfl) (by omega) (λj c=>by omega) λn i _ hi b k=> ?_;unfold Ca.Aa Ca.L1 Ca.J1;refine pD (λg=>pE (CU (by omega)) (pI (λ_=>pR λ_=>by omega) λa=>k () (by omega) ?_)) λo=>pR λd=> ?_
 . intro j c e;by_cases h:j<i
   . exact b j h e
   . obtain rfl:j=i:=(by omega);rw[AAT (by omega)]at e;rw[AAR e]at a;simp at a
 . obtain⟨j,j1,f⟩:=List.getElem_of_mem d;exact absurd (by rw[AAT j1,f]) (b j (by omega))
theorem stmt_par {R:A5->List AP->ABp A5} {s:AP} {k B E:Nat} (m:GW T g) (u:K8 T (k+1) s) (hn:0≤g.next/\g.next+(1+B+E)≤1000000) (hB:BS T R s.Body B) (hE:BS T R s.Else E) (b0:s.Body=[]->B=0) (e0:s.Else=[]->E=0):
 Kl (Dj (EP R) (Es R) g s) λr=>GV g r g.next (g.next+(1+B+E))/\r.next=g.next+(1+B+E):=by
 have hw:Ap (g.next+1)=g.next+1:=DR (by omega) (by omega);have bd:=u.2.2.2.2.2.2.2.2.1;have nm:=u.2.2.2.2.2.2.2.2.2;have nB:s.Op∉[(2:Int),3,4,5,6,7,8]->B=0:=λh=>b0 (bd.1 h);have K:s.Op≠2->E=0:=λh=>e0 (bd.2 h);unfold Dj;rw[hw];generalize o:A5.mk g.w g.locals g.out g.next (g.next+1)=g1;have I:GW T g1:=by rw[← o];exact⟨m.w,m.l⟩
 have gs:g1.site=g.next:=by rw[← o]
 have H:g1.next=g.next+1:=by rw[← o]
 have j:g1.w=g.w:=by rw[← o]
 have gl:(g1.locals.length:Int)=2:=by rw[I.l];rfl
 have up:∀{r lo hi},GV g1 r lo hi->GV g r lo hi:=λh=>by rw[← o]at h;exact⟨h.w,h.l,h.n,h.p,h.s⟩
 have si:g.next≤g1.site/\g1.site<g.next+(1+B+E):=by rw[gs];omega
 -- one instruction
 have P:∀i:Ab,s.Op∉[(2:Int),3,4,5,6,7,8]->LV g1.w g.next (g.next+(1+B+E)) (g1.out.length+1) ⟨i.Op,i.A,i.B,i.C,i.N,g1.site⟩->i.Op≠5->Kl ((A8 g1 i).bind λv=>some v) λr=>GV g r g.next (g.next+(1+B+E))/\r.next=g.next+(1+B+E):=by intro i F J h3;have z1:=nB F;have z2:=K (by intro h;rw[h]at F;simp at F);exact pM (Oo J h3) λr h=>⟨up h.1,by rw[h.2.2,H];omega⟩
 have A:∀{a b c:Int},s.Op≠2->11≤a/\a≤25->11≤b/\b≤25->(∀p S,p=a∨p=b->AY g1.w ⟨p,c,0,0,0,S⟩=some true)->Kl ((Es R g1 s a b c).bind λv=>some v) λr=>GV g r g.next (g.next+(1+B+E))/\r.next=g.next+(1+B+E):=by intro a b c J ha O U;have z2:=K J;exact pB (around_par (lo:=g.next) (hi:=g.next+(1+B+E)) I si (by omega) (by omega) (by omega) hB ha O U) λr h=>pR ⟨up h.1,by rw[h.2,H];omega⟩
 have lk:g.w.AG=bV:=m.w.l;have j1:∀b,(b=true->s.Op=2∨s.Op=3)->(b=false->s.Op≠1/\s.Op≠2/\s.Op≠3)->Kl (Dj.J1 (EP R) (Es R) g s b) λr=>GV g r g.next (g.next+(1+B+E))/\r.next=g.next+(1+B+E):=by
  intro b O rZ;unfold Dj.J1;rw[hw,o];refine pI (λh=> ?_) λh0=> ?_
  . have U:=O h;have Q:Zw 2 s.Expr:=u.2.2.1.resolve_right λh=>h.1 (by rcases U with h|h<;>simp[h]);exact pB (branches_par (lo:=g.next) (hi:=g.next+(1+B+E)) I si (by omega) (by omega) (by omega) Q hB hE (λh=>K (by omega)) e0) λr h=>pR ⟨up h.1,by rw[h.2,H];omega⟩
  have n0:=rZ h0;refine pI (λh=> ?_) λn4=>pI (λh=> ?_) λn5=>pI (λh=> ?_) λn6=>pI (λh=> ?_) λn7=>pI (λh=> ?_) λn8=> ?_
  . have h:=eq_of_beq h;rw[lk];rcases nm.2.1 h with F|F<;>rw[F]
    . exact pE (y:=0) (by decide +kernel) (A (by omega) (by omega) (by omega) λp S G=>objM (by simp only;omega) (y:=⟨⟨#[109]⟩,false⟩) (by rw[j,lk];rfl) rfl)
    . exact pE (y:=1) (by decide +kernel) (A (by omega) (by omega) (by omega) λp S G=>objM (by simp only;omega) (y:=⟨⟨#[110]⟩,false⟩) (by rw[j,lk];rfl) rfl)
  . have h:=eq_of_beq h;rw[lk,nm.2.2.1 (.inl h)];exact pE (y:=2) (by decide +kernel) (A (by omega) (by omega) (by omega) λp S G=>objR (by simp only;omega) (y:=⟨⟨#[114]⟩,true⟩) (by rw[j,lk];rfl) rfl)
  . have h:=eq_of_beq h;rw[lk,nm.2.2.1 (.inr h)];exact pE (y:=2) (by decide +kernel) (A (by omega) (by omega) (by omega) λp S G=>objR (by simp only;omega) (y:=⟨⟨#[114]⟩,true⟩) (by rw[j,lk];rfl) rfl)
  . have h:=eq_of_beq h;exact A (by omega) (by omega) (by omega) λp S G=>obj0 (by rcases G with h|h<;>simp[h])
  . have h:=eq_of_beq h;exact A (by omega) (by omega) (by omega) λp S G=>obj0 (by rcases G with h|h<;>simp[h])
  simp only[beq_eq_false_iff_ne,ne_eq]at n4 n5 n6 n7 n8;have D:s.Op∉[(2:Int),3,4,5,6,7,8]:=by simp;omega
  have L:∀{p c e:Int},11≤p/\p≤25->AY g1.w ⟨p,c,0,0,0,g1.site⟩=some true->LV g1.w g.next (g.next+(1+B+E)) (g1.out.length+1) ⟨p,c,0,0,0,g1.site⟩:=λF J=>
   ⟨by simp only;omega,J,by rw[rg0 (by simp only;omega)];simp,si,by simp only;omega,by simp only;omega⟩
  have M:g1.w.Af=[⟨cN,0⟩]:=by rw[j];exact m.w.d
  have GX:(g1.w.Af.length:Int)=1:=by rw[M];rfl
  refine pI (λh=> ?_) λn9=>pI (λh=> ?_) λV=>pI (λh=> ?_) λW=>pI (λh=> ?_) λX=>pI (λh=> ?_) λZ=>pI (λh=> ?_) λn14=>pI (λh=> ?_) λn15=> ?_
  . rw[u.2.2.2.1 (by simp[eq_of_beq h])];exact pE (cond_eq M) (P ⟨21,0,0,0,0,0⟩ D (L (e:=0) (by simp) (objC (.inl rfl) (by simp only;omega))) (by simp))
  . rw[u.2.2.2.1 (by simp[eq_of_beq h])];exact pE (cond_eq M) (P ⟨22,0,0,0,0,0⟩ D (L (e:=0) (by simp) (objC (.inr (.inl rfl)) (by simp only;omega))) (by simp))
  . rw[u.2.2.2.1 (by simp[eq_of_beq h])];exact pE (cond_eq M) (P ⟨23,0,0,0,0,0⟩ D (L (e:=0) (by simp) (objC (.inr (.inr rfl)) (by simp only;omega))) (by simp))
  . refine pB (At_par (by have:=m.w.n;omega)) λv z=> ?_
    have:=z (m.w.t _ (nm.2.2.2.1 (.inl (eq_of_beq h))));exact P ⟨24,v,0,0,0,0⟩ D (L (e:=0) (by simp) (objT (.inl rfl) (by simp only;rw[j];exact this))) (by simp)
  . refine pB (At_par (by have:=m.w.n;omega)) λv z=> ?_
    have:=z (m.w.t _ (nm.2.2.2.1 (.inr (eq_of_beq h))));exact P ⟨25,v,0,0,0,0⟩ D (L (e:=0) (by simp) (objT (.inr rfl) (by simp only;rw[j];exact this))) (by simp)
  . have h:=eq_of_beq h;have Q:Zw 2 s.Expr:=u.2.2.1.resolve_right λq=>q.1 (by simp[h]);have z1:=nB D;have z2:=K (by omega);rw[show(g.locals.length:Int)=2 from by rw[m.l];rfl];refine pB (l5 (lo:=g.next) (hi:=g.next+(1+B+E)) Q I si (by omega)) λv z=> ?_;have hf:v.w.AK=[⟨#[102]⟩]:=(by rw[z.1.w,j];exact m.w.f);rw[hf,nm.2.2.2.2.1 h];refine pE (y:=0) (by decide +kernel) (pM (Oo ⟨by simp,obj26 rfl (by rw[hf];simp),by rw[rg26 rfl];exact dH (x:=0) (by simp),by rw[z.2.1];exact si,by simp,by simp⟩ (by simp)) λr h=>⟨up (z.trans h).1,by rw[h.2.2,z.2.2,H];omega⟩)
  . have h:=eq_of_beq h;have hn:=nm.2.2.2.2.2 h;rw[m.l,m.w.f,hn.1,hn.2];refine pE (y:=0) (by decide +kernel) (pE (y:=0) (by decide +kernel) (P ⟨27,0,0,0,0,0⟩ D ⟨by simp,obj27 rfl (by rw[j,m.w.f];simp),by rw[rg27 rfl];exact dH (x:=0) (by simp),si,by simp,by simp⟩ (by simp)))
  . have:=u.1;simp only[beq_eq_false_iff_ne,ne_eq]at n9 V W X Z n14 n15;omega
 refine pI (λh=> ?_) λn1=>pI (λh=>j1 _ (λ_=>.inl (eq_of_beq h)) λh'=>by rw[h']at h;cases h) λn2=>j1 _ (λh=>.inr (eq_of_beq h)) λh=>⟨by simpa using n1,by simpa using n2,by simpa using h⟩;have h:=eq_of_beq h;have z1:=nB (by rw[h];decide);have z2:=K (by omega);exact pB (assign_par (lo:=g.next) (hi:=g.next+(1+B+E)) I si u h) λr h=>pR ⟨up h.1,by rw[h.2.2,H];omega⟩
theorem stmts_par (d:Nat):∀(n:Nat) (l:List AP),3*d+1≤n->dT T d l->BS T (E4 n) l (XX d l):=by
 induction d with
 |zero=>intro n l hn ⟨_,h⟩ g hg j;obtain⟨n,rfl⟩:∃k,n=k+1:=⟨n-1,by omega⟩;have:l=[]:=ABj.2 λx j=>(h x j).elim;subst this;show Kl (some g) _;exact pR ⟨GV.refl,by simp[XX]⟩
 |succ d ih=>
  intro n l hn ⟨h1,h2⟩ g hg j;obtain⟨n,rfl⟩:∃k,n=k+3:=⟨n-3,by omega⟩;show Kl (Cr (Dj (EP (E4 n)) (Es (E4 n))) g l) _;unfold Cr
  let f:AP->Nat:=λs=>1+XX d s.Body+XX d s.Else
  have t:XX (d+1) l=(l.map f).sum:=rfl;refine pLs l.length (λi s=>GV g s g.next (g.next+((l.take i).map f).sum)/\s.next=g.next+((l.take i).map f).sum) (F:=λm s i=>Cr.Aa _ l m s i) (λ_ _=>rfl) (by omega) ⟨GV.refl,by simp⟩ λm i s hi p k=> ?_;obtain⟨a,b⟩:=p;unfold Cr.Aa Cr.L1;refine pD (λq=>pE (CU (by omega)) ?_) λu=> ?_
  . have st:=zZ (l:=l) (i:=i) (by omega) f;have o:=XW l (i+1) f;have c:l[i]∈l:=AAi (by omega);have r:f l[i]=1+XX d l[i].Body+XX d l[i].Else:=rfl;refine pB (stmt_par (hg.next a) (h2 _ c) (by rw[b];omega) (ih n _ (by omega) (h2 _ c).body) (ih n _ (by omega) (h2 _ c).els) (λh=>by rw[h];exact szs_nil d) λh=>by rw[h];exact szs_nil d) λv e=>k _ (by omega) ?_;rw[b]at e;refine⟨(a.mono (by omega) (by omega)).trans (e.1.mono (by omega) (by omega)),by rw[e.2];omega⟩
  . have:i=l.length:=(by omega);subst this;rw[List.take_length]at a b;exact pR ⟨a,b⟩
theorem gX {l:List Ab} {a b:Nat} (h:l.length≤8000000) (g:b≤l.length):∀(n fuel i k m:Nat),UI l a b n k m->Ev l m->n+i≤l.length->l.length+1<fuel+i->CP.Aa l fuel k i=some true:=by
 intro n;induction n with
 |zero=>intro fuel i k m r ⟨x,x1,x2⟩ h1 h2;cases r;obtain⟨fuel,rfl⟩:∃f,fuel=f+1:=⟨fuel-1,by omega⟩;have d:=(AAQ.1 x1).1;unfold CP.Aa CP.L1 CP.J1;rw[BC (by omega),Ac (by omega),AAX (by simp;omega),LG,x1,AAO,PO,x2];rfl
 |succ n ih=>
  intro fuel i k m ⟨d,j,⟨x,x1,x2,x3⟩,r⟩ ev h1 h2;obtain⟨fuel,rfl⟩:∃f,fuel=f+1:=⟨fuel-1,by omega⟩;unfold CP.Aa CP.L1 CP.J1 CP.J2;have d:=(AAQ.1 x1).1;rw[BC (by omega),Ac (by omega),AAX (by simp;omega),LG,x1,AAO,PO,x2,AAO,Ao (by omega)]
  have:=ih fuel (i+1) j m r ev (by omega) (by omega);rcases x3 with⟨c,e⟩|⟨c,rfl⟩
  . rw[AAX (by simp),AAY (by simpa using c),e];exact this
  . rw[AAX (by simp),AAX (by simpa using c),Ao (by omega)];exact this
structure VO (w:AD) (t:Int) (c:An):Prop where
 r:2≤c.Br/\c.Br≤32
 n:∃out lo hi,c.A1=out++[⟨28,0,0,0,0, -1⟩]/\SG w lo hi out 0 out.length out.length/\(∀k,lo≤k->k<hi->∃y,gt w.A7 k=some y/\y.Thread=t)
 g:∀x∈c.A1,∀y∈rg x,y<c.Br
theorem objE {w:AD} {x:Ab} (h:x.Op=28):AY w x=some true:=by simp[AY,AY.J3,AY.J5,AY.J7,AY.J8,h]
theorem qR {w:AD} {t:Int} {c:An} (E:c.A1.length≤8000000) (S:VO w t c):AZ w t c=some true:=by
 obtain⟨⟨r1,r2⟩,⟨out,lo,hi,C,I,V⟩,R⟩:=S;have hl:c.A1.length=out.length+1:=by rw[C];simp
 have M:=B1
 -- an instruction
 have p:∀(i:Nat) x,c.A1[i]? =some x->(i<out.length/\out[i]? =some x)∨i=out.length/\x=⟨28,0,0,0,0, -1⟩:=by
  intro i x d;rw[C]at d;by_cases h:i<out.length
  . rw[U7 h]at d;exact .inl ⟨h,d⟩
  . have:=(AAQ.1 d).1;simp at this;obtain rfl:i=out.length:=(by omega);rw[kK]at d;cases d;exact .inr ⟨rfl,rfl⟩
 have W:c.A1[out.length]? =some ⟨28,0,0,0,0, -1⟩:=by rw[C];exact kK
 have z:∀i:Nat,i<c.A1.length->CP c.A1 (i:Int)=some true:=by
  intro i hi;have K:∀{n k m},UI out 0 out.length n k m->UI c.A1 0 out.length n k m:=λr=>r.frame (λj _ N=>by rw[C,U7 N]) (by omega) (by omega);have J:Ev c.A1 out.length:=⟨_,W,rfl⟩;unfold CP;by_cases h:i<out.length
  . rcases I.f i (by omega) h with⟨n,m,r,U,⟨x,X,Z⟩,hn⟩|⟨n,r,hn⟩
    . exact gX E (by omega) n BT 0 i m (K r) ⟨x,by rw[C,U7 U.2];exact X,Z⟩ (by omega) (by omega)
    . exact gX E (by omega) n BT 0 i _ (K r) J (by omega) (by omega)
  . obtain rfl:i=out.length:=(by omega);exact gX (a:=0) (b:=0) E (by omega) 0 BT 0 _ _ rfl J (by omega) (by omega)
 have key:D6 (AZ w t c) λb=>b=true:=by
  unfold AZ;refine tD (λh=>by omega) λ_=>tD (λh=>by omega) λ_=> ?_;rw[show((c.A1.length:Int)==0)=false from beq_eq_false_iff_ne.2 (by omega)];unfold AZ.J1;refine tI (λh=>by cases h) λ_=>XN c.A1.length (λ_ (_:Unit)=>True) (s0:=()) (F:=λn _ i=>AZ.Aa c t w n i) (by omega) trivial λn i _ hi _ k=> ?_;unfold AZ.Aa AZ.L1 AZ.J6;refine tD (λD5=>jM (by omega) ?_) λ_=>tR rfl;have d:c.A1[i]? =some c.A1[i]:=AAT (by omega);have u:c.A1[i]∈c.A1:=AAi (by omega);generalize c.A1[i]=x at d u;have O:CP c.A1 (i:Int)=some true:=z i (by omega);have P:Ap ((c.A1.length:Int)-1)=out.length:=by rw[DR (by omega) (by omega)];omega
  -- the registers
  have v:D6 (AZ.J4 (AZ.Aa c t w n) c i x false) λb=>b=true:=by
   unfold AZ.J4;refine tI (λh=>by cases h) λ_=>tE (GF x).1 (XN (rg x).length (λ_ (_:Unit)=>True) (s0:=()) (F:=λn _ i=>AZ.C2 _ c _ (rg x) n i) (by have:=(GF x).2;omega) trivial λm j _ N _ T=> ?_);unfold AZ.C2 AZ.L2 AZ.J5;refine tD (λ_=>jM (by omega) ?_) λ_=>k () (by omega) trivial;have H:(rg x)[j]∈rg x:=AAi (by omega);have Q:0≤(rg x)[j]:=by
    rcases p i x d with⟨h,D⟩|⟨_,rfl⟩
    . exact((I.i i x (by omega) h D).g _ H).1
    . have:=List.length_pos_of_mem H;rw[rg0 (.inr (.inr rfl))]at this;cases this
   exact tE (PX ⟨Q,R x u _ H⟩) (tI (λh=>by cases h) λ_=>T () (by omega) trivial)
  rcases p i x d with⟨q,D⟩|⟨G,rfl⟩
  . have l:=I.i i x (by omega) q D;have lo':=l.o;have B:x.Op≠28:=(by omega);refine tD (λh=>by omega) λ_=>tD (λh=>by omega) λ_=> ?_;rw[P,show(x.Op==28)=false from by simpa using B,show((i:Int)==(out.length:Int))=false from by simp;omega];refine tI (λh=>by cases h) λ_=>tE l.ob (tI (λh=>by cases h) λ_=>tE O ?_);unfold AZ.J2;obtain⟨y,y1,y2⟩:=V _ l.s.1 l.s.2;refine tI (λh=>by cases h) λ_=>tI (λh=>absurd (eq_of_beq h) B) λ_=>tI (λ_=> ?_) λh=>(by simp at h;omega);refine tE (PX (gt_in y1)) (tI (λh=>by cases h) λ_=>tE y1 ?_);rw[y2,show(t != t)=false from by simp];unfold AZ.J3;refine tI (λh=>by cases h) λ_=>tI (λL=> ?_) λ_=>tI (λe=> ?_) λ_=>v
    . have:=l.j (eq_of_beq L);refine tE (PX (by omega)) (tI (λh=>by cases h) λ_=>tI (λe=> ?_) λ_=>v);rw[eq_of_beq L]at e;cases e
    . have:=l.b (eq_of_beq e);exact tE (PX (by omega)) v
  . refine tD (λh=>by simp at h) λ_=>tD (λh=>by simp at h) λ_=> ?_;rw[P,G];simp only[ABB,Bool.not_true];refine tI (λh=>by cases h) λ_=>tE (objE rfl) (tI (λh=>by cases h) λ_=>tE (G▸O) ?_);rw[G]at v;unfold AZ.J2 AZ.J3;refine tI (λh=>by cases h) λ_=>tI (λ_=>tI (λh=>by cases h) λ_=>tI (λh=>by cases h) λ_=>tI (λh=>by cases h) λ_=>tI (λh=>by cases h) λ_=>tI (λh=>by cases h) λ_=>v) λh=>by cases h
 obtain⟨b,M,rfl⟩:=key;exact M
end
section
theorem sitesS_in {nt:Nat} {i:Int} (hi:i<nt):∀(S:List DL) (m:Int) (R:List DL),SN i m S->HC nt i m (S++R)=HC nt i (m+S.length) R:=by
 intro S;induction S with
 |nil=>intro m R _;simp
 |cons x r ih=>
  intro m R h;obtain⟨d,a⟩:=h 0 x rfl;have b:SN i (m+1) r:=λj y c=>by have:=h (j+1) y (by simpa using c);exact⟨this.1,by rw[this.2];omega⟩
  rw[AA5,HC,AAX (by omega),AAX (by omega),ih _ _ b,a];simp only[AA7];rw[show m+((0:Nat):Int)=m from by omega,show m+1+(r.length:Int)=m+((r.length+1:Nat):Int)from by omega];simp
theorem sitesS_blk {nt:Nat} {i t n:Int} (hi:i<nt) (h:t<i∨t=i/\n=0) {S:List DL} (a:SN i 0 S):∃b c,(b<i+1∨b=i+1/\c=0)/\∀R,HC nt t n (S++R)=HC nt b c R:=by
 rcases h with h|⟨rfl,rfl⟩
 . cases S with
   |nil=>exact⟨t,n,.inl (by omega),λ_=>rfl⟩
   |cons x r=>obtain⟨d,e⟩:=a 0 x rfl;have f:SN i 1 r:=λj y g=>(by have:=a (j+1) y (by simpa using g);exact⟨this.1,by rw[this.2];omega⟩);refine⟨i,1+r.length,.inl (by omega),λR=> ?_⟩;rw[AA5,HC,AAX (by omega),AAY (by omega),d,sitesS_in hi _ _ _ f,e];simp
 . exact⟨t,0+S.length,.inl (by omega),λR=>sitesS_in hi _ _ _ a⟩
def Zv (p:AQ) (i:Nat):Nat:=((p.AA.take i).map λt=>XX 4 t.Body).sum
theorem offP_succ {p:AQ} {i:Nat} (h:i<p.AA.length):Zv p (i+1)=Zv p i+XX 4 p.AA[i].Body:=sum_takeT h _
theorem offP_le {p:AQ} (h:(p.AA.map λt=>XX 4 t.Body).sum≤60) (i:Nat):Zv p i≤60:=by
 have:((p.AA.map λt=>XX 4 t.Body)).sum=Zv p i+((p.AA.drop i).map λt=>XX 4 t.Body).sum:=by
  conv=>lhs;rw[← List.take_append_drop i p.AA,AA9,List.sum_append]
  rfl
 omega
theorem offP_mono {p:AQ} {i j:Nat} (h:i≤j):Zv p i≤Zv p j:=by
 have:Zv p j=Zv p i+(((p.AA.take j).drop i).map λt=>XX 4 t.Body).sum:=by
  unfold Zv
  conv=>lhs;rw[← List.take_append_drop i (p.AA.take j),List.take_take,Nat.min_eq_left h,AA9,List.sum_append]
 omega
structure WV (p:AQ) (N:Nat) (w:AD):Prop where
 c:w.Cells=QU
 l:w.AG=bV
 d:w.Af=[⟨cN,0⟩]
 f:w.AK=[⟨#[102]⟩]
 t:w.AA=(p.AA.take N).map (·.Name)
 n:w.A7.length=Zv p N
 o:∀j k,j<N->Zv p j≤k->k<Zv p (j+1)->∃y,w.A7[k]? =some y/\y.Thread=(j:Int)
 s:∃t n:Int,(t<N∨t=N/\n=0)/\∀R,HC p.AA.length 0 0 (w.A7++R)=HC p.AA.length t n R
theorem World_ok {p:AQ} (h:MP p) (u:∃l,Bg p=some (0,l)) (E:(p.AA.map λt=>XX 4 t.Body).sum≤60):D6 (DD p) (WV p p.AA.length):=by
 obtain⟨l,u⟩:=u;have P:=h.t;unfold DD;refine tE u (tI (λh=>by cases h) λ_=> ?_);have key:∀D T,G0=some D->DD.Aa ⟨D,T⟩ BT (AD.mk [] [] [] [] [] []) 0=DD.J4 ⟨D,T⟩ ⟨QU,bV,[⟨cN,0⟩],[⟨#[102]⟩],[],[]⟩:=by
  intro D T y;unfold G0 at y;obtain rfl:=AAR y
  kernel_rfl
 rw[show DD.Aa p BT (AD.mk [] [] [] [] [] []) 0=_ from key p.Decls p.AA h.d];unfold DD.J4;show D6 (DD.Gm p BT ⟨QU,bV,[⟨cN,0⟩],[⟨#[102]⟩],[],[]⟩ 0) _;refine XN p.AA.length (λi w=>WV p i w) (F:=λn s i=>DD.Gm _ n s i) (by omega) ⟨rfl,rfl,rfl,rfl,rfl,rfl,λj k h=>by omega,0,0,.inr ⟨rfl,rfl⟩,λ_=>rfl⟩ λn i w hi a k=> ?_;unfold DD.Gm DD.L3 DD.J5;refine tD (λg=>jM (by omega) ?_) λQ=>tR ?_
 . have g:i<p.AA.length:=(by omega);have G:=offP_succ g;have H:=offP_le E (i+1);have hn:=a.n;refine tC (DK (by rw[a.t];simp;omega)) (tB (sites_ok 4 _ _ _ _ _ (XR (by omega)) (by omega) (by omega) (h.b _ (AAi g))) λv I=>k _ (by omega) ?_);obtain⟨S,x,V,B,W⟩:=I;obtain⟨t,m,L,M⟩:=a.s;obtain⟨K,J,U,N⟩:=sitesS_blk (nt:=p.AA.length) (i:=i) (by omega) L B;refine⟨a.c,a.l,a.d,a.f,?_,?_,?_,K,J,by omega,λR=> ?_⟩
   . simp only;rw[a.t,← AAk g,AA9];rfl
   . simp only;rw[x,AA1];omega
   . intro j q O r C;simp only;rw[x];by_cases e:j<i
     . have:=offP_mono (p:=p) (show j+1≤i by omega);rw[AAr (by omega)];exact a.o j q e r C
     . obtain rfl:j=i:=(by omega);rw[AAt (by omega)];have z:q-w.A7.length<S.length:=(by omega);exact⟨S[q-w.A7.length],AAT z,(B _ _ (AAT z)).1⟩
   . simp only;rw[x,AA6,M,N]
 . have:i=p.AA.length:=(by omega);rw[this]at a;exact a
theorem WV.names {p:AQ} {w:AD} (a:WV p p.AA.length w):w.AA=p.AA.map (·.Name):=by rw[a.t,List.take_length]
theorem worldS_ok {p:AQ} {w:AD} (h:MP p) (o:(p.AA.map λt=>XX 4 t.Body).sum≤60) (a:WV p p.AA.length w):Ck w=true:=by
 obtain⟨n,z,B,nm⟩:=h.nm;have e:=a.names;rw[nm]at e;obtain⟨t,m,C,y⟩:=a.s;have b:=y [];rw[ABf]at b;have x:p.AA.length=w.AA.length:=by rw[a.names,AAo]
 rw[x]at b;have hn:=a.n;have q:=offP_le o p.AA.length;have g:=a.c;have i:=a.l;have j:=a.d;have k:=a.f;obtain⟨c,l,d,f,T,S⟩:=w;simp only at g i j k e hn b;subst g i j k;have v:AR QU=some ([⟨#[120]⟩,⟨#[121]⟩,⟨#[118]⟩,qS],true):=by decide +kernel
 have r:HC T.length 0 0 S=true:=b;have u:T=XO.take 1∨T=XO.take 2∨T=XO.take 3∨T=XO.take 4:=by
  have:n=1∨n=2∨n=3∨n=4:=by omega
  rcases this with rfl|rfl|rfl|rfl<;>simp[e]
 unfold Ck;simp only[v,r];have hd:decide (S.length≤60)=true:=decide_eq_true (by omega);rw[hd];rcases u with rfl|rfl|rfl|rfl<;>(show @Eq Bool _ true;kernel_rfl)
theorem compile_ok {p:AQ} (h:MP p) (O:∃l,Bg p=some (0,l)):D6 (BX p) λr=>CK r.1/\CB r.1=some true:=by
 obtain⟨q,hq,T⟩:=check60 h;have S:(p.AA.map λt=>XX 4 t.Body).sum≤60:=by obtain⟨l,O⟩:=O;rw[O]at hq;cases hq;exact T rfl
 have ht:=h.t
 let Q:BF->Prop:=λc=>WV p p.AA.length c.World/\c.AA.length=p.AA.length/\∀(j:Nat) t,c.AA[j]? =some t->VO c.World j t
 have par:Kl (BX p) λr=>Q r.1:=by
  obtain⟨l,oS⟩:=O;unfold BX;refine pE oS (pI (λh=>by cases h) λ_=>pB (pA (pT (World_tot h ⟨l,oS⟩)) (pT (World_ok h ⟨l,oS⟩ S))) λw B=> ?_);obtain⟨mw,B⟩:=B;have wf:WF (λs=>s∈p.AA.map (·.Name)) w:=⟨B.c,B.l,B.d,B.f,λs W=>by rw[B.names];exact W,by rw[B.names,AAo];exact ht⟩;refine pLs p.AA.length (λi (s:BF×Int)=>s.1.World=w/\s.1.AA.length=i/\s.2=Zv p i/\∀(j:Nat) t,s.1.AA[j]? =some t->VO w j t) (F:=λn s i=>BX.Aa p n s.1 s.2 i) (s0:=(_,_)) (λ_ _=>rfl) (by omega) ⟨rfl,rfl,rfl,by simp⟩ λn i s hi W k=> ?_;obtain⟨G,s2,s3,s4⟩:=W;unfold BX.Aa BX.L1 BX.J4;refine pD (λH=>pE (CU (by omega)) ?_) λl8=>pR ⟨by simp only;rw[G];exact B,by simp only;omega,by simp only;rw[G];exact s4⟩;have H:i<p.AA.length:=by omega
  have L:p.AA[i]∈p.AA:=AAi H;have ho1:=offP_succ H;have ho2:=offP_le S (i+1);have hc:cg 4=336840:=rfl;have g0:GB (A5.mk s.1.World p.AA[i].HB [] 0 s.2) 4000000:=⟨by rw[G];exact mw,h.l _ L,by simp⟩;refine pB (pA (pT (vW 4 _ _ _ (XR (by omega)) (g0.less (by omega)) (h.b _ L))) (stmts_par 4 _ _ (XR (by omega)) (h.b _ L) ⟨s.1.World,p.AA[i].HB,[],0,s.2⟩ ⟨by rw[G];exact wf,h.lo _ L⟩ (by simp only;omega))) λv hv=>pB (put_eq _) λu hu=> ?_;obtain⟨v0,v1,v2⟩:=hv;have v0:=v0.b;simp only[ABR]at v0;have V:(u.locals.length:Int)=2:=by rw[hu];simp only;rw[v1.l];simp only;rw[h.lo _ L];rfl
  have R:u.out=v.out++[⟨28,0,0,0,0, -1⟩]:=by rw[hu]
  have sg:=v1.s;simp only[ABR,G,s3]at sg;have v2':v.next=Zv p (i+1):=by rw[v2];simp only;omega
  have rb:∀y∈u.out,∀r∈rg y,0≤r/\r<32:=by
   intro y x r e;rw[R]at x;rcases AAj.1 x with x|x
   . obtain⟨m,m1,m2⟩:=List.getElem_of_mem x;exact(sg.i m y (by omega) m1 (by rw[AAT m1,m2])).g r e
   . rw[AA4.1 x,rg0 (.inr (.inr rfl))]at e;cases e
  rw[V];have wG:u.out.length<1000000000000:=by rw[R];simp;omega
  refine pLs u.out.length (λk (t:An)=>t.A1=u.out/\(2≤t.Br/\t.Br≤32)/\∀y∈u.out.take k,∀r∈rg y,r<t.Br) (F:=λn t k=>BX.C2 _ _ _ _ _ n t k) (λ_ _=>rfl) wG ⟨rfl,by simp,by simp⟩ λm q t hq2 X k2=> ?_;obtain⟨t1,t2,t3⟩:=X;unfold BX.C2 BX.L2 BX.J2 BX.J3;refine pD (λhlt2=>pE (CU (by omega)) ?_) λhge2=>pC λ_=>k (_,_) (by omega) ⟨G,by simp;omega,v2',?_⟩
  . have x:u.out[q]∈u.out:=AAi (by omega);have ry:=rb _ x;have K:q<u.out.length:=(by omega);have tk:=AAk K;generalize u.out[q]=y at x ry tk;refine pE (GF y).1 (pLs (rg y).length (λl (t:An)=>t.A1=u.out/\(2≤t.Br/\t.Br≤32)/\(∀y∈u.out.take q,∀r∈rg y,r<t.Br)/\∀r∈(rg y).take l,r<t.Br) (F:=λn t k=>BX.Gm _ _ _ n t k) (λ_ _=>rfl) (by have:=(GF y).2;omega) ⟨t1,t2,t3,by simp⟩ λm3 M D hq3 Z k3=> ?_);obtain⟨x1,x2,x3,x4⟩:=Z;unfold BX.Gm BX.L3 BX.J1;refine pD (λhlt3=>pE (CU (by omega)) ?_) λhge3=>k2 _ K ⟨x1,x2,λz C r e=> ?_⟩
    . have e:(rg y)[M]'(by omega)∈rg y:=AAi (by omega);have U:=ry _ e;have N:=AAk (show M<(rg y).length by omega);generalize (rg y)[M]'(by omega)=r at e U N;rw[DR (by omega) (by omega)];have J:∀z,(if r+1>D.Br then r+1 else D.Br)=z->D.Br≤z/\r<z/\z≤32:=by intro z C;split at C<;>omega
      generalize C:(if r+1>D.Br then r+1 else D.Br)=z
      obtain⟨z1,z2,z3⟩:=J z C;refine k3 _ (by omega) ⟨x1,by simp only;omega,λy x r e=>by have:=x3 y x r e;simp only;omega,?_⟩;rw[← N];intro a I;rcases AAj.1 I with I|I
      . have:=x4 a I;simp only;omega
      . rw[AA4.1 I];exact z2
    . rw[← tk]at C;rcases AAj.1 C with C|C
      . exact x3 z C r e
      . rw[AA4.1 C]at e;rw[AA3 (by omega)]at x4;exact x4 r e
  . intro j D E;simp only at E;by_cases hj:j<s.1.AA.length
    . rw[AAr hj]at E;exact s4 j D E
    . have:=(AAQ.1 E).1;simp at this;obtain rfl:j=s.1.AA.length:=(by omega);rw[show(s.1.AA++[t])[s.1.AA.length]? =some t from by simp]at E;obtain rfl:=AAR E;rw[s2];rw[AA3 (by omega)]at t3;refine⟨t2,⟨v.out,_,_,by rw[t1,R],sg,λk k1 k2=> ?_⟩,by rw[t1];exact t3⟩;obtain⟨k,rfl⟩:∃m:Nat,k=m:=⟨k.toNat,by omega⟩;rw[LG];exact B.o i k H (by omega) (by omega)
 obtain⟨r,e,P⟩:=compile_tot h;refine⟨r,e,P,?_⟩;obtain⟨q1,q2,M⟩:=par r e;have hl:r.1.AA.length=r.1.World.AA.length:=by rw[q2,q1.names,AAo]
 have hn:=P.n;have key:D6 (CB r.1) λb=>b=true:=by unfold CB;refine tE (Ot _) ?_;rw[worldS_ok h S q1];refine tI (λh=>by cases h) λ_=> ?_;rw[hl,show((r.1.World.AA.length:Int) != r.1.World.AA.length)=false from by simp];unfold CB.J1;refine tI (λh=>by cases h) λ_=>XN r.1.AA.length (λ_ (_:Unit)=>True) (s0:=()) (F:=λn _ i=>CB.Aa r.1 n i) (by omega) trivial λn i _ hi _ k=> ?_;unfold CB.Aa CB.L1 CB.J2;refine tD (λH=>jM (by omega) ?_) λ_=>tR rfl;refine tE (qR (P.i _ (AAi (by omega))) (M i _ (AAT (by omega)))) (tI (λh=>by cases h) λ_=>k () (by omega) trivial)
 obtain⟨b,U,rfl⟩:=key;exact U
end
theorem Code_ok {l:List Int} (d:l.length≤4000000000000000000) (e:∀x∈l,0≤x/\x<256):D6 (Ma l) λc=>CK c/\CB c=some true:=by unfold Ma;exact tB (Program_tot d e) λp a=>tB (compile_ok a.1 a.2) λc b=>tR b
theorem Trace_wf {p s:List Int} (g:p.length≤4000000000000000000) (j:∀x∈p,0≤x/\x<256) (i:s.length≤1000):D6 (IX p s) λt=>TA s.length t/\Ck t.World=true:=by unfold IX;refine tB (Code_ok g j) λc b=>tB (Choices_tot i) λl o=>tB (tP (Run_ok b.1 (by omega)) (Q:=λr=>Ck r.1.World=true) ?_) λr a=>tR ⟨⟨⟨by have:=a.1.m.n;omega,a.1.m.e,a.1.m.w⟩,a.1.c⟩,a.2⟩;obtain⟨v,d,f⟩:=VK b.1;rw[b.2]at d;have k:=f (AAR d).symm;unfold LN;exact pE b.2 (pI (λh=>by cases h) λ_=>pB' λ_=>pB' λ_=>pR k.w)
theorem sQ {n:Nat} {t:Az} (a:TA n t) (hn:n≤400) (b:Ck t.World=true):Io t=(0,0):=by have:=a.m.n;unfold Io;rw[AAX (by omega),AAY b,a.c]
theorem TA.at {n:Nat} {t:Az} (h:TA n t) (b:Ck t.World=true) (hn:n≤400):AT t:=
 AT.of (λe a=>(h.m.e e a).ok) (by rw[sQ h hn b])
theorem made_at {p s:List Int} (d:p.length≤200) (c:∀x∈p,0≤x/\x<256) (b:s.length≤400):D6 (IX p s) λt=>AT t:=
 tM (Trace_wf (by omega) c (by omega)) λt a=>a.1.at a.2 b
theorem splitS_at {t:Az} (h:AT t) {k:Nat} (a:0<k) (b:k≤16):Ze t (k:Int)=(PJ t k t.AF.length,0):=by unfold Ze;rw[h.check,AAX (by simp),AAX (by omega),ABE]
theorem winN_iff {k i m:Nat} (c:0<k) (a:i≤m*k) (b:m*k<i+k):Uw k i=m:=by
  cases m with
  |zero=>have:i=0:=(by omega);subst this;unfold Uw;exact Nat.div_eq_of_lt (by omega)
  |succ m=>
    rw[ABa]at a b
    have:=sN c m (i-m*k) (by omega) (by omega);rw[show m*k+(i-m*k)=i from by omega]at this;exact this
theorem winN_bd {k:Nat} (a:0<k) (i:Nat):i≤Uw k i*k/\Uw k i*k<i+k:=by have b:=ABW (i+k-1) k;have c:=Nat.mod_lt (i+k-1) a;unfold Uw;rw[ABD];omega
theorem winN_two {k:Nat} (b:0<k) (i:Nat):Uw (2*k) i=(Uw k i+1)/2:=by
 obtain⟨d,f⟩:=winN_bd b i;generalize Uw k i=m at*;obtain⟨c,a|a⟩:∃c,m=2*c∨m+1=2*c:=by
  rcases Nat.mod_two_eq_zero_or_one m with h|h
  . exact⟨m/2,.inl (by omega)⟩
  . exact⟨(m+1)/2,.inr (by omega)⟩
 . have e:c*(2*k)=m*k:=(by rw[a,ABD 2 c,Nat.mul_assoc]);rw[show(m+1)/2=c from by omega];exact winN_iff (by omega) (by omega) (by omega)
 . have e:c*(2*k)=m*k+k:=(by rw[← ABa,Nat.succ_eq_add_one,a,ABD 2 c,Nat.mul_assoc]);rw[show(m+1)/2=c from by omega];exact winN_iff (by omega) (by omega) (by omega)
theorem winsTo_get {t:Az} {k i j:Nat} (h:j<Uw k i):gt (PJ t k i) (j:Int)=some (winS t k (j*k)):=by rw[CU (by rw[Tm];exact h)];simp[PJ]
theorem take_two (l:List AH) (a k:Nat):(l.drop a).take k++(l.drop (a+k)).take k=(l.drop a).take (2*k):=by rw[← List.drop_drop,Nat.two_mul,List.take_add]
theorem WindowSizes_tot {p s:List Int} {f:Int} (E:∀x∈p,0≤x/\x<256) (M:0≤f/\f<256):Dd p s f=some true:=by
 have K:=B1;unfold Dd;have key:∀b,(b=false->p.length≤200/\s.length≤60)->Dd.J1 p s f b=some true:=by
  intro b r;unfold Dd.J1;cases b with
  |true=>rfl
  |false=>
   obtain⟨d,I⟩:=r rfl;obtain⟨t,D,h⟩:=made_at (s:=s) d E (by omega);have O:=h.l;rw[AAX (by simp),D,AAO];obtain⟨k,B,g,P⟩:∃k:Nat,Ap (((Ap f).tmod 8)+1)=(k:Int)/\0<k/\k≤8:=(by obtain⟨m,rfl⟩:∃m:Nat,f=m:=⟨f.toNat,by omega⟩;rw[DR (n:=(m:Int)) (by omega) (by omega)];refine⟨m%8+1,?_,by omega,by omega⟩;rw[show(m:Int).tmod 8=((m%8:Nat):Int)from by rw[Int.ofNat_tmod];rfl,DR (by omega) (by omega)];rfl);rw[B,DR (n:=2*(k:Int)) (by omega) (by omega),show 2*(k:Int)=((2*k:Nat):Int)from by omega,Split_eq t h.e,AAO,Split_eq t h.e,AAO,splitS_at h g (by omega),splitS_at h (k:=2*k) (by omega) (by omega)];simp only[Tm];have J:=winN_le g t.AF.length;have w:=winN_two g t.AF.length;obtain⟨d1,H⟩:=winN_bd g t.AF.length;rw[DR (n:=((Uw k t.AF.length:Nat):Int)+1) (by omega) (by omega),show(((Uw k t.AF.length:Nat):Int)+1).tdiv 2=(((Uw k t.AF.length+1)/2:Nat):Int)from by rw[Int.ofNat_tdiv];rfl,DR (by omega) (by omega),w];simp only[bne_self_eq_false,AAW,AAe];unfold Dd.J2;rw[AAX (by simp)];have y:Dd.J5=some true:=(by unfold Dd.J5;rw[AAL];rfl);refine Nq (L:=Dd.Aa (PJ t k t.AF.length,0) (PJ t (2*k) t.AF.length,0)) (N:=Uw (2*k) t.AF.length) (λm i hi=> ?_) (λm=> ?_) BT 0 (by omega) (by omega)
   . rw[Dd.Aa];unfold Dd.L1 Dd.J3 Dd.J4;have c:2*i<Uw k t.AF.length:=(by omega);have F:2*i*k<t.AF.length:=(by have:(2*i+1)*k≤Uw k t.AF.length*k:=ABN k c;rw[ABa]at this;omega);have j:i*(2*k)=2*i*k:=(by rw[← Nat.mul_assoc,ABD i 2]);have q:=qY (h.small (i:=2*i*k) (by omega));have o:∀a m,Cq ((t.AF.drop a).take m) ((t.AF.drop a).take m)=some true:=λa m=>rJ _ (by simp;omega) (λe z=>h.ev (List.mem_of_mem_drop (ABc z)));rw[BC (by rw[Tm];omega),DR (n:=2*(i:Int)) (by omega) (by omega),show 2*(i:Int)=((2*i:Nat):Int)from by omega,winsTo_get c,AAO,BL (by simp[winS];omega),Ao (by omega),winsTo_get hi,AAO];simp only[AAO,Tm];by_cases C:2*i+1<Uw k t.AF.length
     . rw[BC (by omega),winsTo_get C,AAO,BL (by simp[winS];omega)];have v:(2*i+1)*k=2*i*k+k:=ABa _ _;simp only[winS,j,v,take_two,o,q,AAO,Bool.not_true,AAW,AAe,bne_self_eq_false];rw[Ao (by omega)]
     . rw[Ac (by omega)];have G:t.AF.length≤2*i*k+k:=(by have:Uw k t.AF.length=2*i+1:=(by omega);rw[this,ABa]at d1;exact d1);have u:(t.AF.drop (2*i*k)).take k=(t.AF.drop (2*i*k)).take (2*k):=(by rw[AA3 (by simp;omega),AA3 (by simp;omega)]);simp only[winS,j,u,o,q,AAO,Bool.not_true,AAW,AAe,bne_self_eq_false];rw[Ao (by omega)]
   . rw[Dd.Aa];unfold Dd.L1;rw[Ac (by rw[Tm];omega)];exact y
 by_cases d:(p.length:Int)>200
 . rw[BC d];exact key _ (λh=>by cases h)
 . rw[Ac d];exact key _ λh=>by have:=of_decide_eq_false h;omega
end Go.Abs
