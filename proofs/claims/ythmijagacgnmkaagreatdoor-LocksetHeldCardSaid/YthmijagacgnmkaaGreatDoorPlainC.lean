/- What the typed programs give, in plain Lean. -/
import Derived.Test.YthmijagacgnmkaaGreatDoorWalkQ
import Derived.Test.YthmijagacgnmkaaGreatDoorPlainB
set_option linter.unusedSimpArgs false
set_option linter.unusedVariables false
namespace Go.Abs
set_option maxHeartbeats 4000000
theorem take_one {b:Type} {l:List b} {i:Nat} (h:i<l.length) {P:b->Prop} (c:∀x∈l.take i,P x) (d:P l[i]):∀x∈l.take (i+1),P x:=by
 intro x a;rw[← AAm h]at a;rcases AAh.1 a with a|a
 . exact c x a
 . rw[AAj.1 a];exact d
theorem YV {a:Type} {l:List a} {i:Nat} (h:l.length≤i) {P:a->Prop} (b:∀x∈l.take i,P x):∀x∈l,P x:=by rwa [AA9 h]at b
theorem Ho {a:Type} {l:List a} {i:Int} (h:0≤i/\i<l.length):∃x,gt l i=some x/\l[i.toNat]? =some x/\x∈l:=by
 have:i.toNat<l.length:=by omega
 exact⟨l[i.toNat],by simp[gt,h.1,this],by simp[this],AAl this⟩
theorem Mt (i n:Int):Bx (DS i n) λb=>b=true->0≤i/\i<n:=by unfold DS DS.J1;exact tD (λh=>tR λa=>⟨h,AAc a⟩) λ_=>tR λh=>by cases h
def Q7 (w:AB) (b n:Int):Prop:=∃x,gt w.Cells b=some x/\x.Index=0/\x.B7≠0/\x.B7=n
theorem Zb (w:AB) (b n:Int):Bx (En w b n) λr=>r=true->Q7 w b n:=by
 have N:∀{g:Prop},Bx (some false) λb:Bool=>b=true->g:=tR λh=>by cases h
 unfold En En.J1;refine tB (Mt _ _) λv f=>tI (λh=> ?_) λ_=>N;obtain⟨x,a,_⟩:=Ho (f h);exact tE a (tI (λc=>tI (λd=>tR λe=>⟨x,a,eq_of_beq c,by simpa using d,eq_of_beq e⟩) λ_=>N) λ_=>N)
theorem gV (w:AB) (i:Aa):Bx (AM w i) λb=>b=true->(i.Op=7->Q7 w i.B i.N)/\(i.Op=9->Q7 w i.A i.N):=by
 have l:∀b,TT (AM.J8 i w b):=by
  intro b;unfold AM.J8 AM.J9 AM.Rw
  repeat' first|exact tR trivial|refine tB (Mt _ _) λ_ _=> ?_|refine tI (λ_=> ?_) λ_=> ?_
 have k:∀b,TT (AM.J7 i w b):=by
  intro b;unfold AM.J7
  repeat' first|exact tR trivial|exact l _|refine tB (Mt _ _) λ_ _=> ?_|refine tI (λ_=> ?_) λ_=> ?_
 have j:∀b,TT (AM.J5 i w b):=by
  intro b;unfold AM.J5 AM.J6;refine tI (λ_=>tB (Mt _ _) λv a=>tI (λh=>tG (a h) λx _=>tR trivial) λ_=>tR trivial) λ_=> ?_
  repeat' first|exact k _|refine tI (λ_=> ?_) λ_=> ?_
 have e:∀b,TT (AM.J3 i w b):=by
  intro b;unfold AM.J3 AM.J4;refine tI (λ_=>tB (Mt _ _) λv a=>tI (λh=>tG (a h) λx _=>tR trivial) λ_=>tR trivial) λ_=> ?_
  repeat' first|exact j _|refine tI (λ_=> ?_) λ_=> ?_
 unfold AM AM.J1 AM.J2;have M:∀{o:ABr Bool},TT o->i.Op≠7->i.Op≠9->Bx o λb=>b=true->(i.Op=7->Q7 w i.B i.N)/\(i.Op=9->Q7 w i.A i.N):=λh f g=>tM h λ_ _ _=>⟨λh=>absurd h f,λh=>absurd h g⟩;refine tI (λh=>M (tB (Mt _ _) λv a=>tI (λh=>tG (a h) λx _=>tR trivial) λ_=>tR trivial) ?_ ?_) λp=>tI (λh=>M (tB (Mt _ _) λv a=>tI (λh=>tG (a h) λx _=>tR trivial) λ_=>tR trivial) ?_ ?_) λq=> ?_
 . rw[eq_of_beq h];decide
 . rw[eq_of_beq h];decide
 . rw[eq_of_beq h];decide
 . rw[eq_of_beq h];decide
 . refine tI (λh=>tB (Zb _ _ _) λv a=>tR λd=>⟨λ_=>a d,λc=> ?_⟩) λm=>tI (λh=>tB (Zb _ _ _) λv a=>tR λd=>⟨λc=> ?_,λ_=>a d⟩) λn=> ?_
   . rw[eq_of_beq h]at c;cases c
   . rw[eq_of_beq h]at c;cases c
   . exact M (tI (λ_=>e _) λ_=>e _) (by simpa using m) (by simpa using n)
def jJ (o:Int):Bool:=decide (1≤o)&&decide (o≤5)
theorem P1 (o:Int):Fl o=some (jJ o):=by unfold Fl Fl.J1 jJ;by_cases h:o≥1<;>simp[h]
theorem uN {l:List Aa} (b:l.length≤8000000) (a:Int):TT (B1 l a):=by unfold B1;refine Pr (l.length+1) (λ_ _=>True) (F:=λn s i=>B1.AZ l n s i) (by omega) trivial λn i s hi _ k=> ?_;unfold B1.AZ B1.L1 B1.J1 B1.J2 B1.J3;refine tD (λ_=>tD (λ_=>tR trivial) λ_=>tD (λ_=>tR trivial) λ_=>tG (by omega) λx _=>tE (P1 _) ?_) λ_=>tR trivial;exact tI (λ_=>tR trivial) λ_=>tI (λ_=>k _ (by omega) trivial) λ_=>k _ (by omega) trivial
def YQ (w:AB) (t:Int) (x:Aa):Prop:=if x.Op=28 then x.Site= -1 else∃y,gt w.BF x.Site=some y/\y.Thread=t
structure VI (w:AB) (t R:Int) (x:Aa):Prop where
 o:1≤x.Op/\x.Op≤28
 g:∀y∈rg x,0≤y/\y<R
 s:YQ w t x
 a:(x.Op=7->Q7 w x.B x.N)/\(x.Op=9->Q7 w x.A x.N)
structure VT (w:AB) (t:Int) (c:Av):Prop where
 r:0≤c.CY/\c.CY≤32
 i:∀x∈c.Bg,VI w t c.CY x
theorem Vv (w:AB) (t:Int) {c:Av} (E:c.Bg.length≤8000000):Bx (AR w t c) λb=>b=true->VT w t c:=by
 have N:∀{K:Prop},Bx (some false) λb:Bool=>b=true->K:=tR λh=>by cases h
 have j1:∀b,(b=false->0≤c.CY/\c.CY≤32)->Bx (AR.J1 c t w b) λb=>b=true->VT w t c:=by
  intro b p;unfold AR.J1;refine tI (λ_=>N) λD=>Pr c.Bg.length (λi (_:Unit)=>∀x∈c.Bg.take i,VI w t c.CY x) (s0:=()) (F:=λn _ i=>AR.AZ c t w n i) (by omega) (by simp) λn i _ hi r k=> ?_;unfold AR.AZ AR.L1 AR.J6;refine tD (λo=>aO (by omega) ?_) λM=>tR λ_=>⟨p D,YV (by omega) r⟩;have o:i<c.Bg.length:=by omega
  generalize H:c.Bg[i]=x;have I:∀b,(b=false->(1≤x.Op/\x.Op≤28)/\YQ w t x/\(x.Op=7->Q7 w x.B x.N)/\(x.Op=9->Q7 w x.A x.N))->Bx (AR.J4 (AR.AZ c t w n) c i x b) λb=>b=true->VT w t c:=by intro b d;unfold AR.J4;refine tI (λ_=>N) λe=>tE (GZ x).1 (Pr (rg x).length (λi (_:Unit)=>∀y∈(rg x).take i,0≤y/\y<c.CY) (s0:=()) (F:=λn _ i=>AR.Cf _ c _ (rg x) n i) (by have:=(GZ x).2;omega) (by simp) λm j _ L C J=> ?_);unfold AR.Cf AR.L2 AR.J5;refine tD (λ_=>aO (by omega) (tB (Mt _ _) λv g=>tI (λ_=>N) λh=>J () (by omega) (take_one (by omega) C (g (by simpa using h))))) λ_=>k () o (take_one o r (by rw[H];exact⟨(d e).1,YV (by omega) C,(d e).2.1,(d e).2.2⟩))
  have q:∀b,(b=false->(1≤x.Op/\x.Op≤28)/\YQ w t x/\(x.Op=7->Q7 w x.B x.N)/\(x.Op=9->Q7 w x.A x.N))->Bx (AR.J3 (AR.AZ c t w n) c i x b) λb=>b=true->VT w t c:=by
   intro b d;unfold AR.J3;refine tI (λ_=>N) λe=> ?_
   repeat' first|exact I _ λ_=>d e|refine tB (Mt _ _) λ_ _=> ?_|refine tI (λ_=> ?_) λ_=> ?_
  have l:∀b,(b=false->(1≤x.Op/\x.Op≤28)/\(x.Op=7->Q7 w x.B x.N)/\(x.Op=9->Q7 w x.A x.N))->Bx (AR.J2 (AR.AZ c t w n) c i t w x b) λb=>b=true->VT w t c:=by
   intro b d;unfold AR.J2;refine tI (λ_=>N) λe=> ?_;obtain⟨u,z⟩:=d e;have T:∀b,b=true->Bx (AR.J3 (AR.AZ c t w n) c i x b) λb=>b=true->VT w t c:=λb p=>q b λh=>(by rw[p]at h;cases h);refine tI (λa=>tI (λ_=>T _ rfl) λf=>tI (λh=>by rw[eq_of_beq a]at h;cases h) λ_=>q _ λ_=>⟨u,?_,z⟩) λa=>tI (λ_=> ?_) λh=>by simp at h a;omega
   . unfold YQ;rw[AAa (eq_of_beq a)];simpa using f
   . refine tB (Mt _ _) λv g=>tI (λ_=>T _ rfl) λh=> ?_;obtain⟨y,s,_⟩:=Ho (g (by simpa using h));refine tE s (q _ λG=>⟨u,?_,z⟩);unfold YQ;rw[AAZ (by simpa using a)];exact⟨y,s,by simpa using G⟩
  refine tD (λ_=>l _ λh=>by cases h) λ_=>tD (λ_=>l _ λh=>by cases h) λ_=> ?_;have d:1≤x.Op/\x.Op≤28:=by omega
  exact tI (λ_=>l _ λh=>by cases h) λ_=>tB (gV _ _) λv g=>tI (λ_=>l _ λh=>by cases h) λh=>IX (uN E _) λ_=>l _ λ_=>⟨d,g (by simpa using h)⟩
 unfold AR;exact tD (λ_=>j1 _ λh=>by cases h) λ_=>tD (λ_=>j1 _ λh=>by cases h) λ_=>j1 _ λ_=>by omega
structure VC (c:BL):Prop where
 w:Cz c.World=true
 n:c.AA.length=c.World.AA.length
 t:∀(i:Nat) t,c.AA[i]? =some t->VT c.World i t
theorem P2 {c:BL} (g:CK c):Bx (Bq c) λb=>b=true->VC c:=by
 have N:∀{p:Prop},Bx (some false) λb:Bool=>b=true->p:=tR λh=>by cases h
 have hn:=g.n;have j1:∀b,(b=false->Cz c.World=true/\c.AA.length=c.World.AA.length)->Bx (Bq.J1 c b) λb=>b=true->VC c:=by
  intro b f;unfold Bq.J1;refine tI (λ_=>N) λd=>Pr c.AA.length (λi (_:Unit)=>∀(j:Nat) x,j<i->c.AA[j]? =some x->VT c.World j x) (s0:=()) (F:=λn _ i=>Bq.AZ c n i) (by omega) (λj _ h=>by omega) λn i _ hi l k=> ?_;unfold Bq.AZ Bq.L1 Bq.J2;refine tD (λq=>aO (by omega) (tB (Vv _ _ (g.i _ (AAl (by omega)))) λv o=>tI (λ_=>N) λh=>k () (by omega) ?_)) λ_=>tR λ_=>⟨(f d).1,(f d).2,λj x a=>l j x ?_ a⟩
  . intro j x r a;by_cases e:j<i
    . exact l j x e a
    . obtain rfl:j=i:=(by omega);rw[AAV (by omega)]at a;rw[← AAU a];exact o (by simpa using h)
  . have:=(AAS.1 a).1;omega
 unfold Bq;refine tE (Lq _) (tI (λ_=>j1 _ λh=>by cases h) λh=>j1 _ λm=>⟨by simpa using h,?_⟩)
 have:=AAc (by simpa using m:decide ((c.AA.length:Int)=(c.World.AA.length:Int))=true);omega
def MA {α:Type} (o:ABr α) (Q:α->Prop):Prop:=∀r,o=some r->Q r
theorem pR {a:Type} {r:a} {Q:a->Prop} (h:Q r):MA (some r) Q:=λ_ e=>by cases e;exact h
theorem pN {a:Type} {Q:a->Prop}:MA (none:ABr a) Q:=λ_ e=>by cases e
theorem pB {a b:Type} {o:ABr a} {Q:a->Prop} {f:a->ABr b} {R:b->Prop} (h:MA o Q) (k:∀x,Q x->MA (f x) R):MA (o.bind f) R:=by
 intro r e;cases o with
 |none=>cases e
 |some x=>exact k x (h x rfl) r e
theorem pB' {a b:Type} {o:ABr a} {f:a->ABr b} {R:b->Prop} (k:∀x,MA (f x) R):MA (o.bind f) R:=pB (Q:=λ_=>True) (λ_ _=>trivial) λx _=>k x
theorem pE {a b:Type} {o:ABr a} {y:a} {f:a->ABr b} {R:b->Prop} (h:o=some y) (k:MA (f y) R):MA (o.bind f) R:=by rw[h];exact k
theorem pC {b:Type} {p:Prop} [Decidable p] {a:ABr b} {R:b->Prop} (k:p->MA a R):MA (if p then a else none) R:=by
 by_cases h:p
 . rw[AAa h];exact k h
 . rw[AAZ h];exact pN
theorem pI {d:Type} {c:Bool} {a b:ABr d} {R:d->Prop} (e:c=true->MA a R) (f:c=false->MA b R):MA (if c=true then a else b) R:=by
 cases c with
 |true=>exact e rfl
 |false=>exact f rfl
theorem pD {c:Type} {p:Prop} [Decidable p] {a b:ABr c} {R:c->Prop} (d:p->MA a R) (e:¬p->MA b R):MA (if decide p=true then a else b) R:=by
 by_cases h:p
 . simpa[h]using d h
 . simpa[h]using e h
theorem pM {a:Type} {o:ABr a} {Q R:a->Prop} (h:MA o Q) (k:∀x,Q x->R x):MA o R:=λr e=>k r (h r e)
theorem pT {a:Type} {o:ABr a} {Q:a->Prop} (h:Bx o Q):MA o Q:=by obtain⟨x,rfl,b⟩:=h;exact pR b
theorem pA {a:Type} {o:ABr a} {P Q:a->Prop} (h:MA o P) (k:MA o Q):MA o λr=>P r/\Q r:=λr e=>⟨h r e,k r e⟩
theorem tP {a:Type} {o:ABr a} {P Q:a->Prop} (h:Bx o P) (k:MA o Q):Bx o λr=>P r/\Q r:=by obtain⟨x,e,b⟩:=h;exact⟨x,e,b,k x e⟩
theorem pLs {σ b:Type} {Q:b->Prop} (N:Nat) (I:Nat->σ->Prop) {F:Nat->σ->Int->ABr b} (g:∀s i,F 0 s i=none) (k:N<1000000000000) {s0:σ} (c:I 0 s0)
 (h:∀n (i:Nat) s,i≤N->I i s->(∀a,i<N->I (i+1) a->MA (F n a (Ay (i+1))) Q)->MA (F (n+1) s i) Q):MA (F BU s0 0) Q:=by
 have key:∀n (i:Nat) s,i≤N->I i s->MA (F n s i) Q:=by
  intro n;induction n with
  |zero=>intro i s _ _;rw[g];exact pN
  |succ n ih=>intro i s d e;refine h n i s d e λa j f=> ?_;rw[Ao (by omega)];exact ih (i+1) a (by omega) f
 exact key BU 0 s0 (by omega) c
def StI (l:List Aa) (k m:Nat):Prop:=∃x,l[k]? =some x/\jJ x.Op=true/\(x.Op=5/\x.A=(m:Int)∨x.Op≠5/\m=k+1)
def QN (l:List Aa) (a b:Nat):Nat->Nat->Nat->Prop
 |0,k,m=>k=m
 |n+1,k,m=>(a≤k/\k<b)/\∃j,StI l k j/\QN l a b n j m
def Ev (l:List Aa) (m:Nat):Prop:=∃x,l[m]? =some x/\jJ x.Op=false
theorem QN.frame {l l':List Aa} {a b c d:Nat} (h:∀i,a≤i->i<b->l[i]? =l'[i]?) (f:c≤a) (g:b≤d):∀{n k m},QN l a b n k m->QN l' c d n k m
 |0,_,_,e=>e
 |n+1,k,m,⟨⟨h1,h2⟩,j,⟨x,x1,x2⟩,h4⟩=>⟨⟨by omega,by omega⟩,j,⟨x,by rw[← h k h1 h2];exact x1,x2⟩,h4.frame h f g⟩
theorem QN.trans {l:List Aa} {a b:Nat}:∀{n k m p q},QN l a b n k m->QN l a b p m q->QN l a b (n+p) k q
 |0,_,_,p,_,e,h=>by cases e;rw[ABX];exact h
 |n+1,_,_,p,_,⟨h1,j,h2,h3⟩,h=>by rw[Nat.succ_add];exact⟨h1,j,h2,h3.trans h⟩
theorem QN.one {l:List Aa} {a b k m:Nat} (h:a≤k/\k<b) (s:StI l k m):QN l a b 1 k m:=⟨h,m,s,rfl⟩
structure LV (w:AB) (lo hi:Int) (c:Nat) (x:Aa):Prop where
 o:1≤x.Op/\x.Op≤27
 ob:AM w x=some true
 g:∀y∈rg x,0≤y/\y<32
 s:lo≤x.Site/\x.Site<hi
 j:x.Op=5->0≤x.A/\x.A≤c
 b:x.Op=10->0≤x.B/\x.B≤c
structure SG (w:AB) (lo hi:Int) (l:List Aa) (a b c:Nat):Prop where
 h:a≤b/\b≤l.length
 i:∀k x,a≤k->k<b->l[k]? =some x->LV w lo hi c x
 f:∀k,a≤k->k<b->(∃n m,QN l a b n k m/\(a≤m/\m<b)/\Ev l m/\n+a+1≤b)∨∃n,QN l a b n k b/\n+k≤b
section
variable {w:AB} {lo hi lo' hi':Int} {l l':List Aa} {a b c d:Nat}
theorem LV.mono {x:Aa} (h:LV w lo hi c x) (a:lo'≤lo) (f:hi≤hi') (i:c≤d):LV w lo' hi' d x:=
 ⟨h.o,h.ob,h.g,⟨by have:=h.s;omega,by have:=h.s;omega⟩,λe=>by have:=h.j e;omega,λe=>by have:=h.b e;omega⟩
theorem SG.frame (h:SG w lo hi l a b c) (e:∀i,a≤i->i<b->l[i]? =l'[i]?) (t:b≤l'.length) (p:lo'≤lo) (q:hi≤hi') (s:c≤d):SG w lo' hi' l' a b d:=by
 refine⟨⟨h.h.1,t⟩,λk x g j u=>(h.i k x g j (by rw[e k g j];exact u)).mono p q s,λk g j=> ?_⟩;rcases h.f k g j with⟨n,m,r,o,⟨x,v,y⟩,hn⟩|⟨n,r,hn⟩
 . exact .inl ⟨n,m,r.frame e (by omega) (by omega),o,⟨x,by rw[← e m o.1 o.2];exact v,y⟩,hn⟩
 . exact .inr ⟨n,r.frame e (by omega) (by omega),hn⟩
theorem SG.mono (h:SG w lo hi l a b c) (e:lo'≤lo) (f:hi≤hi') (g:c≤d):SG w lo' hi' l a b d:=h.frame (λ_ _ _=>rfl) h.h.2 e f g
theorem SG.nil (h:a≤l.length):SG w lo hi l a a c:=⟨⟨by omega,h⟩,λk x _ _=>by omega,λk _ _=>by omega⟩
theorem SG.app {e:Nat} (h:SG w lo hi l a b c) (g:SG w lo hi l b e c):SG w lo hi l a e c:=by
 have B:=h.h;have y:=g.h;refine⟨⟨by omega,y.2⟩,λk x p q u=> ?_,λk p q=> ?_⟩
 . by_cases o:k<b
   . exact h.i k x p o u
   . exact g.i k x (by omega) q u
 . have up:∀{n k m},QN l b e n k m->QN l a e n k m:=λr=>r.frame (λ_ _ _=>rfl) (by omega) (by omega);have d:∀{n k m},QN l a b n k m->QN l a e n k m:=λr=>r.frame (λ_ _ _=>rfl) (by omega) (by omega);by_cases o:k<b
   . rcases h.f k p o with⟨n,m,r,v,ev,hn⟩|⟨n,r,hn⟩
     . exact .inl ⟨n,m,d r,by omega,ev,by omega⟩
     . by_cases j:b<e
       . rcases g.f b (by omega) j with⟨s,m,t,v,ev,z⟩|⟨s,t,z⟩
         . exact .inl ⟨n+s,m,(d r).trans (up t),by omega,ev,by omega⟩
         . exact .inr ⟨n+s,(d r).trans (up t),by omega⟩
       . have:b=e:=(by omega);subst this;exact .inr ⟨n,d r,by omega⟩
   . rcases g.f k (by omega) q with⟨n,m,r,v,ev,hn⟩|⟨n,r,hn⟩
     . exact .inl ⟨n,m,up r,by omega,ev,by omega⟩
     . exact .inr ⟨n,up r,hn⟩
theorem SG.one {x:Aa} (b:l[a]? =some x) (f:LV w lo hi c x) (e:x.Op≠5):SG w lo hi l a (a+1) c:=by
 have i:=(AAS.1 b).1;refine⟨⟨by omega,by omega⟩,λk y g h d=> ?_,λk g h=> ?_⟩
 . obtain rfl:k=a:=(by omega);rw[b]at d;cases d;exact f
 . obtain rfl:k=a:=(by omega);cases hs:jJ x.Op with
   |false=>exact .inl ⟨0,k,rfl,by omega,⟨x,b,hs⟩,by omega⟩
   |true=>exact .inr ⟨1,QN.one (by omega) ⟨x,b,hs,.inr ⟨e,rfl⟩⟩,by omega⟩
theorem SG.jump {j e:Nat} {x:Aa} (h:SG w lo hi l a j c) (u:l[j]? =some x) (C:LV w lo hi c x) (t:x.Op=5) (B:x.A=(e:Int)) (g:SG w lo hi l (j+1) e c):SG w lo hi l a e c:=by
 have E:=h.h;have z:=g.h;have s:StI l j e:=⟨x,u,by rw[t];rfl,.inl ⟨t,B⟩⟩;have up:∀{n k m},QN l (j+1) e n k m->QN l a e n k m:=λr=>r.frame (λ_ _ _=>rfl) (by omega) (by omega);have v:∀{n k m},QN l a j n k m->QN l a e n k m:=λr=>r.frame (λ_ _ _=>rfl) (by omega) (by omega);refine⟨⟨by omega,z.2⟩,λk y p q b=> ?_,λk p q=> ?_⟩
 . by_cases o:k<j
   . exact h.i k y p o b
   . by_cases d:k=j
     . subst d;rw[u]at b;cases b;exact C
     . exact g.i k y (by omega) q b
 . by_cases o:k<j
   . rcases h.f k p o with⟨n,m,r,D,ev,hn⟩|⟨n,r,hn⟩
     . exact .inl ⟨n,m,v r,by omega,ev,by omega⟩
     . exact .inr ⟨n+1,(v r).trans (QN.one (by omega) s),by omega⟩
   . by_cases d:k=j
     . subst d;exact .inr ⟨1,QN.one (by omega) s,by omega⟩
     . rcases g.f k (by omega) q with⟨n,m,r,D,ev,hn⟩|⟨n,r,hn⟩
       . exact .inl ⟨n,m,up r,by omega,ev,by omega⟩
       . exact .inr ⟨n,up r,hn⟩
theorem SG.back {p j:Nat} {x y:Aa} (h:SG w lo hi l a p c) (H:l[p]? =some y) (B:LV w lo hi c y) (C:jJ y.Op=false) (g:SG w lo hi l (p+1) j c) (v:l[j]? =some x) (O:LV w lo hi c x) (G:x.Op=5) (M:x.A=(a:Int)):SG w lo hi l a (j+1) c:=by
 have R:=h.h;have Q:=g.h;have S:=(AAS.1 v).1;have s:StI l j a:=⟨x,v,by rw[G];rfl,.inl ⟨G,M⟩⟩;have up:∀{n k m},QN l (p+1) j n k m->QN l a (j+1) n k m:=λr=>r.frame (λ_ _ _=>rfl) (by omega) (by omega);have o:∀{n k m},QN l a p n k m->QN l a (j+1) n k m:=λr=>r.frame (λ_ _ _=>rfl) (by omega) (by omega);have e:Ev l p:=⟨y,H,C⟩
 -- from the beginning on
 have t:∃n m,QN l a (j+1) n a m/\(a≤m/\m<j+1)/\Ev l m/\n+a≤p:=by
  by_cases N:a<p
  . rcases h.f a (by omega) N with⟨n,m,r,J,ev,hn⟩|⟨n,r,hn⟩
    . exact⟨n,m,o r,by omega,ev,by omega⟩
    . exact⟨n,p,o r,by omega,e,by omega⟩
  . have:a=p:=(by omega);exact⟨0,p,this,by omega,e,by omega⟩
 obtain⟨K,I,L,E,F,T⟩:=t;refine⟨⟨by omega,by omega⟩,λk z D P d=> ?_,λk D P=>.inl ?_⟩
 . by_cases u:k<p
   . exact h.i k z D u d
   . by_cases q:k=p
     . subst q;rw[H]at d;cases d;exact B
     . by_cases b:k<j
       . exact g.i k z (by omega) b d
       . obtain rfl:k=j:=(by omega);rw[v]at d;cases d;exact O
 . by_cases u:k<p
   . rcases h.f k D u with⟨n,m,r,J,ev,hn⟩|⟨n,r,hn⟩
     . exact⟨n,m,o r,by omega,ev,by omega⟩
     . exact⟨n,p,o r,by omega,e,by omega⟩
   . by_cases q:k=p
     . subst q;exact⟨0,k,rfl,by omega,e,by omega⟩
     . by_cases b:k<j
       . rcases g.f k (by omega) b with⟨n,m,r,J,ev,hn⟩|⟨n,r,hn⟩
         . exact⟨n,m,up r,by omega,ev,by omega⟩
         . exact⟨n+(1+K),I,(up r).trans ((QN.one (by omega) s).trans L),E,F,by omega⟩
       . obtain rfl:k=j:=(by omega);exact⟨1+K,I,(QN.one (by omega) s).trans L,E,F,by omega⟩
end
def TB (E:Int) (x:List Int):Prop:=x.Pairwise (· < ·)/\∀y∈x,0≤y/\y<E
theorem TB.len {E:Int} {x:List Int} (h:TB E x) (d:0≤E):(x.length:Int)≤E:=by
 have key:∀(x:List Int) (a:Int),x.Pairwise (· < ·)->(∀y∈x,a≤y/\y<E)->a≤E->(x.length:Int)≤E-a:=by
  intro x;induction x with
  |nil=>intro a _ _ h;simp;omega
  |cons y r ih=>
   intro a e b i;obtain⟨f,g⟩:=List.pairwise_cons.1 e;have j:=b y ABP
   have:=ih (y+1) g (λz c=>⟨f z c,(b z (List.mem_cons_of_mem _ c)).2⟩) (by omega);simp only[AA4];omega
 have:=key x 0 h.1 h.2 d;omega
theorem TB.mono {E F:Int} {x:List Int} (h:TB E x) (b:E≤F):TB F x:=⟨h.1,λy a=>⟨(h.2 y a).1,by have:=(h.2 y a).2;omega⟩⟩
structure TH (E:Nat) (s:AL):Prop where
 r:s.CY.length≤100
 t:s.CS.length≤100
 b:∀x∈s.CS,TB s.AH x
 e:0≤s.AH/\s.AH≤E
theorem TH.zero (E:Nat):TH E ⟨0,[],[],0⟩:=⟨by simp,by simp,by simp,by simp,by simp⟩
theorem dX {E:Nat} {s:AL} (h:TH E s) (f:E≤100000):E6 s=some s:=by
 have g:=h.r;have j:=h.t;have c:=h.e;have key:Bx (E6 s) λr=>r=s:=by
  unfold E6;refine tC (BM (by omega)) (Pr s.CS.length (λi o=>o=⟨s.PC,s.CY,s.CS.take i,s.AH⟩) (F:=λn o i=>E6.AZ s n o i) (by omega) rfl λn i o hi d k=> ?_);subst d;unfold E6.AZ E6.L1 E6.J1;refine tD (λ_=>aO (by omega) ?_) λ_=>tR (by rw[AA9 (by omega)])
  have:=(h.b _ (AAl (show i<s.CS.length by omega))).len c.1;exact tC (BM (by omega)) (tC (BM (by simp;omega)) (k _ (by omega) (by rw[AAm])))
 obtain⟨r,a,rfl⟩:=key;exact a
theorem rg1 {i:Aa} (h:i.Op=1):rg i=[i.A]:=by unfold rg AW AW.J1;simp[h]
theorem rg2 {i:Aa} (h:i.Op=2):rg i=[i.A,i.B]:=by unfold rg AW AW.J1 AW.J2;simp[h]
theorem rg3 {i:Aa} (h:i.Op=3):rg i=[i.A,i.B]:=by unfold rg AW AW.J1 AW.J2;simp[h]
theorem rg4 {i:Aa} (h:i.Op=4):rg i=[i.A,i.B,i.C]:=by unfold rg AW AW.J1 AW.J2;simp[h]
theorem rg6 {i:Aa} (h:i.Op=6):rg i=[i.A]:=by unfold rg AW AW.J1;simp[h]
theorem rg7 {i:Aa} (h:i.Op=7):rg i=[i.A,i.C]:=by unfold rg AW AW.J1 AW.J2;simp[h]
theorem rg8 {i:Aa} (h:i.Op=8):rg i=[i.B]:=by unfold rg AW AW.J1 AW.J2 AW.J3;simp[h]
theorem rg9 {i:Aa} (h:i.Op=9):rg i=[i.B,i.C]:=by unfold rg AW AW.J1 AW.J2 AW.J3;simp[h]
theorem rg10 {i:Aa} (h:i.Op=10):rg i=[i.A]:=by unfold rg AW AW.J1;simp[h]
theorem rg26 {i:Aa} (h:i.Op=26):rg i=[i.B]:=by unfold rg AW AW.J1 AW.J2 AW.J3;simp[h]
theorem rg27 {i:Aa} (h:i.Op=27):rg i=[i.A]:=by unfold rg AW AW.J1;simp[h]
theorem S9 (n:Int):TT (EW n):=by
 unfold EW EW.J1
 repeat' first|exact tR trivial|refine tI (λ_=> ?_) λ_=> ?_
theorem aQ (b:Bool):TT (D4 b):=by unfold D4;exact tI (λ_=>tR trivial) λ_=>tR trivial
theorem rI (o a:Int):TT (Kz o a):=by
 unfold Kz
 repeat' first|exact tR trivial|refine IX (aQ _) λ_=> ?_|refine tI (λ_=> ?_) λ_=> ?_
theorem kK (o a b:Int):TT (Fk o a b):=by
 unfold Fk Fk.J1 Fk.J2
 repeat' first|exact tR trivial|refine IX (aQ _) λ_=> ?_|refine tD (λ_=>tR trivial) λc=>tC c ?_|refine tI (λ_=> ?_) λ_=> ?_
theorem step_tot {E:Nat} {i:Aa} {s:AL} {P:Int->Prop} (d:TH E s) (g:∀x∈s.CS,∀k∈x,P k) (S:E≤100000) (u:s.CS.length=s.CY.length) (K:jJ i.Op=true):Bx (EM i s) λr=>r.2=true->(TH E r.1/\r.1.CS.length=r.1.CY.length)/\r.1.AH=s.AH/\∀x∈r.1.CS,∀k∈x,P k:=by
 have N:∀{x} {P:AL×Bool->Prop},Bx (some (x,false)) λr:AL×Bool=>r.2=true->P r:=tR λh=>by cases h
 have l:=d.e;have w:=d.r;have B:=d.t;have o:∀v ok t,0≤i.A/\i.A<s.CY.length->TB s.AH t->(∀k∈t,P k)->Bx (EM.J3 i s v ok t) λr=>r.2=true->(TH E r.1/\r.1.CS.length=r.1.CY.length)/\r.1.AH=s.AH/\∀x∈r.1.CS,∀k∈x,P k:=by
  intro v ok t J m p
  have:=m.len l.1;unfold EM.J3;refine tC (BM (by omega)) (tG J λ_ _=>tG (by omega) λ_ _=>tR λ_=>⟨⟨⟨by simpa using w,by simpa using B,?_,l⟩,by simpa using u⟩,rfl,?_⟩)
  . intro x a;rcases AAs a with a|rfl
    . exact d.b x a
    . exact m
  . intro x a;rcases AAs a with a|rfl
    . exact g x a
    . exact p
 have L:(∀y∈rg i,0≤y/\y<s.CY.length)->Bx (EM.J2 i s) λr=>r.2=true->(TH E r.1/\r.1.CS.length=r.1.CY.length)/\r.1.AH=s.AH/\∀x∈r.1.CS,∀k∈x,P k:=by
  intro c;unfold EM.J2;refine tI (λ_=>tR λ_=>⟨⟨⟨w,B,d.b,l⟩,u⟩,rfl,g⟩) λR=>tI (λD=> ?_) λM=>tI (λG=> ?_) λO=>tI (λH=> ?_) λQ=> ?_
  . simp only[rg1 (eq_of_beq D),AAj,forall_eq]at c;exact o _ _ _ c ⟨List.Pairwise.nil,by simp⟩ (by simp)
  . simp only[rg2 (eq_of_beq G),AAp,ABG,ABD,forall_eq_or_imp,forall_eq]at c;exact tG c.2 λ_ _=>tG (by omega) λx a=>o _ _ _ c.1 (d.b x a) (g x a)
  . simp only[rg3 (eq_of_beq H),AAp,ABG,ABD,forall_eq_or_imp,forall_eq]at c;exact IX (S9 _) λ_=>tG c.2 λ_ _=>IX (rI _ _) λ_=>tG (by omega) λx a=>o _ _ _ c.1 (d.b x a) (g x a)
  . have I:i.Op=4:=(by simp[jJ]at K R M O Q;omega);simp only[rg4 I,AAp,ABG,ABD,forall_eq_or_imp,forall_eq]at c;refine IX (S9 _) λ_=>tG c.2.1 λ_ _=>tG c.2.2 λ_ _=>IX (kK _ _ _) λ_=>tG (by omega) λx a=>tG (by omega) λy q=> ?_;have U:=(d.b x a).len l.1;have V:=(d.b y q).len l.1;refine tE (eG x y (by omega)) (o _ _ _ c.1 ⟨KC _,λz f=> ?_⟩ λz f=> ?_)
    . rcases AAh.1 ((KF _ _).1 f)with f|f
      . exact(d.b x a).2 z f
      . exact(d.b y q).2 z f
    . rcases AAh.1 ((KF _ _).1 f)with f|f
      . exact g x a z f
      . exact g y q z f
 unfold EM;refine tE (GZ i).1 (Pr (rg i).length (λj (_:Unit)=>∀y∈(rg i).take j,0≤y/\y<(s.CY.length:Int)) (s0:=()) (F:=λn _ j=>EM.AZ i s (rg i) n j) (by have:=(GZ i).2;omega) (by simp) λn j _ T C k=> ?_);unfold EM.AZ EM.L1 EM.J1;refine tD (λ_=>aO (by omega) (tD (λ_=>tI (λ_=>N) λh=>by cases h) λ_=>tD (λ_=>N) λ_=>k () (by omega) (take_one (by omega) C (by omega)))) λ_=>L (YV (by omega) C)
def P0:AL:=⟨0,[],[],0⟩
theorem kW {E:Nat} {c:Av} {s:AL} {P:Int->Prop} (e:TH E s) (l:∀x∈s.CS,∀k∈x,P k) (d:E≤100000) (p:c.Bg.length≤8000000):Bx (DW c s) λr=>TH E r.1/\(r.1=P0∨r.1.AH=s.AH/\∀x∈r.1.CS,∀k∈x,P k):=by
 have Z:TH E P0/\(P0=P0∨P0.AH=s.AH/\∀x∈P0.CS,∀k∈x,P k):=⟨TH.zero E,.inl rfl⟩;have j1:∀b,(b=false->s.CS.length=s.CY.length)->Bx (DW.J1 c s b) λr=>TH E r.1/\(r.1=P0∨r.1.AH=s.AH/\∀x∈r.1.CS,∀k∈x,P k):=by intro b m;unfold DW.J1;refine tI (λ_=>tR Z) λf=>tE (dX e d) (Pr (c.Bg.length+1) (λ_ t=>(TH E t/\t.CS.length=t.CY.length)/\t.AH=s.AH/\∀x∈t.CS,∀k∈x,P k) (F:=λn s j=>DW.AZ c n s j) (by omega) ⟨⟨e,m f⟩,rfl,l⟩ λn i t hi a k=> ?_);unfold DW.AZ DW.L1 DW.J2 DW.J3;refine tD (λ_=>tD (λ_=>tI (λ_=>tR Z) λh=>by cases h) λ_=>tD (λ_=>tR Z) λ_=>tG (by omega) λx _=>tE (P1 _) (tI (λ_=>tR ⟨a.1.1,.inr a.2⟩) λh=>tI (λ_=>tR Z) λ_=> ?_)) λ_=>tR Z;exact tB (step_tot a.1.1 a.2.2 d a.1.2 (by simpa using h)) λv o=>tI (λ_=>tR Z) λh=>k _ (by omega) (by have:=o (by simpa using h);rw[a.2.1]at this;exact this)
 unfold DW;refine tI (λ_=>j1 _ λh=>by cases h) λh=>j1 _ λg=> ?_;simp at h g;omega
def Xa:List KE:=[⟨⟨#[109]⟩,false⟩,⟨⟨#[110]⟩,false⟩,⟨⟨#[114]⟩,true⟩]
def W9:AB:=⟨LA,[],[],[],[],[]⟩
structure WF (T:ABs->Prop) (w:AB):Prop where
 c:w.Cells=LA
 l:w.AF=Xa
 d:w.Ah=[⟨cN,0⟩]
 f:w.AK=[⟨#[102]⟩]
 t:∀s,T s->s∈w.AA
 n:w.AA.length≤4
structure GW (T:ABs->Prop) (g:A6):Prop where
 w:WF T g.w
 l:g.locals=Y4
theorem MH {w:AB} (h:w.Cells=LA) (s:ABs):Bb w s=Bb W9 s:=by
 unfold Bb;have key:∀n i,Bb.AZ s w n i=Bb.AZ s W9 n i:=by
  intro n;induction n with
  |zero=>exactλ_=>rfl
  |succ n ih=>intro i;unfold Bb.AZ Bb.L1;rw[h,show W9.Cells=LA from rfl];simp only[ih]
 exact key _ _
theorem Zr {a:Type} {l:List a} {i:Int} {x:a} (h:gt l i=some x):0≤i/\i<l.length:=by
 unfold gt at h;split at h
 . have:=(AAS.1 h).1;omega
 . cases h
theorem Ih {i n:Int} (h:0≤i/\i<n):DS i n=some true:=by unfold DS DS.J1;simp[h.1,h.2]
theorem nL {w:AB} {x:Aa} (h:x.Op∈[(1:Int),2,5,10,17,18,19,20]):AM w x=some true:=by simp only[AAp,ABG,ABD]at h;rcases h with h|h|h|h|h|h|h|h<;>simp[AM,AM.J3,AM.J5,AM.J7,AM.J8,h]
theorem obj4 {w:AB} {x:Aa} (h:x.Op=4) (hn:6≤x.N/\x.N≤18):AM w x=some true:=by simp[AM,AM.J3,AM.J5,AM.J7,AM.J8,AM.Rw,h,hn.1,hn.2]
theorem obj6 {w:AB} {x:Aa} {y:DT} (h:x.Op=6) (a:gt w.Cells x.B=some y) (b:y.B7=0):AM w x=some true:=by simp[AM,AM.J1,h,Ih (Zr a),a,b]
theorem obj8 {w:AB} {x:Aa} {y:DT} (h:x.Op=8) (a:gt w.Cells x.A=some y) (b:y.B7=0):AM w x=some true:=by simp[AM,AM.J2,h,Ih (Zr a),a,b]
theorem eR {w:AB} {b n:Int} {y:DT} (a:gt w.Cells b=some y) (hi:y.Index=0) (c:y.B7≠0) (hn:y.B7=n):En w b n=some true:=by subst hn;simp[En,En.J1,Ih (Zr a),a,hi,c]
theorem obj7 {w:AB} {x:Aa} {y:DT} (h:x.Op=7) (b:gt w.Cells x.B=some y) (hi:y.Index=0) (a:y.B7≠0) (hn:y.B7=x.N):AM w x=some true:=by simp[AM,h,eR b hi a hn]
theorem obj9 {w:AB} {x:Aa} {y:DT} (h:x.Op=9) (b:gt w.Cells x.A=some y) (hi:y.Index=0) (a:y.B7≠0) (hn:y.B7=x.N):AM w x=some true:=by simp[AM,h,eR b hi a hn]
theorem objM {w:AB} {x:Aa} {y:KE} (h:x.Op=11∨x.Op=12) (a:gt w.AF x.A=some y) (b:y.RW=false):AM w x=some true:=by rcases h with h|h<;>simp[AM,AM.J3,AM.J4,h,Ih (Zr a),a,b]
theorem objR {w:AB} {x:Aa} {y:KE} (h:x.Op=13∨x.Op=14∨x.Op=15∨x.Op=16) (a:gt w.AF x.A=some y) (b:y.RW=true):AM w x=some true:=by rcases h with h|h|h|h<;>simp[AM,AM.J3,AM.J5,AM.J6,h,Ih (Zr a),a,b]
theorem objC {w:AB} {x:Aa} (h:x.Op=21∨x.Op=22∨x.Op=23) (a:0≤x.A/\x.A<w.Ah.length):AM w x=some true:=by rcases h with h|h|h<;>simp[AM,AM.J3,AM.J5,AM.J7,h,Ih a]
theorem objT {w:AB} {x:Aa} (h:x.Op=24∨x.Op=25) (a:0≤x.A/\x.A<w.AA.length):AM w x=some true:=by rcases h with h|h<;>simp[AM,AM.J3,AM.J5,AM.J7,AM.J8,h,Ih a]
theorem obj26 {w:AB} {x:Aa} (h:x.Op=26) (a:0≤x.A/\x.A<w.AK.length):AM w x=some true:=by simp[AM,AM.J3,AM.J5,AM.J7,AM.J8,h,Ih a]
theorem obj27 {w:AB} {x:Aa} (h:x.Op=27) (a:0≤x.B/\x.B<w.AK.length):AM w x=some true:=by simp[AM,AM.J3,AM.J5,AM.J7,AM.J8,h,Ih a]
theorem rg0 {i:Aa} (h:i.Op=5∨11≤i.Op/\i.Op≤25∨i.Op=28):rg i=[]:=by have n:∀k:Int,i.Op≠k->(i.Op==k)=false:=λk h=>ABZ.2 h;unfold rg AW AW.J1 AW.J2 AW.J3;simp[n 1 (by omega),n 2 (by omega),n 3 (by omega),n 4 (by omega),n 6 (by omega),n 7 (by omega),n 8 (by omega),n 9 (by omega),n 10 (by omega),n 26 (by omega),n 27 (by omega)]
def NameF (x:ABs):Prop:=(∃e,CF Y4 x=some e/\0≤e/\e<2)∨(∃e,CF Y4 x=some e/\e<0)/\∃c y,Bb W9 x=some c/\gt LA c=some y/\y.B7=0
theorem name_f {x:ABs} (h:x∈vN):NameF x:=by
 unfold vN at h;simp only[AAp,ABG,ABD]at h;rcases h with rfl|rfl|rfl|rfl|rfl
 . exact .inl ⟨0,by decide +kernel,by omega,by omega⟩
 . exact .inl ⟨1,by decide +kernel,by omega,by omega⟩
 . exact .inr ⟨⟨-1,by decide +kernel,by omega⟩,0,_,by decide +kernel,rfl,rfl⟩
 . exact .inr ⟨⟨-1,by decide +kernel,by omega⟩,1,_,by decide +kernel,rfl,rfl⟩
 . exact .inr ⟨⟨-1,by decide +kernel,by omega⟩,2,_,by decide +kernel,rfl,rfl⟩
theorem q_at:Bb W9 qS=some 3:=by decide +kernel
structure GV (g r:A6) (lo hi:Int):Prop where
 w:r.w=g.w
 l:r.locals=g.locals
 n:g.out.length≤r.out.length
 p:∀i,i<g.out.length->r.out[i]? =g.out[i]?
 s:SG g.w lo hi r.out g.out.length r.out.length r.out.length
section
variable {T:ABs->Prop} {g h r:A6} {lo hi lo' hi':Int}
theorem GV.refl:GV g g lo hi:=⟨rfl,rfl,AAv _,λ_ _=>rfl,SG.nil (AAv _)⟩
theorem GV.trans (a:GV g h lo hi) (b:GV h r lo hi):GV g r lo hi:=by
 have c:=a.n;have e:=b.n;refine⟨b.w.trans a.w,b.l.trans a.l,by omega,λi hi=>(b.p i (by omega)).trans (a.p i hi),(a.s.frame (l':=r.out) (d:=r.out.length) (λi _ hi=>(b.p i hi).symm) (by omega) (by omega) (by omega) (by omega)).app ?_⟩
 have:=b.s;rw[a.w]at this;exact this
theorem GV.mono (a:GV g r lo hi) (b:lo'≤lo) (c:hi≤hi'):GV g r lo' hi':=⟨a.w,a.l,a.n,a.p,a.s.mono b c (AAv _)⟩
theorem GV.site (a:GV g r lo hi) (s n:Int):GV g ⟨r.w,r.locals,r.out,s,n⟩ lo hi:=⟨a.w,a.l,a.n,a.p,a.s⟩
theorem GW.next (a:GW T g) (b:GV g r lo hi):GW T r:=⟨by rw[b.w];exact a.w,b.l.trans a.l⟩
theorem GW.site (a:GW T g) (s n:Int):GW T ⟨g.w,g.locals,g.out,s,n⟩:=⟨a.w,a.l⟩
theorem put_eq (i:Aa):MA (A3 g i) λr=>r=⟨g.w,g.locals,g.out++[⟨i.Op,i.A,i.B,i.C,i.N,g.site⟩],g.site,g.next⟩:=by unfold A3;exact pC λ_=>pR rfl
theorem GV.put {x:Aa} {s n:Int} (b:LV g.w lo hi (g.out.length+1) x) (a:x.Op≠5):GV g ⟨g.w,g.locals,g.out++[x],s,n⟩ lo hi:=by refine⟨rfl,rfl,by simp,λi hi=>by simp only;rw[AAr hi],?_⟩;simp only[AAz,AA4,ABM];exact SG.one (by simp) b a
abbrev GK (g r:A6) (lo hi:Int):Prop:=GV g r lo hi/\r.site=g.site/\r.next=g.next
theorem qO {i:Aa} (b:LV g.w lo hi (g.out.length+1) ⟨i.Op,i.A,i.B,i.C,i.N,g.site⟩) (a:i.Op≠5):MA (A3 g i) λr=>GK g r lo hi:=
 pM (put_eq i) λ_ e=>by subst e;exact⟨GV.put b a,rfl,rfl⟩
theorem IL {i:Aa} (b:LV g.w lo hi (g.out.length+1) ⟨i.Op,i.A,i.B,i.C,i.N,g.site⟩) (a:i.Op≠5):MA ((A3 g i).bind λv=>some v) λr=>GK g r lo hi:=pB (qO b a) λ_ h=>pR h
theorem GK.trans (a:GK g h lo hi) (b:GK h r lo hi):GK g r lo hi:=⟨a.1.trans b.1,b.2.1.trans a.2.1,b.2.2.trans a.2.2⟩
theorem QE {x r:Int} (h:0≤r/\r<32):∀y∈[r],0≤y/\y<32:=λy a=>by rw[AAj.1 a];exact h
theorem WE {r s:Int} (h:0≤r/\r<32) (k:0≤s/\s<32):∀y∈[r,s],0≤y/\y<32:=λy a=>by
 simp only[AAp,ABG,ABD]at a;rcases a with rfl|rfl
 . exact h
 . exact k
theorem wA (d:Nat):∀(n:Nat) (g:A6) (e:A7) (r:Int),S5 d e->GW T g->(lo≤g.site/\g.site<hi)->0≤r/\r+d≤32->MA (Cb n g e r) λv=>GK g v lo hi:=by
 induction d with
 |zero=>exactλn g e r h=>h.elim
 |succ d ih=>
  intro n g e r H m j P;cases n with
  |zero=>exact pN
  |succ n=>
  have i:0≤r/\r<32:=by omega
  show MA (GN (Cb n) g e r) _;unfold GN;rcases H with⟨f,_⟩|⟨f,_,hn⟩|⟨f,F,a,t,s⟩|⟨f,a,b,t,s,G⟩
  . simp only[f];exact pI (λ_=>IL ⟨by simp,nL (by simp),by rw[rg1 rfl];exact QE (x:=0) i,j,by simp,by simp⟩ (by simp)) λh=>by cases h
  . simp only[f];refine pI (λh=>by cases h) λ_=>pI (λ_=> ?_) λh=>(by cases h);rw[m.l];rcases name_f hn with⟨k,z,K,Q⟩|⟨⟨k,z,K⟩,c,y,C,D,E⟩
    . exact pE z (pD (λ_=>IL ⟨by simp,nL (by simp),by rw[rg2 rfl];exact WE i (by simp only;omega),j,by simp,by simp⟩ (by simp)) λh=>by omega)
    . refine pE z (pD (λh=>by omega) λ_=>pE ((MH m.w.c _).trans C) (IL ⟨by simp,obj6 rfl (y:=y) (by rw[m.w.c];exact D) E,by rw[rg6 rfl];exact QE (x:=0) i,j,by simp,by simp⟩ (by simp)))
  . simp only[f,t];refine pI (λh=>by cases h) λ_=>pI (λh=>by cases h) λ_=>pI (λ_=>pE (y:=a) rfl ?_) λh=>(by cases h);refine pB (ih n g a r s m j (by omega)) λv p=> ?_;have o:=m.next p.1;rw[F];refine pE ((MH o.w.c _).trans q_at) (pE (y:=⟨⟨#[113]⟩,0,2,false,0⟩) (by rw[o.w.c];rfl) ?_);exact pM (IL ⟨by simp,obj7 rfl (y:=⟨⟨#[113]⟩,0,2,false,0⟩) (by rw[o.w.c];rfl) rfl (by simp) rfl,by rw[rg7 rfl];exact WE i i,by simp only;rw[p.2.1];exact j,by simp,by simp⟩ (by simp)) λ_ h=>p.trans h
  . have L:e.Op≠1:=λh=>(by rw[h]at f;simp at f);have M:e.Op≠2:=λh=>(by rw[h]at f;simp at f);have N:e.Op≠3:=λh=>(by rw[h]at f;simp at f);have O:6≤e.Op/\e.Op≤18:=(by simp only[AAp,ABG,ABD]at f;omega);rw[AAZ (by simpa using L),AAZ (by simpa using M),AAZ (by simpa using N),t];have B:Ay (r+1)=r+1:=CX (by omega) (by omega);refine pI (λh=>by cases h) λ_=>pE (y:=a) rfl (pB (ih n g a r s m j (by omega)) λv p=>pE (y:=b) rfl (pB (ih n v b _ G (m.next p.1) (by rw[p.2.1];exact j) (by rw[B];omega)) λu I=> ?_));rw[B];have q:=p.trans I;by_cases hd:d=0
    . subst hd;exact s.elim
    exact pM (IL ⟨by simp,obj4 rfl O,by rw[rg4 rfl];intro y J;simp only[AAp,ABG,ABD]at J;omega,by simp only;rw[q.2.1];exact j,by simp,by simp⟩ (by simp)) λ_ h=>q.trans h
theorem Tt {e:A7} (a:S5 2 e) (b:GW T g) (c:lo≤g.site/\g.site<hi) {r:Int} (d:0≤r/\r≤30):MA (Cb BU g e r) λv=>GK g v lo hi:=wA 2 _ g e r a b c (by omega)
theorem lH (f:GW T g) (i:lo≤g.site/\g.site<hi) {k:Nat} {s:AP} (m:ID T (k+1) s) (n:s.Op=1):MA (FW g s) λr=>GK g r lo hi:=by
 have o:S5 2 s.Expr:=m.2.2.1.resolve_right λh=>h.1 (by simp[n]);have q:(g.locals.length:Int)=2:=by rw[f.l];rfl
 unfold FW;rw[q];rcases m.2.1 with h|⟨_,t,a,h,p⟩
 . rw[h];refine pI (λh=>by cases h) λ_=>pB (Tt o f i (by omega)) λv b=> ?_;have d:=f.next b.1;have j:lo≤v.site/\v.site<hi:=(by rw[b.2.1];exact i);rw[d.l];rcases name_f (m.2.2.2.2.2.2.2.2.2.1 n h)with⟨c,k1,k2,k3⟩|⟨⟨c,k1,k2⟩,c,y,c1,c2,c3⟩
   . exact pE k1 (pD (λ_=>pM (IL ⟨by simp,nL (by simp),by rw[rg2 rfl];exact WE (by simp only;omega) (by simp),j,by simp,by simp⟩ (by simp)) λ_ h=>b.trans h) λh=>by omega)
   . refine pE k1 (pD (λh=>by omega) λ_=>pE ((MH d.w.c _).trans c1) (pM (IL ⟨by simp,obj8 rfl (y:=y) (by rw[d.w.c];exact c2) c3,by rw[rg8 rfl];exact QE (x:=0) (by simp),j,by simp,by simp⟩ (by simp)) λ_ h=>b.trans h))
 . rw[h];refine pI (λ_=>pE (y:=a) rfl ?_) λh=>(by cases h);rw[show Ay (2+1)=3 from rfl];refine pB (Tt p f i (by omega)) λv b=>pB (Tt o (f.next b.1) (by rw[b.2.1];exact i) (by omega)) λu z=> ?_;have e:=b.trans z;have d:=f.next e.1;have j:lo≤u.site/\u.site<hi:=(by rw[e.2.1];exact i);rw[t];refine pE ((MH d.w.c _).trans q_at) (pE (y:=⟨⟨#[113]⟩,0,2,false,0⟩) (by rw[d.w.c];rfl) ?_);exact pM (IL ⟨by simp,obj9 rfl (y:=⟨⟨#[113]⟩,0,2,false,0⟩) (by rw[d.w.c];rfl) rfl (by simp) rfl,by rw[rg9 rfl];exact WE (by simp) (by simp),j,by simp,by simp⟩ (by simp)) λ_ h=>e.trans h
end
theorem zG {l:List DT} (r:l.length≤12) {L:List ABs->Int->ABr (List ABs×Bool)} {i:Nat} {names:List ABs} {x:DT} {v:List ABs×Bool} (q:1≤x.B7/\x.B7≤4) (hi:(i:Int)+x.B7≤l.length) (p:v.2=true):
 ∀(n t:Nat) (d:DT),d.B7=x.B7->(t:Int)≤x.B7->AU.Cf L i l names x n d t=some v->
 (∀k:Nat,t≤k->(k:Int)<x.B7->∃c,l[i+k]? =some c/\c.Index=k/\c.B7=x.B7)/\L (names++[x.Name]) (i+x.B7)=some v:=by
 intro n;induction n with
 |zero=>intro t d _ _ h;cases h
 |succ n ih=>
  intro t d g s h;unfold AU.Cf AU.L2 at h;by_cases j:(t:Int)<x.B7
  . rw[BG j,CX (n:=(i:Int)+t) (by omega) (by omega),show(i:Int)+t=((i+t:Nat):Int)from by omega,Cw (by omega),AAP]at h;split at h
    . cases h;cases p
    . rename_i f;rw[Ao (by omega)]at h;obtain⟨a,b⟩:=ih (t+1) ⟨d.Name,t,d.B7,d.F6,d.Init⟩ g (by omega) h;refine⟨λk o m=> ?_,b⟩;by_cases e:k=t
      . subst e;refine⟨l[i+k],AAV (by omega),?_⟩;simp only[ABA,Bool.not_eq_false,AAR,AAg]at f;exact⟨f.2.1,f.2.2.1.trans g⟩
      . exact a k (by omega) m
  . rw[Ad j]at h;unfold AU.J2 at h;rw[g,CX (by omega) (by omega)]at h;exact⟨λk o m=>by omega,h⟩
theorem sH {l:List DT} (E:l.length≤12) {v:List ABs×Bool} (m:v.2=true):∀(n i:Nat) (names:List ABs),names.length≤i->i≤l.length->AU.AZ l n names i=some v->
 ∀(b:Nat) (c:DT),i≤b->l[b]? =some c->c.Index=0->c.B7≠0->(1≤c.B7/\c.B7≤4)/\∀k:Nat,(k:Int)<c.B7->∃d,l[b+k]? =some d/\d.B7≠0:=by
 intro n;induction n with
 |zero=>intro i names _ _ h;cases h
 |succ n ih=>
  intro i names hn C h b c K f s g;have B:=(AAS.1 f).1;unfold AU.AZ AU.L1 at h;have hi:i<l.length:=by omega
  rw[BG (by omega),Cw hi,AAP,BO (by omega)]at h;have o:l[i]? =some l[i]:=AAV hi;generalize l[i]=x at h o;by_cases e:x.B7=0
  . rw[AAa (by simpa using e)]at h;split at h
    . cases h;cases m
    . rw[Ao (by omega)]at h;by_cases q:b=i
      . subst q;rw[o]at f;cases f;exact absurd e g
      . exact ih (i+1) _ (by simp;omega) (by omega) h b c (by omega) f s g
  . rw[AAZ (by simpa using e)]at h;have J:∀t,AU.J1 (AU.AZ l n) i l names x t=some v->t=false/\AU.Cf (AU.AZ l n) i l names x BU x 0=some v:=by
     intro t j;unfold AU.J1 at j;cases t with
     |true=>cases j;cases m
     |false=>exact⟨rfl,j⟩
    have key:(1≤x.B7/\x.B7≤4)/\(i:Int)+x.B7≤l.length/\AU.Cf (AU.AZ l n) i l names x BU x 0=some v:=by
     rw[CX (n:=(l.length:Int)-i) (by omega) (by omega)]at h;split at h
     . exact absurd (J _ h).1 (by simp)
     . rename_i w;split at h
       . exact absurd (J _ h).1 (by simp)
       . rename_i y;split at h
         . exact absurd (J _ h).1 (by simp)
         . obtain⟨H,I⟩:=J _ h;simp at w y H;exact⟨by omega,by omega,I⟩
    obtain⟨u,F,G⟩:=key;obtain⟨a,r⟩:=zG E u F m BU 0 x rfl (by omega) G;by_cases q:(b:Int)<i+x.B7
    . obtain⟨d,d1,z,p⟩:=a (b-i) (by omega) (by omega);rw[show i+(b-i)=b from by omega,f]at d1;cases d1;have:b=i:=(by omega);subst this;rw[o]at f;cases f;refine⟨u,λk D=> ?_⟩;obtain⟨d,d1,z,p⟩:=a k (by omega) D;exact⟨d,d1,by rw[p];exact g⟩
    . rw[show(i:Int)+x.B7=((i+x.B7.toNat:Nat):Int)from by omega]at r;exact ih (i+x.B7.toNat) _ (by simp;omega) (by omega) r b c (by omega) f s g
theorem rP {w:AB} (a:Cz w=true) {b n:Int} (h:Q7 w b n):(1≤n/\n≤4)/\∀k,0≤k->k<n->∃d,gt w.Cells (b+k)=some d/\d.B7≠0:=by
 have o:=(DJ a).c;obtain⟨x,e,i,p,hn⟩:=h;have t:0≤b:=by
  unfold gt at e;split at e
  . assumption
  . cases e
 obtain⟨m,rfl⟩:∃m:Nat,b=m:=⟨b.toNat,by omega⟩;rw[JN]at e;have l:∃v,AU w.Cells=some v/\v.2=true:=by
  unfold Cz at a;cases hv:AU w.Cells with
  |none=>simp[hv]at a
  |some v=>simp[hv]at a;exact⟨v,rfl,a.2.1.1.1⟩
 obtain⟨v,r,s⟩:=l;obtain⟨f,g⟩:=sH o s BU 0 [] (by simp) (by omega) r m x (by omega) e i p;rw[hn]at f g;refine⟨f,λk u q=> ?_⟩;obtain⟨j,rfl⟩:∃j:Nat,k=j:=⟨k.toNat,by omega⟩;rw[show(m:Int)+j=((m+j:Nat):Int)from by omega,JN];exact g j q
structure FT (c:BL) (s:Ai):Prop where
 v:VC c
 f:GY c.World s.Sync=true
 c':s.Cells.length=c.World.Cells.length
 u:s.AK.length=c.World.AK.length
 n:s.AA.length=c.AA.length
 t:∀(i:Nat) x y,s.AA[i]? =some x->c.AA[i]? =some y->(0≤x.PC/\x.PC<y.Bg.length)/\(x.CY.length:Int)=y.CY/\(x.CS.length:Int)=y.CY
theorem zY {c:BL} (p:CK c) (s:Ai):Bx (Eh c s) λb=>b=true->FT c s:=by
 have N:∀{C:Prop},Bx (some false) λb:Bool=>b=true->C:=tR λh=>by cases h
 have hn:=p.n;have j1:∀b,(b=false->VC c/\GY c.World s.Sync=true/\s.Cells.length=c.World.Cells.length/\s.AK.length=c.World.AK.length/\s.AA.length=c.AA.length)->Bx (Eh.J1 c s b) λb=>b=true->FT c s:=by
  intro b B;unfold Eh.J1;refine tI (λ_=>N) λu=> ?_;obtain⟨g,l,m,o,z⟩:=B u;refine Pr c.AA.length (λi (_:Unit)=>∀(j:Nat) x y,j<i->s.AA[j]? =some x->c.AA[j]? =some y->(0≤x.PC/\x.PC<y.Bg.length)/\(x.CY.length:Int)=y.CY/\(x.CS.length:Int)=y.CY) (s0:=()) (F:=λn _ i=>Eh.AZ c s n i) (by omega) (λj _ _ h=>by omega) λn i _ hi q k=> ?_;unfold Eh.AZ Eh.L1 Eh.J2 Eh.J3;refine tD (λ_=>aO (by omega) (tD (λ_=>tI (λ_=>N) λh=>by cases h) λE=>aO (by omega) (tD (λ_=>tI (λ_=>N) λh=>by cases h) λG=>tI (λ_=>tI (λ_=>N) λh=>by cases h) λr=>tI (λ_=>N) λt=>k () (by omega) ?_))) λ_=>tR λ_=>⟨g,l,m,o,z,λj x y d a=>q j x y ?_ d a⟩
  . intro j x y D d a;by_cases e:j<i
    . exact q j x y e d a
    . obtain rfl:j=i:=(by omega);rw[AAV (by omega)]at d a;rw[← AAU d,← AAU a];simp at r t;exact⟨by omega,r,t⟩
  . have:=(AAS.1 a).1;omega
 unfold Eh;refine tB (P2 p) λv f=>tI (λ_=>j1 _ λh=>by cases h) λh=> ?_;have f:=f (by simpa using h);refine tE (Ly _ (DJ f.w) _) (tI (λ_=>j1 _ λh=>by cases h) λg=>tI (λ_=>j1 _ λh=>by cases h) λl=>tI (λ_=>j1 _ λh=>by cases h) λm=>j1 _ λo=>⟨f,by simpa using g,?_,?_,?_⟩)
 . simp at l;omega
 . simp at m;omega
 . simp at o;omega
theorem ZT (i n:Int):Bx (Gh i n) λv=>1≤n/\n≤4->0≤v/\v<n:=by
 unfold Gh Gh.J1;refine tD (λ_=>tR (by omega)) λh=>tC (by omega) (tD (λa=>tR λb=> ?_) λa=>tR λb=> ?_)
 . have:=Int.lt_tmod_of_pos i (show 0<n by omega);rw[CX (by omega) (by omega)];omega
 . have:=Int.tmod_lt_of_pos i (show 0<n by omega);omega
def kindL:List Int:=[3,3,4,4,5,6,7,8,9,10,11,12,13,14,15,16,18,19,20,21,22,23,2]
def KO (o k:Int):Prop:=((k=3->o=6∨o=7)/\(k=4->o=8∨o=9)/\(k=5->o=10)/\(k=22->o=26)/\(k=23->o=27)/\(k=2↔o=28)/\(k=16->o=21)/\k≠1/\k≠17)/\(o=7->k=3)/\(o=9->k=4)/\(o=10->k=5)/\(o=8->k=4)/\(o=26->k=22)
instance (o k:Int):Decidable (KO o k):=by unfold KO;infer_instance
theorem gP:∀n:Fin 23,KO ((n.1:Int)+6) kindL[n.1]:=by decide
theorem kind_tot {o:Int} (h:1≤o/\o≤28):Bx (Hr o) λk=>k=0∨KO o k:=by
 unfold Hr Hr.J1;refine tD (λ_=>tI (λ_=>tR (.inl rfl)) λh=>by cases h) λb=>tD (λh=>by omega) λ_=> ?_;rw[CX (by omega) (by omega)];obtain⟨n,hn⟩:∃n:Nat,o-6=n:=⟨(o-6).toNat,by omega⟩;rw[hn];have a:n<23:=by omega
 refine aO (l:=kindL) a (tR (.inr ?_))
 have:=gP ⟨n,a⟩;simp only at this;rw[show(n:Int)+6=o from by omega]at this;exact this
theorem nN {i:Aa} {t:AL} (e:i.Op=7∨i.Op=9->0≤i.C/\i.C<t.CY.length):
 Bx (E8 i t) λo=>(i.Op=7->∃v,o=Ay (i.B+v)/\(1≤i.N/\i.N≤4->0≤v/\v<i.N))/\(i.Op=9->∃v,o=Ay (i.A+v)/\(1≤i.N/\i.N≤4->0≤v/\v<i.N)):=by
 have T:∀{o:ABr Int},TT o->i.Op≠7->i.Op≠9->Bx o λo=>(i.Op=7->∃v,o=Ay (i.B+v)/\(1≤i.N/\i.N≤4->0≤v/\v<i.N))/\(i.Op=9->∃v,o=Ay (i.A+v)/\(1≤i.N/\i.N≤4->0≤v/\v<i.N)):=λh a b=>tM h λ_ _=>⟨λh=>absurd h a,λh=>absurd h b⟩;have j1:∀b,(b=true->i.Op≠7/\i.Op≠9)->Bx (E8.J1 i t b) λo=>(i.Op=7->∃v,o=Ay (i.B+v)/\(1≤i.N/\i.N≤4->0≤v/\v<i.N))/\(i.Op=9->∃v,o=Ay (i.A+v)/\(1≤i.N/\i.N≤4->0≤v/\v<i.N)):=by
  intro b f;unfold E8.J1 E8.J2;refine tI (λh=>T (tR trivial) (f h).1 (f h).2) λ_=>tI (λh=>tG (e (.inl (eq_of_beq h))) λ_ _=>tB (ZT _ _) λv d=>tR ⟨λ_=>⟨v,rfl,d⟩,λc=> ?_⟩) λg=>tI (λh=>tG (e (.inr (eq_of_beq h))) λ_ _=>tB (ZT _ _) λv d=>tR ⟨λc=> ?_,λ_=>⟨v,rfl,d⟩⟩) λj=>T ?_ (by simpa using g) (by simpa using j)
  . rw[eq_of_beq h]at c;cases c
  . rw[eq_of_beq h]at c;cases c
  . repeat' first|exact tR trivial|refine tI (λ_=> ?_) λ_=> ?_
 unfold E8;refine tI (λh=>j1 _ λ_=> ?_) λ_=>j1 _ λh=> ?_<;>rw[eq_of_beq h]<;>decide
def oQ (e:AE):Prop:=e.DE.length≤100000/\e.C2.length≤100000
structure PI (w:AB) (x:AL) (y:Av) (z:Aa) (q:AG) (e:AE):Prop where
 a:e.Kind=3∨e.Kind=23∨e.Kind=5->0≤z.A/\z.A<y.CY
 b:e.Kind=4∨e.Kind=22->0≤z.B/\z.B<y.CY
 d:e.DE=[]∨e.DE∈x.CS/\(e.Kind=5∨(e.Kind=3∨e.Kind=4)/\(ix w.Cells e.Obj).B7≠0)
 r:e.C2=[]∨e.C2∈x.CS/\(e.Kind=4∨e.Kind=22)
 s:e.Kind=1/\e.Site= -1∨(q.Status=4/\e.Kind=17∨q.Status=2/\(e.Kind=2↔z.Op=28)/\e.Kind≠1/\e.Kind≠17/\(e.Kind=16->z.Op=21))/\e.Site=z.Site
 j:e.Kind=5->z.Op=10
structure PE (c:BL) (s:Ai) (th:Int) (e:AE):Prop where
 f:FT c s
 t:0≤th/\th<c.AA.length
 l:oQ e
 h:e.Thread=th
 i:∀x y z q,s.AA[th.toNat]? =some x->c.AA[th.toNat]? =some y->y.Bg[x.PC.toNat]? =some z->s.Sync.AA[th.toNat]? =some q->PI c.World x y z q e
theorem pX {a:Type} [Inhabited a] {l:List a} {i:Int} {x:a} (h:gt l i=some x):ix l i=x:=by
 unfold gt at h;split at h
 . unfold ix;rw[h];rfl
 . cases h
theorem eD {E:Nat} {c:BL} (hc:CK c) {s:Ai} (hs:∀t∈s.AA,TH E t) (hE:E≤100000) (th:Int):Bx (CW c s th) λr=>r.2=true->PE c s th r.1:=by
 have N:∀{x} {P:AE×Bool->Prop},Bx (some (x,false)) λr:AE×Bool=>r.2=true->P r:=tR λh=>by cases h
 have j1:∀b,(b=false->FT c s/\0≤th/\th<c.AA.length)->Bx (CW.J1 c s th b) λr=>r.2=true->PE c s th r.1:=by
  intro b K;unfold CW.J1;refine tI (λ_=>N) λh0=> ?_;obtain⟨G,ht⟩:=K h0;obtain⟨_,_,l3⟩:=EY G.f;have hn:=G.n;have hn2:=G.v.n;obtain⟨x,x1,x2,x3⟩:=Ho (l:=s.AA) (i:=th) (by omega);obtain⟨y,y1,y2,y3⟩:=Ho (l:=c.AA) (i:=th) (by omega);obtain⟨p1,p2,p3⟩:=G.t _ x y x2 y2;obtain⟨z,z1,z2,z3⟩:=Ho (l:=y.Bg) (i:=x.PC) (by omega);obtain⟨q,q1,q2,q3⟩:=Ho (l:=s.Sync.AA) (i:=th) (by omega);have S:=(G.v.t _ y y2).i z z3;have ho:=S.o;have u:=S.g;have W:=hs x x3;have J:∀q∈x.CS,q.length≤100000:=λq m=>by have:=(W.b q m).len W.e.1;have:=W.e.2;omega
  refine tE x1 (tE y1 (tE z1 (tE q1 ?_)));have I:∀e:AE,oQ e->e.Thread=th->PI c.World x y z q e->PE c s th e:=by intro e p j L;refine⟨G,ht,p,j,λx' y' z' q' K7 Q R O=> ?_⟩;rw[x2]at K7;rw[y2]at Q;rw[q2]at O;obtain rfl:=AAU K7;obtain rfl:=AAU Q;obtain rfl:=AAU O;rw[z2]at R;obtain rfl:=AAU R;exact L
  refine tI (λ_=>tR λ_=>I _ ⟨by simp,by simp⟩ rfl ⟨by simp,by simp,.inl rfl,.inl rfl,.inl ⟨rfl,rfl⟩,by simp⟩) λ_=>tI (λh=>tR λ_=>I _ ⟨by simp,by simp⟩ rfl ⟨by simp,by simp,.inl rfl,.inl rfl,.inr ⟨.inl ⟨eq_of_beq h,rfl⟩,rfl⟩,by simp⟩) λ_=>tI (λT=> ?_) λ_=>N;have T:=eq_of_beq T;refine tB (kind_tot ho) λk V=> ?_;have hC:z.Op=7∨z.Op=9->0≤z.C/\z.C<y.CY:=by
   rintro(h|h)
   . simp[rg7 h]at u;omega
   . simp[rg9 h]at u;omega
  have hB:z.Op=8∨z.Op=9∨z.Op=26->0≤z.B/\z.B<y.CY:=by
   rintro(h|h|h)
   . simp[rg8 h]at u;omega
   . simp[rg9 h]at u;omega
   . simp[rg26 h]at u;omega
  have hA:z.Op=6∨z.Op=7∨z.Op=10∨z.Op=27->0≤z.A/\z.A<y.CY:=by
   rintro(h|h|h|h)
   . simp[rg6 h]at u;omega
   . simp[rg7 h]at u;omega
   . simp[rg10 h]at u;omega
   . simp[rg27 h]at u;omega
  refine tB (nN λh=>by have:=hC h;omega) λo H=>tI (λ_=>N) λfT=> ?_;have V:=V.resolve_left (by simpa using fT);obtain⟨⟨a1,a2,a3,a4,a5,a6,a7,a8,a9⟩,b1,b2,b3,b4,b5⟩:=V;have U:z.Op=7∨z.Op=9->(k=3∨k=4)/\(ix c.World.Cells o).B7≠0:=by
   have key:∀b v,Q7 c.World b z.N->o=Ay (b+v)->(1≤z.N/\z.N≤4->0≤v/\v<z.N)->(ix c.World.Cells o).B7≠0:=by
    intro b v p j L;obtain⟨n1,n2⟩:=rP G.v.w p;obtain⟨d,d1,d2⟩:=n2 v (L n1).1 (L n1).2;have hd:=d1;unfold gt at hd;split at hd
    . have:=(AAS.1 hd).1
      have:=(DJ G.v.w).c;rw[j,CX (by omega) (by omega),pX d1];exact d2
    . cases hd
   rintro(h|h)
   . obtain⟨v,v1,v2⟩:=H.1 h;exact⟨.inl (b1 h),key _ v (S.a.1 h) v1 v2⟩
   . obtain⟨v,v1,v2⟩:=H.2 h;exact⟨.inr (b2 h),key _ v (S.a.2 h) v1 v2⟩
  have mk:∀D F,(D=[]∨D∈x.CS/\(k=5∨(k=3∨k=4)/\(ix c.World.Cells o).B7≠0))->(F=[]∨F∈x.CS/\(k=4∨k=22))->D.length≤100000->F.length≤100000->PE c s th ⟨th,k,o,0,z.Site,D,F⟩:=
   λD F p j L h4=>I _ ⟨L,h4⟩ rfl ⟨λh=>hA (by simp only at h;omega),λh=>hB (by simp only at h;omega),p,j,.inr ⟨.inr ⟨T,a6,a8,a9,a7⟩,rfl⟩,a3⟩
  have X:∀D,(D=[]∨D∈x.CS/\(k=5∨(k=3∨k=4)/\(ix c.World.Cells o).B7≠0))->D.length≤100000->Bx (CW.J3 x z ⟨th,k,o,0,z.Site,D,[]⟩) λr=>r.2=true->PE c s th r.1:=by
   intro D p j;have Z:∀b,(b=true->z.Op=8∨z.Op=9∨z.Op=26)->Bx (CW.J4 ⟨th,k,o,0,z.Site,D,[]⟩ x z b) λr=>r.2=true->PE c s th r.1:=by
    intro b K;unfold CW.J4 CW.J5;refine tI (λh=>tG (by have:=hB (K h);omega) λq m=> ?_) λ_=>tR λ_=>mk _ _ p (.inl rfl) j (by simp);have M:=J q m;refine tC (BM (by simp;omega)) (tR λ_=>mk _ _ p (.inr ⟨by simpa using m,?_⟩) j (by simpa using M))
    have:=K h;omega
   unfold CW.J3;exact tI (λh=>Z _ λ_=>.inl (eq_of_beq h)) λ_=>tI (λh=>Z _ λ_=>.inr (.inl (eq_of_beq h))) λ_=>Z _ λh=>.inr (.inr (eq_of_beq h))
  have j2:∀b,(b=true->z.Op=7∨z.Op=9)->Bx (CW.J2 th k o x z b) λr=>r.2=true->PE c s th r.1:=by intro b h;unfold CW.J2;refine tI (λK=>tG (by have:=hC (h K);omega) λq m=> ?_) λ_=>X _ (.inl rfl) (by simp);have M:=J q m;exact tC (BM (by omega)) (X _ (.inr ⟨m,.inr (U (h K))⟩) M)
  refine tI (λh=>tG (by have:=hA (.inr (.inr (.inl (eq_of_beq h))));omega) λq m=> ?_) λ_=>tI (λh=>j2 _ λ_=>.inl (eq_of_beq h)) λ_=>j2 _ λh=>.inr (eq_of_beq h);have M:=J q m;exact tC (BM (by omega)) (X _ (.inr ⟨m,.inl (b3 (eq_of_beq h))⟩) M)
 unfold CW;refine tB (zY hc s) λv hv=>tI (λ_=>j1 _ λh=>by cases h) λh=>tD (λ_=>j1 _ λh=>by cases h) λp=>j1 _ λj=>⟨hv (by simpa using h),by omega,?_⟩
 have:=of_decide_eq_false j;omega
def SI (N:Nat) (s:Ai):Prop:=RB N s.Sync/\∀t∈s.AA,TH N t
theorem TH.mono {E F:Nat} {t:AL} (h:TH E t) (a:E≤F):TH F t:=⟨h.r,h.t,h.b,h.e.1,by have:=h.e.2;omega⟩
theorem xK {E:Nat} {s:Ai} (h:∀t∈s.AA,TH E t) (b:E≤100000) (c:U9 s.Sync) (e:s.Cells.length≤1000) (g:s.AK.length≤1000) (f:s.AA.length≤1000):FZ s=some s:=by
 have key:Bx (FZ s) λr=>r=s:=by unfold FZ;refine tE (oM _ c) (tC (BM (by omega)) (tC (BM (by omega)) (Pr s.AA.length (λi o=>o=⟨s.Sync,s.Cells,s.AK,s.AA.take i⟩) (F:=λn o i=>FZ.AZ s n o i) (by omega) rfl λn i o hi d k=> ?_)));subst d;unfold FZ.AZ FZ.L1 FZ.J1;refine tD (λ_=>aO (by omega) ?_) λ_=>tR (by rw[AA9 (by omega)]);exact tE (dX (h _ (AAl (by omega))) b) (tC (BM (by simp;omega)) (k _ (by omega) (by rw[AAm])))
 obtain⟨r,a,rfl⟩:=key;exact a
structure SR (c:BL) (s:Ai) (ch:Cv) (s':Ai) (e:AE):Prop where
 p:PE c s ch.Thread e
 en:CL c.World s.Sync ch.Thread e.Kind e.Obj=true
 sy:s'.Sync=(DN c.World s.Sync ch.Thread e.Kind e.Obj ch.T4).1
 va:(e.Kind=3->gt s.Cells e.Obj=some e.Value)/\(e.Kind=23->gt s.AK e.Obj=some e.Value)/\(e.Kind=5->e.Value=0∨e.Value=1)/\(e.Kind≠3->e.Kind≠23->e.Kind≠5->e.Kind≠4->e.Kind≠22->e.Value=(DN c.World s.Sync ch.Thread e.Kind e.Obj ch.T4).2)
 ce:s'.Cells=if e.Kind=4 then s.Cells.set e.Obj.toNat e.Value else s.Cells
 fu:s'.AK=if e.Kind=22 then s.AK.set e.Obj.toNat e.Value else s.AK
 th:∃x x',s.AA[ch.Thread.toNat]? =some x/\s'.AA=s.AA.set ch.Thread.toNat x'/\(e.Kind=16->x'.PC=x.PC)/\(x'=P0∨x'.AH=x.AH+1/\∀l∈x'.CS,∀k∈l,(∃m∈x.CS,k∈m)∨k=x.AH/\(e.Kind=3∨e.Kind=23))
theorem rH {E:Nat} {c:BL} (hc:CK c) {s:Ai} (O:SI E s) (hE:E≤10000) (g:Cv):Bx (DB c s g) λr=>r.2.2=true->(SI (E+1) r.1/\oQ r.2.1)/\SR c s g r.1 r.2.1:=by
 obtain⟨hr,O⟩:=O;have N:∀{x y} {P:Ai×AE×Bool->Prop},Bx (some (x,y,false)) λr:Ai×AE×Bool=>r.2.2=true->P r:=tR λh=>by cases h
 unfold DB;refine tB (eD hc O (by omega) g.Thread) λv hv=>tI (λ_=>N) λh=> ?_;have hv:=hv (by simpa using h);obtain⟨D,ht,J,hh,hi⟩:=hv;have S:=DJ D.v.w;have w1:=S.c;have w2:=S.f;have w3:=S.t;have c1:=D.c';have c2:=D.u;have c3:=D.n;have c4:=D.v.n;refine tE (Nw _ S _ (hr.mono (by omega)) _ _ _ _) (tI (λ_=>N) λB=> ?_);have M:CL c.World s.Sync g.Thread v.1.Kind v.1.Obj=true:=by
  cases I:CL c.World s.Sync g.Thread v.1.Kind v.1.Obj with
  |true=>rfl
  |false=>simp[NV,I]at B
 have Z:B8 c.World v.1.Kind v.1.Obj=true:=by have M:=M;unfold CL at M;simp only[AAR]at M;exact M.2.2.1
 have hap:NV c.World s.Sync g.Thread v.1.Kind v.1.Obj g.T4=((DN c.World s.Sync g.Thread v.1.Kind v.1.Obj g.T4).1,(DN c.World s.Sync g.Thread v.1.Kind v.1.Obj g.T4).2,true):=by simp[NV,M]
 rw[hap];have hR:=hr.apply c.World g.Thread v.1.Kind v.1.Obj g.T4;refine tE (xK O (by omega) (U9.of S D.f (hr.mono (by omega))) (by omega) (by omega) (by omega)) ?_;obtain⟨x,x1,x2,x3⟩:=Ho (l:=s.AA) (i:=g.Thread) (by omega);obtain⟨y,y1,y2,y3⟩:=Ho (l:=c.AA) (i:=g.Thread) (by omega);obtain⟨p1,p2,p3⟩:=D.t _ x y x2 y2;obtain⟨z,z1,z2,z3⟩:=Ho (l:=y.Bg) (i:=x.PC) (by omega);obtain⟨q,q1,q2,q3⟩:=Ho (l:=s.Sync.AA) (i:=g.Thread) (by have:=(EY D.f).2.2;omega);have iA:=(hi x y z q x2 y2 z2 q2).a;have iB:=(hi x y z q x2 y2 z2 q2).b;have K:=O x x3;refine tE x1 (tE y1 (tE z1 ?_));have hpe:∀val,PE c s g.Thread ⟨v.1.Thread,v.1.Kind,v.1.Obj,val,v.1.Site,v.1.DE,v.1.C2⟩:=λval=>⟨D,ht,J,hh,λx y z q a b c d=>by have h:=hi x y z q a b c d;exact⟨h.a,h.b,h.d,h.r,h.s,h.j⟩⟩;generalize H:DN c.World s.Sync g.Thread v.1.Kind v.1.Obj g.T4=ap at hR ⊢
 let VAC:Int->List Int->List Int->Prop:=λval C F=>((v.1.Kind=3->gt s.Cells v.1.Obj=some val)/\(v.1.Kind=23->gt s.AK v.1.Obj=some val)/\(v.1.Kind=5->val=0∨val=1)/\(v.1.Kind≠3->v.1.Kind≠23->v.1.Kind≠5->v.1.Kind≠4->v.1.Kind≠22->val=ap.2))/\C=(if v.1.Kind=4 then s.Cells.set v.1.Obj.toNat val else s.Cells)/\F=(if v.1.Kind=22 then s.AK.set v.1.Obj.toNat val else s.AK)
 let TX:AL->Prop:=λt=>t=P0∨t.AH=x.AH+1/\∀l∈t.CS,∀k∈l,(∃m∈x.CS,k∈m)∨k=x.AH/\(v.1.Kind=3∨v.1.Kind=23)
 have j6:∀val C F t,VAC val C F->TX t->(v.1.Kind=16->t.PC=x.PC)->TH (E+1) t->Bx (DB.J6 g ⟨v.1.Thread,v.1.Kind,v.1.Obj,val,v.1.Site,v.1.DE,v.1.C2⟩ C F (ap.1,ap.2,true) s t) λr=>r.2.2=true->(SI (E+1) r.1/\oQ r.2.1)/\SR c s g r.1 r.2.1:=by
  intro val C F t p B X h4;unfold DB.J6;refine tE x1 (tR λ_=>⟨⟨⟨hR,?_⟩,J⟩,hpe val,M,by rw[H],?_,p.2.1,p.2.2,x,t,x2,rfl,X,B⟩)
  . intro q G;rcases AAs G with G|rfl
    . exact(O q G).mono (by omega)
    . exact h4
  . rw[H];exact p.1
 have W:Ay (x.AH+1)=x.AH+1:=by have:=K.e;exact CX (by omega) (by omega)
 have j5:∀val n C F t b,VAC val C F->(v.1.Kind=16->n=x.PC/\b=false)->t.AH=x.AH->(∀l∈t.CS,∀k∈l,(∃m∈x.CS,k∈m)∨k=x.AH/\(v.1.Kind=3∨v.1.Kind=23))->TH (E+1) ⟨0,t.CY,t.CS,Ay (t.AH+1)⟩->
  Bx (DB.J5 c g ⟨v.1.Thread,v.1.Kind,v.1.Obj,val,v.1.Site,v.1.DE,v.1.C2⟩ n C F t (ap.1,ap.2,true) s b) λr=>r.2.2=true->(SI (E+1) r.1/\oQ r.2.1)/\SR c s g r.1 r.2.1:=by
  intro val n C F t b p hn I R B;unfold DB.J5;have X:∀n,TH (E+1) ⟨n,t.CY,t.CS,Ay (t.AH+1)⟩:=λn=>⟨B.r,B.t,B.b,B.e⟩;refine tI (λo=>tE y1 (tB (kW (X n) R (by omega) (hc.i y y3)) λu hu=>j6 _ _ _ _ p ?_ (λh=>by rw[(hn h).2]at o;cases o) hu.1)) λ_=>j6 _ _ _ _ p (.inr ⟨by rw[I,W],R⟩) (λh=>(hn h).1) (X n);exact hu.2.imp id λh=>⟨by rw[h.1,I,W],h.2⟩
 have j3:∀val n C F b,VAC val C F->(v.1.Kind=16->n=x.PC)->(b=true->(v.1.Kind=3∨v.1.Kind=23))->Bx (DB.J3 c g ⟨v.1.Thread,v.1.Kind,v.1.Obj,val,v.1.Site,v.1.DE,v.1.C2⟩ n C F (ap.1,ap.2,true) s x z b) λr=>r.2.2=true->(SI (E+1) r.1/\oQ r.2.1)/\SR c s g r.1 r.2.1:=by
  intro val n C F b p hn B;unfold DB.J3 DB.J4;have I:=K.e;have T:∀{t},(∀l∈t.CS,∀k∈l,(∃m∈x.CS,k∈m)∨k=x.AH/\(v.1.Kind=3∨v.1.Kind=23))->t.AH=x.AH->TH (E+1) ⟨0,t.CY,t.CS,Ay (t.AH+1)⟩->Bx (if(v.1.Kind != 16)=true then DB.J5 c g ⟨v.1.Thread,v.1.Kind,v.1.Obj,val,v.1.Site,v.1.DE,v.1.C2⟩ n C F t (ap.1,ap.2,true) s (v.1.Kind != 2)else DB.J5 c g ⟨v.1.Thread,v.1.Kind,v.1.Obj,val,v.1.Site,v.1.DE,v.1.C2⟩ n C F t (ap.1,ap.2,true) s false) λr=>r.2.2=true->(SI (E+1) r.1/\oQ r.2.1)/\SR c s g r.1 r.2.1:=λR I hT=>
   tI (λh=>j5 _ _ _ _ _ _ p (λQ=>by rw[Q]at h;cases h) I R hT) λ_=>j5 _ _ _ _ _ _ p (λh=>⟨hn h,rfl⟩) I R hT
  refine tI (λo=> ?_) λ_=> ?_
  . have B:=B o;have hA:=iA (by omega);refine tG (by omega) λ_ _=>tG (by omega) λ_ _=>T ?_ rfl ?_
    . intro l J k hk;rcases AAs J with J|rfl
      . exact .inl ⟨l,J,hk⟩
      . exact .inr ⟨AAj.1 hk,B⟩
    . simp only[W];refine⟨by simpa using K.r,by simpa using K.t,?_,by simp only;omega⟩;intro q G;rcases AAs G with G|rfl
      . exact(K.b q G).mono (by simp only;omega)
      . exact⟨by simp,by simp;omega⟩
  . refine T (λl J k hk=>.inl ⟨l,J,hk⟩) rfl ?_;simp only[W];exact⟨K.r,K.t,λq G=>(K.b q G).mono (by simp only;omega),by simp only;omega⟩
 have L:∀C F val n,VAC val C F->(v.1.Kind=16->n=x.PC)->Bx (DB.J2 c g (ap.1,ap.2,true) s x z C F ⟨v.1.Thread,v.1.Kind,v.1.Obj,val,v.1.Site,v.1.DE,v.1.C2⟩ n) λr=>r.2.2=true->(SI (E+1) r.1/\oQ r.2.1)/\SR c s g r.1 r.2.1:=by intro C F val n p hn;unfold DB.J2;exact tI (λh=>j3 _ _ _ _ _ p hn λ_=>.inl (eq_of_beq h)) λ_=>j3 _ _ _ _ _ p hn λh=>.inr (eq_of_beq h)
 have j1:∀b,(b=true->v.1.Kind=1∨v.1.Kind=16∨v.1.Kind=2)->(b=false->v.1.Kind≠16)->Bx (DB.J1 c g v (ap.1,ap.2,true) s x z b) λr=>r.2.2=true->(SI (E+1) r.1/\oQ r.2.1)/\SR c s g r.1 r.2.1:=by
  intro b o hb2;unfold DB.J1;refine tI (λh=>L _ _ _ _ ⟨⟨by have:=o h;omega,by have:=o h;omega,by have:=o h;omega,λ_ _ _ _ _=>rfl⟩,by rw[AAZ (by have:=o h;omega)],by rw[AAZ (by have:=o h;omega)]⟩ λ_=>rfl) λh0=>tI (λh=> ?_) λn3=>tI (λh=> ?_) λV=>tI (λh=> ?_) λn4=>tI (λh=> ?_) λU=>tI (λh=> ?_) λn5=> ?_
  . have h:=eq_of_beq h
    have:=CJ.1 (show Du v.1.Obj c.World.Cells.length=true by simpa[B8,h]using Z);obtain⟨d,d1,_⟩:=Ho (l:=s.Cells) (i:=v.1.Obj) (by omega);exact tE d1 (L _ _ _ _ ⟨⟨λ_=>d1,by omega,by omega,by omega⟩,by rw[AAZ (by omega)],by rw[AAZ (by omega)]⟩ (by omega))
  . have h:=eq_of_beq h
    have:=CJ.1 (show Du v.1.Obj c.World.AK.length=true by simpa[B8,h]using Z);obtain⟨d,d1,_⟩:=Ho (l:=s.AK) (i:=v.1.Obj) (by omega);exact tE d1 (L _ _ _ _ ⟨⟨by omega,λ_=>d1,by omega,by omega⟩,by rw[AAZ (by omega)],by rw[AAZ (by omega)]⟩ (by omega))
  . have h:=eq_of_beq h
    have:=CJ.1 (show Du v.1.Obj c.World.Cells.length=true by simpa[B8,h]using Z);have o:=iB (.inl h);exact tG (by omega) λ_ _=>tG (by omega) λ_ _=>L _ _ _ _ ⟨⟨by omega,by omega,by omega,by omega⟩,by rw[AAa h],by rw[AAZ (by omega)]⟩ (by omega)
  . have h:=eq_of_beq h
    have:=CJ.1 (show Du v.1.Obj c.World.AK.length=true by simpa[B8,h]using Z);have o:=iB (.inr h);exact tG (by omega) λ_ _=>tG (by omega) λ_ _=>L _ _ _ _ ⟨⟨by omega,by omega,by omega,by omega⟩,by rw[AAZ (by omega)],by rw[AAa h]⟩ (by omega)
  . have h:=eq_of_beq h;have o:=iA (.inr (.inr h));exact tG (by omega) λ_ _=>tI (λ_=>L _ _ _ _ ⟨⟨by omega,by omega,λ_=>.inl rfl,by omega⟩,by rw[AAZ (by omega)],by rw[AAZ (by omega)]⟩ (by omega)) λ_=>L _ _ _ _ ⟨⟨by omega,by omega,λ_=>.inr rfl,by omega⟩,by rw[AAZ (by omega)],by rw[AAZ (by omega)]⟩ (by omega)
  . simp only[ABZ,ne_eq]at n3 V n4 U n5;exact L _ _ _ _ ⟨⟨λh=>absurd h n3,λh=>absurd h V,λh=>absurd h n5,λ_ _ _ _ _=>rfl⟩,by rw[AAZ n4],by rw[AAZ U]⟩ λh=>absurd h (hb2 h0)
 exact tI (λh=>j1 _ (λ_=>.inl (eq_of_beq h)) λQ=>by rw[Q]at h;cases h) λ_=>tI (λh=>j1 _ (λ_=>.inr (.inl (eq_of_beq h))) λQ=>by rw[Q]at h;cases h) λn16=>j1 _ (λh=>.inr (.inr (eq_of_beq h))) λ_=>by simpa using n16
structure TM (n:Nat) (t:Ac):Prop where
 n:t.AH.length≤n
 e:∀e∈t.AH,oQ e
 w:t.AH≠[]->Cz t.World=true
theorem oQ.ok {e:AE} (h:oQ e):JF e:=⟨by have:=h.1;omega,by have:=h.2;omega⟩
theorem getT {s:AN} {i:Int} {f:AG->AG} {u:Nat} {q:AG} (hi:0≤i/\i<s.AA.length) (h:(Kd s i f).AA[u]? =some q):(u:Int)=i/\q=f (ix s.AA i)∨(u:Int)≠i/\s.AA[u]? =some q:=by
 unfold Kd at h;by_cases e:(u:Int)=i
 . have a:i.toNat=u:=(by omega);rw[a,AAT (by omega)]at h;exact .inl ⟨e,(AAU h).symm⟩
 . rw[AAW (by omega)]at h;exact .inr ⟨e,h⟩
theorem qI {a:Type} [Inhabited a] {l:List a} {u:Nat} {i:Int} {x:a} (h:l[u]? =some x) (hi:(u:Int)=i):ix l i=x:=by subst hi;unfold ix;simp[h]
theorem vI {wv:AB} {s:AN} {t k o:Int} (h:CL wv s t k o=true) (a:k≠1) (b:k≠17):(ix s.AA t).Status=2:=by unfold CL Ka at h;simp only[AAR,AAZ a,AAZ b]at h;exact eq_of_beq h.2.2.2.1
theorem Ng {wake:Int} {W:List Int} (h:W≠[]):Er wake W∈W:=by
 unfold Er;rw[AAZ h];split
 . rename_i h;simpa using h
 . cases W with
   |nil=>exact absurd rfl h
   |cons a r=>simp
theorem oG (o:Int) (T:List AG):∀(i:Nat) (u:Int),u∈CA o i T->∃x,T[(u-i).toNat]? =some x/\x.Status=3:=by
 induction T with
 |nil=>intro i u h;cases h
 |cons x r ih=>
  intro i u h;unfold CA at h;have key:u∈CA o (i+1) r->∃y,(x::r)[(u-i).toNat]? =some y/\y.Status=3:=by intro h;have b:=(Ij o r (i+1) u h).1;obtain⟨y,y1,y2⟩:=ih (i+1) u h;refine⟨y,?_,y2⟩;rw[show(u-(i:Int)).toNat=(u-((i+1:Nat):Int)).toNat+1 from by omega,ABH];exact y1
  split at h
  . rename_i a;rcases AAp.1 h with rfl|h
    . refine⟨x,by simp,?_⟩;unfold I3 at a;simp only[AAR]at a;exact eq_of_beq a.1
    . exact key h
  . exact key h
theorem oE {wv:AB} {s:AN} {t k o wake:Int} (h:CL wv s t k o=true) {u:Nat} {i:AG} (c:(DN wv s t k o wake).1.AA[u]? =some i):
 ((u:Int)=t->k=16∨i.Status=2∨i.Status=5)/\((u:Int)≠t->i.Status=1∨∃q,s.AA[u]? =some q/\(i=q∨q.Status=3/\i.Status=4)):=by
 have m:=λa b=>vI h (k:=k) a b;have E:=h;unfold CL at E;simp only[AAR]at E;obtain⟨M,C,L,H⟩:=E;obtain⟨_,_,N⟩:=EY M;have C:=CJ.1 C;rw[← N]at C
 -- a thread's own place
 have own:∀(j:AN) (f:AG->AG),j.AA=s.AA->(Kd j t f).AA[u]? =some i->(k=16∨(f (ix s.AA t)).Status=2∨(f (ix s.AA t)).Status=5)->
  ((u:Int)=t->k=16∨i.Status=2∨i.Status=5)/\((u:Int)≠t->i.Status=1∨∃q,s.AA[u]? =some q/\(i=q∨q.Status=3/\i.Status=4)):=by
  intro j f G y z;rcases getT (by rw[G];exact C) y with⟨e,rfl⟩|⟨e,p⟩
  . rw[G];exact⟨λ_=>z,λh=>absurd e h⟩
  . rw[G]at p;exact⟨λh=>absurd h e,λ_=>.inr ⟨i,p,.inl rfl⟩⟩
 -- nobody's place
 have g:∀(T:List AG),T=s.AA->T[u]? =some i->(ix s.AA t).Status=2->((u:Int)=t->k=16∨i.Status=2∨i.Status=5)/\((u:Int)≠t->i.Status=1∨∃q,s.AA[u]? =some q/\(i=q∨q.Status=3/\i.Status=4)):=by rintro _ rfl y z;exact⟨λe=>.inr (.inl (by rw[qI y e]at z;exact z)),λ_=>.inr ⟨i,y,.inl rfl⟩⟩
 unfold DN at c;by_cases l:k=1
 . rw[AAa l]at c;exact own s _ rfl c (.inr (.inl rfl))
 rw[AAZ l]at c;by_cases K:k=2
 . rw[AAa K]at c;exact own s _ rfl c (.inr (.inr rfl))
 rw[AAZ K]at c;by_cases e:k=6∨k=10
 . rw[AAa e]at c;exact g _ rfl c (m l (by omega))
 rw[AAZ e]at c;by_cases e:k=7∨k=11
 . rw[AAa e]at c;exact g _ rfl c (m l (by omega))
 rw[AAZ e]at c;by_cases e:k=8
 . rw[AAa e]at c;exact g _ rfl c (m l (by omega))
 rw[AAZ e]at c;by_cases e:k=9
 . rw[AAa e]at c;exact g _ rfl c (m l (by omega))
 rw[AAZ e]at c;by_cases e:k=12
 . rw[AAa e]at c;exact g _ rfl c (m l (by omega))
 rw[AAZ e]at c;by_cases e:k=13
 . rw[AAa e]at c;exact g _ rfl c (m l (by omega))
 rw[AAZ e]at c;by_cases e:k=14
 . rw[AAa e]at c;exact own s _ rfl c (.inr (.inl (m l (by omega))))
 rw[AAZ e]at c;by_cases e:k=15
 . rw[AAa e]at c;exact own s _ rfl c (.inr (.inl (m l (by omega))))
 rw[AAZ e]at c;by_cases D:k=16
 . rw[AAa D]at c;exact own (Kc s (ix wv.Ah o).Mutex λx=>⟨-1,x.Ax⟩) _ rfl c (.inl D)
 rw[AAZ D]at c;by_cases n:k=17
 . rw[AAa n]at c;exact own (Kc s (ix wv.Ah o).Mutex λx=>⟨t,x.Ax⟩) _ rfl c (.inr (.inl rfl))
 rw[AAZ n]at c;have j:=m l n;by_cases e:k=18
 . rw[AAa e]at c;by_cases B:CA o 0 s.AA=[]
   . rw[AAa B]at c;exact g _ rfl c j
   . rw[AAZ B]at c;obtain⟨x,v,O⟩:=oG o s.AA 0 _ (Ng (wake:=wake) B);have I:=Ij o s.AA 0 _ (Ng (wake:=wake) B);generalize Er wake (CA o 0 s.AA)=d at c v I;have v:s.AA[d.toNat]? =some x:=(by simpa using v);have hd:ix s.AA d=x:=qI v (by omega);rcases getT (by simp at I;omega) c with⟨e,rfl⟩|⟨e,p⟩
     . refine⟨λh=> ?_,λ_=>.inr ⟨x,?_,.inr ⟨O,rfl⟩⟩⟩
       . rw[← h,e,hd]at j;omega
       . rw[show u=d.toNat from by omega];exact v
     . exact g _ rfl p j
 rw[AAZ e]at c;by_cases e:k=19
 . rw[AAa e]at c;have c:(s.AA.map (Iu o))[u]? =some i:=c;rw[AAb]at c;cases hx:s.AA[u]? with
   |none=>rw[hx]at c;cases c
   |some x=>
    rw[hx]at c;obtain rfl:=AAU c;unfold Iu;by_cases r:I3 x o=true
    . have:x.Status=3:=(by unfold I3 at r;simp only[AAR]at r;exact eq_of_beq r.1);rw[AAa r];refine⟨λe=> ?_,λ_=>.inr ⟨x,rfl,.inr ⟨this,rfl⟩⟩⟩;rw[qI hx e]at j;omega
    . rw[AAZ r];exact⟨λe=>.inr (.inl (by rw[qI hx e]at j;exact j)),λ_=>.inr ⟨x,rfl,.inl rfl⟩⟩
 rw[AAZ e]at c;by_cases w:k=20
 . rw[AAa w]at c;have J:Du o wv.AA.length=true:=(by simpa[B8,w]using L);have F:o≠t:=(by simp[Ka,w]at H;exact H.2.1);have J:=CJ.1 J;rcases getT (by omega) c with⟨e,rfl⟩|⟨e,p⟩
   . exact⟨λh=>absurd (e.symm.trans h) F,λ_=>.inl rfl⟩
   . exact g _ rfl p j
 rw[AAZ w]at c;by_cases e:k=22
 . rw[AAa e]at c;exact g _ rfl c j
 . rw[AAZ e]at c;exact g _ rfl c j
theorem Wj (wv:AB) (s:AN) (t k o wake:Int):(DN wv s t k o (if k=18 then(DN wv s t k o wake).2 else -1)).1=(DN wv s t k o wake).1:=by
 by_cases h:k=18
 . rw[AAa h,h];have key:∀w,(DN wv s t 18 o w)=(if CA o 0 s.AA=[]then s else Kd s (Er w (CA o 0 s.AA)) IY,Er w (CA o 0 s.AA)):=λw=>by simp[DN]
   rw[key,key];by_cases a:CA o 0 s.AA=[]
   . simp[a]
   . have:=Ng (wake:=wake) a;simp only[a,AAd];rw[show Er (Er wake (CA o 0 s.AA)) (CA o 0 s.AA)=Er wake (CA o 0 s.AA)from ?_];generalize Er wake (CA o 0 s.AA)=d at this ⊢;unfold Er;rw[AAZ a,AAa (by simpa using this)]
 . rw[AAZ h];unfold DN;simp only[AAZ h]
theorem nums_of {c:Int} (D:List Int):∀a:Int,D.Pairwise (· < ·)->(∀k∈D,a<k/\k<c)->FO c a D=true:=by
 induction D with
 |nil=>exactλ_ _ _=>rfl
 |cons x r ih=>intro a f b;obtain⟨g,h⟩:=List.pairwise_cons.1 f;have e:=b x ABP;unfold FO;simp only[AAR,AAk];exact⟨e.1,e.2,ih x h λk d=>⟨g k d,(b k (List.mem_cons_of_mem _ d)).2⟩⟩
theorem isIn_app {l:List Bool} {b:Bool} {k:Int} (h:KV l k=true):KV (l++[b]) k=true:=by
 unfold KV at h ⊢;simp only[AAR]at h ⊢;have hi:=CJ.1 h.1;refine⟨CJ.2 (by simp;omega),?_⟩
 have:=h.2;unfold ix at this ⊢;rw[AAr (by omega)];exact this
theorem uD {l:List Bool}:KV (l++[true]) (l.length:Int)=true:=by unfold KV;simp only[AAR];exact⟨CJ.2 (by simp;omega),by unfold ix;simp⟩
structure GT (pre:List AE) (u:Int) (cnt:Int) (x:AL):Prop where
 c:cnt=x.AH
 n:x.AH=((Lr pre u).length:Int)
 k:∀l∈x.CS,∀k∈l,KV (Lr pre u) k=true/\1≤k
structure LK (c:BL) (pre:List AE) (S:AD) (s:Ai):Prop where
 y:S.Sync=s.Sync
 ce:S.Cells=s.Cells
 f:S.AK=s.AK
 n:S.Count.length=c.World.AA.length
 t:∀(u:Nat) x y,s.AA[u]? =some x->c.AA[u]? =some y->y.CY=0∨x=P0∨GT pre u (ix S.Count u) x
 w:∀(u:Nat) x y q,s.AA[u]? =some x->c.AA[u]? =some y->s.Sync.AA[u]? =some q->q.Status=3∨q.Status=4->∃z,gt y.Bg x.PC=some z/\z.Op=21
 e:∀(u:Nat) x q,s.AA[u]? =some x->s.Sync.AA[u]? =some q->2≤q.Status->x=P0∨1≤x.AH
theorem yA {wv:AB} {s:AN} {t k o wake:Int} (c:k≠18) (d:k≠19):(DN wv s t k o wake).2=0:=by
 have key:∀(P:Prop) [Decidable P] (a b:AN×Int),a.2=0->b.2=0->(if P then a else b).2=0:=λP _ a b e f=>by
  by_cases h:P
  . rw[AAa h];exact e
  . rw[AAZ h];exact f
 unfold DN;rw[AAZ c,AAZ d]
 repeat' first|rfl|apply key
theorem sim {E:Nat} {c:BL} {s s':Ai} {g:Cv} {e:AE} {j:List AE} {S:AD} (hE:E≤10000) (M:SI E s) (B:LK c j S s) (hr:SR c s g s' e):
 Iv c.World S e=true/\PZ j e=true/\LK c (j++[e]) (Ex c.World S e) s':=by
 obtain⟨hp,Q,hsy,hva,hce,hfu,x,x',W,hth,h16,K7⟩:=hr;obtain⟨O,ht,_,U,hi⟩:=hp;have c1:=O.c';have c2:=O.u;have c3:=O.n;have c4:=O.v.n;have l3:=(EY O.f).2.2;obtain⟨y,_,y2,_⟩:=Ho (l:=c.AA) (i:=g.Thread) (by omega);obtain⟨p1,p2,p3⟩:=O.t _ x y W y2;obtain⟨z,z1,z2,z3⟩:=Ho (l:=y.Bg) (i:=x.PC) (by omega);obtain⟨q,_,q2,_⟩:=Ho (l:=s.Sync.AA) (i:=g.Thread) (by omega);have F:=hi x y z q W y2 z2 q2;have hz:=(O.v.t _ y y2).i z z3;have hx:=M.2 x (AAe W);have H:((g.Thread.toNat:Nat):Int)=g.Thread:=by omega
 -- a thread with registers shows what its trace shows
 have hgt:y.CY=0∨GT j g.Thread (ix S.Count g.Thread) x:=by
  rcases B.t _ x y W y2 with h|h|h
  . exact .inl h
  . rw[h]at p2;exact .inl p2.symm
  . rw[H]at h;exact .inr h
 have K:∀D,D=[]∨D∈x.CS->FO (ix S.Count e.Thread) 0 D=true/\D.all (KV (Lr j e.Thread))=true:=by
  rintro D (rfl|K)
  . exact⟨rfl,rfl⟩
  . rcases hgt with h|h
    . have:x.CS.length=0:=(by omega);rw[List.length_eq_zero_iff.1 this]at K;cases K
    . rw[U];refine⟨nums_of D 0 (hx.b D K).1 λk V=>⟨by have:=(h.k D K k V).2;omega,?_⟩,AAX.2 λk V=>(h.k D K k V).1⟩;rw[h.c];exact((hx.b D K).2 k V).2
 have hdp:=K e.DE (F.d.imp id λh=>h.1);have kA:=K e.C2 (F.r.imp id λh=>h.1);have p:B8 c.World e.Kind e.Obj=true:=by have Q:=Q;unfold CL at Q;simp only[AAR]at Q;exact Q.2.2.1
 have UC:Mb c.World e=true:=by
  unfold Mb;have site:z.Op≠28->e.Site=z.Site->(Du e.Site c.World.BF.length&&(ix c.World.BF e.Site).Thread==e.Thread)=true:=by
   intro Z J;have M:=hz.s;unfold YQ at M;rw[AAZ Z,H]at M;obtain⟨b,X,b2⟩:=M;have C:=X;unfold gt at C;split at C
   . have:=(AAS.1 C).1;rw[J,pX X,b2,U];simp only[AAR,ABC,and_true];exact CJ.2 (by omega)
   . cases C
  rcases F.s with⟨k1,k2⟩|⟨⟨q4,nF⟩|⟨q2',k2,n1,n17,T⟩,G⟩
  . rw[AAa (.inl k1),k2];rfl
  . obtain⟨z',X,b2⟩:=B.w _ x y q W y2 q2 (.inr q4);rw[z1]at X;obtain rfl:=AAU X;rw[AAZ (by omega)];exact site (by omega) G
  . by_cases J:e.Kind=2
    . have M:=hz.s;unfold YQ at M;rw[AAa (k2.1 J)]at M;rw[AAa (.inr J),G,M];rfl
    . rw[AAZ (by omega)];exact site (λh=>J (k2.2 h)) G
 have hdet:Ej c.World S e=true:=by unfold Ej;rw[hdp.1,kA.1];simp only[Bool.and_true,AAR,AA2];refine⟨F.d.imp (λh=>by rw[h];rfl) λh=>h.2.imp (λh=>by rw[h];rfl) λh=> ?_,F.r.imp (λh=>by rw[h];rfl) λh=>h.2.imp (λh=>by rw[h];rfl) λh=>by rw[h];rfl⟩;unfold OG;rw[AAa h.1];simpa using h.2
 have Ba:HH S e=true:=by
  unfold HH;rw[B.ce,B.f,B.y];obtain⟨v1,v2,v3,v4⟩:=hva;by_cases k3:e.Kind=3
  . rw[AAa k3,pX (v1 k3)];simp
  rw[AAZ k3];by_cases kD:e.Kind=23
  . rw[AAa kD,pX (v2 kD)];simp
  rw[AAZ kD];by_cases k5:e.Kind=5
  . rw[AAa k5];rcases v3 k5 with h|h<;>rw[h]<;>rfl
  rw[AAZ k5];by_cases k4:e.Kind=4∨e.Kind=22
  . rw[AAa k4]
  rw[AAZ k4];have hv:=v4 k3 kD k5 (by omega) (by omega);by_cases P:e.Kind=18
  . rw[AAa P];have:e.Value=Er g.T4 (CA e.Obj 0 s.Sync.AA):=(by rw[hv,P];simp[DN]);by_cases hW:CA e.Obj 0 s.Sync.AA=[]
    . rw[this,hW];rfl
    . have hm:=Ng (wake:=g.T4) hW;rw[← this]at hm;simp only[AA2];exact .inl (by simpa using hm)
  rw[AAZ P];by_cases gJ:e.Kind=19
  . rw[AAa gJ,hv,gJ];simp[DN]
  rw[AAZ gJ,hv];simp[yA P gJ]
 have R:Iv c.World S e=true:=by unfold Iv JV;rw[B.y,B.ce,B.f,O.f,U,Q,UC,hdet,Ba,B.n,c1,c2];simp only[ABC,Bool.and_true,AA8];exact CJ.2 (by omega)
 have L:PZ j e=true:=by unfold PZ;rw[hdp.2,kA.2];rfl
 refine⟨R,L,?_⟩;have hsy':(Ex c.World S e).Sync=s'.Sync:=by
  show(DN c.World S.Sync e.Thread e.Kind e.Obj (if e.Kind=18 then e.Value else -1)).1=_
  rw[B.y,hsy,U];by_cases P:e.Kind=18
  . have hv:=hva.2.2.2 (by omega) (by omega) (by omega) (by omega) (by omega)
    have:=Wj c.World s.Sync g.Thread e.Kind e.Obj g.T4;rw[AAa P]at this ⊢;rw[hv];exact this
  . have:=Wj c.World s.Sync g.Thread e.Kind e.Obj g.T4;rw[AAZ P]at this ⊢;exact this
 have I:∀(u:Nat) a,s'.AA[u]? =some a->(u:Int)=g.Thread/\a=x'∨(u:Int)≠g.Thread/\s.AA[u]? =some a:=by
  intro u a p;rw[hth]at p;by_cases o:(u:Int)=g.Thread
  . rw[show g.Thread.toNat=u from by omega,AAT (by omega)]at p;exact .inl ⟨o,(AAU p).symm⟩
  . rw[AAW (by omega)]at p;exact .inr ⟨o,p⟩
 have N:∀u:Nat,ix (Ex c.World S e).Count (u:Int)=if(u:Int)=g.Thread then Ay (ix S.Count g.Thread+1)else ix S.Count u:=by
  intro u;show ix (S.Count.set e.Thread.toNat (Ay (ix S.Count e.Thread+1))) u=_;rw[U];by_cases o:(u:Int)=g.Thread
  . rw[AAa o];have Dq:u<S.Count.length:=(by rw[B.n];omega);rw[show g.Thread.toNat=u from by omega];unfold ix;simp[Dq]
  . rw[AAZ o];unfold ix;rw[AAW (by omega)]
 have Ry:∀u:Int,Lr (j++[e]) u=if g.Thread=u then Lr j u++[kC e]else Lr j u:=λu=>by rw[Nu,U]
 have B9:∀(u:Nat) b,s'.Sync.AA[u]? =some b->((u:Int)=g.Thread->e.Kind=16∨b.Status=2∨b.Status=5)/\((u:Int)≠g.Thread->b.Status=1∨∃q,s.Sync.AA[u]? =some q/\(b=q∨q.Status=3/\b.Status=4)):=by intro u b C;rw[hsy]at C;exact oE Q C
 refine⟨hsy',?_,?_,?_,?_,?_,?_⟩
 . rw[hce,← B.ce];rfl
 . rw[hfu,← B.f];rfl
 . show(S.Count.set _ _).length=_;rw[List.length_set];exact B.n
 . intro u a b p C;rcases I u a p with⟨o,rfl⟩|⟨o,p⟩
   . rw[show u=g.Thread.toNat from by omega,y2]at C;obtain rfl:=AAU C;rcases hgt with h|h
     . exact .inl h
     . rcases K7 with K7|⟨e1,e2⟩
       . exact .inr (.inl K7)
       . by_cases hR:y.CY=0
         . exact .inl hR
         . refine .inr (.inr ⟨?_,?_,?_⟩)
           . rw[N,AAa o,h.c,e1]
             have:=hx.e;exact CX (by omega) (by omega)
           . rw[Ry,o,AAa rfl,e1,h.n];simp
           . intro l hl' k V;rw[Ry,o,AAa rfl];rcases e2 l hl' k V with⟨m,m1,m2⟩|⟨rfl,hk3⟩
             . exact⟨isIn_app (h.k m m1 k m2).1,(h.k m m1 k m2).2⟩
             . have hr:kC e=true:=(by unfold kC;rcases hk3 with h|h<;>simp[h]);rw[hr]
               have:=uD (l:=Lr j g.Thread);rw[← h.n]at this;refine⟨this,?_⟩;have hq:2≤q.Status:=(by rcases F.s with⟨k1,_⟩|⟨⟨_,nF⟩|⟨q2',_⟩,_⟩<;>omega);rcases B.e _ x q W q2 hq with h0|h0
               . rw[h0]at p2;exact absurd p2.symm hR
               . exact h0
   . rcases B.t u a b p C with h|h|h
     . exact .inl h
     . exact .inr (.inl h)
     . refine .inr (.inr ⟨?_,?_,?_⟩)
       . rw[N,AAZ o];exact h.c
       . rw[Ry,AAZ (λh=>o h.symm)];exact h.n
       . rw[Ry,AAZ (λh=>o h.symm)];exact h.k
 . intro u a b d p C hd hs34;rcases I u a p with⟨o,rfl⟩|⟨o,p⟩
   . rw[show u=g.Thread.toNat from by omega,y2]at C;obtain rfl:=AAU C;have T:e.Kind=16:=(by rcases(B9 u d hd).1 o with h|h|h<;>omega);rw[h16 T];refine⟨z,z1,?_⟩;rcases F.s with⟨k1,_⟩|⟨⟨_,nF⟩|⟨_,_,_,_,h⟩,_⟩
     . omega
     . omega
     . exact h T
   . rcases(B9 u d hd).2 o with h|⟨q',Z,J⟩
     . omega
     . refine B.w u a b q' p C Z ?_;rcases J with rfl|J
       . exact hs34
       . exact .inl J.1
 . intro u a d p hd J;rcases I u a p with⟨o,rfl⟩|⟨o,p⟩
   . rcases K7 with h|⟨e1,_⟩
     . exact .inl h
     . have:=hx.e;exact .inr (by omega)
   . rcases(B9 u d hd).2 o with h|⟨q',Z,h3⟩
     . omega
     . refine B.e u a q' p Z ?_;rcases h3 with rfl|h3<;>omega
theorem Tq {wv:AB} {j:Nat} {q:AG} (h:(JE wv).AA[j]? =some q):q.Status=0∨q.Status=1:=by
 have h:=AAe h;unfold JE at h;rcases AAs h with h|rfl
 . rw[ABS h];exact .inl rfl
 . exact .inr rfl
theorem rG {c:BL} (H:CK c) (b:Bq c=some true):Bx (Cr c) λs=>SI 0 s/\LK c [] (FQ c.World) s:=by
 unfold Cr;obtain⟨v,E,G⟩:=P2 H;rw[b]at E;have Q:=G (AAU E).symm;rw[b,AAP];refine tI (λh=>by cases h) λ_=> ?_;have b:=Q;have z:=DJ b.w;have W:=z.c;have X:=z.f;have Z:=H.n;refine tE (Ny _ z) (Pr c.World.Cells.length (λi s=>s.Sync=JE c.World/\s.Cells=(c.World.Cells.take i).map (·.Init)/\s.AK=[]/\s.AA=[]) (F:=λn s i=>Cr.AZ c n s i) (by omega) ⟨rfl,rfl,rfl,rfl⟩ λn i s hi e k=> ?_);obtain⟨J,g,K,L⟩:=e;have T:s.Cells.length=i:=by rw[g];simp;omega
 unfold Cr.AZ Cr.L1 Cr.J1;refine tD (λ_=>aO (by omega) (tC (BM (by omega)) (k _ (by omega) ⟨J,by simp only;rw[g,← AAm (by omega),AA3];rfl,K,L⟩))) λ_=> ?_;have g:s.Cells=c.World.Cells.map (·.Init):=by rw[g,AA9 (by omega)]
 refine Pr c.World.AK.length (λi t=>t.Sync=JE c.World/\t.AK=List.replicate i 0/\t.AA=[]/\t.Cells=s.Cells) (F:=λn s i=>Cr.Cf c n s i) (by omega) ⟨J,by simp[K],L,rfl⟩ λn i t hi e k=> ?_;obtain⟨M,m,C,N⟩:=e;have T:t.AK.length=i:=by rw[m];simp
 unfold Cr.Cf Cr.L2 Cr.J2;refine tD (λ_=>tC (BM (by omega)) (k _ (by omega) ⟨M,by simp only;rw[m,← ABq],C,N⟩)) λ_=> ?_;have m:t.AK=List.replicate c.World.AK.length 0:=by rw[m,show i=c.World.AK.length by omega]
 refine Pr c.AA.length (λi u=>u.Sync=JE c.World/\u.AA.length=i/\(∀x∈u.AA,TH 0 x/\x.AH=0/\∀l∈x.CS,l=[])/\u.Cells=s.Cells/\u.AK=t.AK) (F:=λn s i=>Cr.Hz c n s i) (by omega) ⟨M,by simp[C],by simp[C],N,rfl⟩ λn i u hi e k=> ?_;obtain⟨o,V,D,O,P⟩:=e;unfold Cr.Hz Cr.L3 Cr.J3;refine tD (λ_=>aO (by omega) ?_) λ_=>tR ⟨⟨by rw[o];exact RB.start _,λx a=>(D x a).1⟩,by rw[o];rfl,by rw[O,g];rfl,by rw[P,m];rfl,by have:=b.n;simp[FQ],?_,?_,?_⟩
 . have U:=(b.t i _ (AAV (by omega))).r;refine tC ⟨by omega,by omega,BM (by omega)⟩ (tC ⟨by omega,by omega,BM (by omega)⟩ (tC (BM (by omega)) (k _ (by omega) ⟨o,by simp;omega,?_,O,P⟩)));intro x a;rcases AAh.1 a with a|a
   . exact D x a
   . rw[AAj.1 a];refine⟨⟨by simp;omega,by simp;omega,?_,by simp⟩,rfl,λl p=>ABS p⟩;intro y B;have B:=ABS B;rw[B];exact⟨List.Pairwise.nil,by simp⟩
 . intro j x y a _;have a:=D x (AAe a);refine .inr (.inr ⟨?_,by rw[a.2.1];rfl,λl p k I=>by rw[a.2.2 l p]at I;cases I⟩);rw[a.2.1];show ix (List.replicate c.World.AA.length 0) (j:Int)=0;unfold ix;simp only[ABO];by_cases S:j<c.World.AA.length
   . rw[AAV (by simpa using S)];simp
   . rw[ABf (by simp;omega)];rfl
 . intro j x y q _ _ d R;rw[o]at d
   have:=Tq d;omega
 . intro j x q _ d G;rw[o]at d
   have:=Tq d;omega
def Acc (wv:AB) (l:List AE) (S:AD):Prop:=∀r,HS wv [] (FQ wv) (l++r)=HS wv l S r
theorem Acc.step {wv:AB} {l:List AE} {S:AD} (h:Acc wv l S) {e:AE} (a:Iv wv S e=true) (b:PZ l e=true):Acc wv (l++[e]) (Ex wv S e):=by intro r;rw[ABB,h,List.singleton_append,HS,a,b];rfl
theorem from_ok {c:BL} (q:CK c) {s:Ai} (j:SI 0 s) (u:LK c [] (FQ c.World) s) {l:List Cv} (D:l.length≤1000):Bx (E7 c s [] l) λr=>(r.1.length≤l.length/\∀e∈r.1,oQ e)/\∃S,Acc c.World r.1 S/\LK c r.1 S r.2:=by
 unfold E7;refine Pr l.length (λi (s:List AE×Ai)=>(SI i s.2/\s.1.length≤i/\∀e∈s.1,oQ e)/\∃S,Acc c.World s.1 S/\LK c s.1 S s.2) (F:=λn s i=>E7.AZ c l n s.1 s.2 i) (s0:=([],s)) (by omega) ⟨⟨j,by simp,by simp⟩,_,λ_=>rfl,u⟩ λn i s hi j k=> ?_;obtain⟨⟨f,E,g⟩,S,b,d⟩:=j;have up:SI (i+1) s.2:=⟨f.1.mono (by omega),λt w=>(f.2 t w).mono (by omega)⟩;unfold E7.AZ E7.L1 E7.J1 E7.J2 E7.J3;refine tD (λ_=>tI (λ_=>tG (by omega) λx _=> ?_) λ_=>tR ⟨⟨by simp only;omega,g⟩,S,b,d⟩) λ_=>tI (λh=>by cases h) λ_=>tR ⟨⟨by simp only;omega,g⟩,S,b,d⟩;refine tB (rH q f (by omega) x) λv y=>tI (λh=> ?_) λ_=>k (_,_) (by omega) ⟨⟨up,by simp only;omega,g⟩,S,b,d⟩;obtain⟨⟨z,B⟩,C⟩:=y h;obtain⟨m,o,p⟩:=sim (by omega) f d C;refine tC (BM (by omega)) (k (_,_) (by omega) ⟨⟨z,by simp;omega,?_⟩,_,b.step m o,p⟩);intro e a;rcases AAh.1 a with a|a
 . exact g e a
 . rw[AAj.1 a];exact B
structure TA (n:Nat) (t:Ac):Prop where
 m:TM n t
 c:HS t.World [] (FQ t.World) t.AH=(0,0)
theorem Run_ok {c:BL} (a:CK c) {l:List Cv} (j:l.length≤1000):Bx (LW c l) λr=>TA l.length r.1:=by
 unfold LW;obtain⟨v,d,i⟩:=P2 a;rw[d,AAP];refine tI (λ_=>tR ⟨⟨by simp,by simp,λh=>absurd rfl h⟩,rfl⟩) λh=> ?_;have f:v=true:=by simpa using h
 refine tB (rG a (by rw[d,f])) λs e=>tB (from_ok a e.1 e.2 j) λr b=>tR ⟨⟨b.1.1,b.1.2,λ_=>(i f).w⟩,?_⟩;obtain⟨S,g,_⟩:=b.2
 have:=g [];rw[List.append_nil]at this;exact this
section
variable {T:ABs->Prop}
def NX:Nat->List AP->Nat
 |0,_=>0
 |d+1,l=>(l.map λs=>1+NX d s.Body+NX d s.Else).sum
theorem sum_le {l:List Nat} {k:Nat} (h:∀x∈l,x≤k):l.sum≤l.length*k:=by
 induction l with
 |nil=>simp
 |cons x r ih=>have b:=h x ABP;have c:=ih λy a=>h y (List.mem_cons_of_mem _ a);rw[List.sum_cons,AA4,ABk];omega
theorem dI (d:Nat):∀l,S6 T d l->NX d l≤10*HT d:=by
 induction d with
 |zero=>exactλ_ _=>Nat.zero_le _
 |succ d ih=>intro l ⟨h1,h2⟩;have f:HT (d+1)=1+20*HT d:=rfl;refine ABK (sum_le (k:=HT (d+1)) ?_) (by rw[AA0];exact ABF _ h1);intro x b;obtain⟨s,a,rfl⟩:=ABi.1 b;have c:=ih _ (h2 s a).body;have e:=ih _ (h2 s a).els;omega
theorem YU {l:List AP} {i:Nat} (h:i<l.length) (f:AP->Nat):((l.take (i+1)).map f).sum=((l.take i).map f).sum+f l[i]:=by rw[← AAm h,AA3,List.sum_append];simp
theorem Mk (l:List AP) (i:Nat) (f:AP->Nat):((l.take i).map f).sum≤(l.map f).sum:=by
 conv=>rhs;rw[← ABj i l,AA3,List.sum_append]
 omega
theorem zM {d:Nat} (h:d≤4):HT d≤8421:=by
 have:d=0∨d=1∨d=2∨d=3∨d=4:=by omega
 rcases this with rfl|rfl|rfl|rfl|rfl<;>decide
theorem xL (d:Nat):∀(n:Nat) (l:List AP),d≤4->d+1≤n->S6 T d l->Bx (Gc n l) λr=>r=(NX d l:Int):=by
 induction d with
 |zero=>intro n l _ hn ⟨_,h⟩;obtain⟨n,rfl⟩:∃k,n=k+1:=⟨n-1,by omega⟩;have:l=[]:=ABE.2 λx a=>(h x a).elim;subst this;show Bx (Cp (Gc n) []) _;exact tR rfl
 |succ d ih=>
  intro n l hd hn ⟨h1,h2⟩;obtain⟨n,rfl⟩:∃k,n=k+1:=⟨n-1,by omega⟩;show Bx (Cp (Gc n) l) _;unfold Cp;have y:=zM (d:=d) (by omega);have g:=dI (T:=T) (d+1) l ⟨h1,h2⟩;have q:=zM hd
  let f:AP->Nat:=λs=>1+NX d s.Body+NX d s.Else
  refine Pr l.length (λi (s:Int)=>s+i=((l.take i).map f).sum+l.length) (F:=λn s i=>Cp.AZ _ l n s i) (by omega) (by simp) λm i s hi j k=> ?_;unfold Cp.AZ Cp.L1 Cp.J1;have z:=Mk l i f;have o:NX (d+1) l=(l.map f).sum:=rfl;refine tD (λp=>aO (by omega) ?_) λ_=>tR ?_
  . have a:l[i]∈l:=AAl (by omega);have b:=(h2 _ a).body;have c:=(h2 _ a).els;have t:=dI d _ b;have w:=dI d _ c;have e:=Mk l (i+1) f;have st:=YU (by omega) f (i:=i) (l:=l);refine tB (ih n _ (by omega) (by omega) b) λv C=>tB (ih n _ (by omega) (by omega) c) λu B=>k _ (by omega) ?_;rw[CX (n:=s+v) (by omega) (by omega),CX (by omega) (by omega),st];show _=((((l.take i).map f).sum+(1+NX d l[i].Body+NX d l[i].Else):Nat):Int)+_;omega
  . rw[o];have:i=l.length:=(by omega);subst this;rw[List.take_length]at j;omega
theorem aN {l:List Cd} {i:Nat} (h:i<l.length) (f:Cd->Nat):((l.take (i+1)).map f).sum=((l.take i).map f).sum+f l[i]:=by rw[← AAm h,AA3,List.sum_append];simp
theorem check60 {p:AQ} (h:MP p):Bx (A2 p) λr=>r.1=0->(p.AA.map λt=>NX 4 t.Body).sum≤60:=by
 have hd:=h.dl;have o:=h.t;have D:HT 4=8421:=rfl;have N:∀{a b:Int} {P:Prop},(a != 0)=true->Bx (some (a,b)) λr:Int×Int=>r.1=0->P:=λh=>tR λj=>by simp only at j;rw[j]at h;cases h
 unfold A2;refine IX (Wb h) λ_=>tI (λ_=>N rfl) λ_=>IX (Zj h) λ_=>tI (λh=>N h) λ_=>tI (λ_=>N rfl) λ_=>IX (U6 h) λ_=>tI (λh=>N h) λ_=> ?_
 let f:Cd->Nat:=λt=>NX 4 t.Body
 have c:∀t∈p.AA,f t≤84210:=λt o=>by have:=dI 4 _ (h.b t o);show NX 4 t.Body≤_;omega
 refine Pr p.AA.length (λi (s:Int)=>s=((p.AA.take i).map f).sum/\s≤i*84210) (F:=λn s i=>A2.AZ p n s i) (by omega) (by simp) λm i s hi g k=> ?_;unfold A2.AZ A2.L1 A2.J1;refine tD (λ_=>aO (by omega) (tB (xL 4 _ _ (by omega) (MI (by omega)) (h.b _ (AAl (by omega)))) λv q=>k _ (by omega) ?_)) λE=>tD (λ_=>N rfl) λy=> ?_
 . have st:=aN (l:=p.AA) (i:=i) (by omega) f;have C:=c _ (AAl (show i<p.AA.length by omega));have e:f p.AA[i]=NX 4 p.AA[i].Body:=rfl;rw[CX (by omega) (by omega),st];omega
 have d:i=p.AA.length:=by omega
 rw[d,List.take_length]at g;have u:(p.AA.map f).sum≤60:=by omega
 refine Pr p.AA.length (λi w=>WK p 0 (i*84210) w) (F:=λn s i=>A2.Cf p n s i) (by omega) ⟨rfl,rfl,by simp,by simp⟩ λm i s hi c k=> ?_;unfold A2.Cf A2.L2 A2.J2;refine tD (λB=>tG (by omega) λx z=> ?_) λ_=>tR λ_=>u;refine tB (oT h 4 _ 0 (i*84210) _ _ (MI (by omega)) (by omega) (by omega) ⟨c.p,c.a,c.s,c.t⟩ (h.b x z)) λv q=>tI (λh=>N h) λ_=>k _ (by omega) (q.mono (by omega))
def SN (t nv:Int) (l:List Dp):Prop:=∀(j:Nat) x,l[j]? =some x->x.Thread=t/\x.Stmt=nv+j
theorem SN.app {t d:Int} {a b:List Dp} (h:SN t d a) (g:SN t (d+a.length) b):SN t d (a++b):=by
 intro j x c;by_cases e:j<a.length
 . rw[AAr e]at c;exact h j x c
 . rw[AAy (by omega)]at c
   have:=g _ x c;exact⟨this.1,by rw[this.2];omega⟩
theorem SN.one {t b l:Int}:SN t b [⟨t,b,l⟩]:=by
 intro j x a;cases j with
 |zero=>simp at a;subst a;exact⟨rfl,by simp⟩
 |succ j=>simp at a
theorem sites_ok (d:Nat):∀(n:Nat) (o:List Dp) (t a:Int) (l:List AP),d+1≤n->o.length+NX d l≤900000->(0≤a/\a+NX d l≤900000)->S6 T d l->Bx (Gd n o t a l) λr=>∃S,r.1=o++S/\S.length=NX d l/\SN t a S/\r.2=a+NX d l:=by
 induction d with
 |zero=>intro n o t a l hn _ _ ⟨_,h⟩;obtain⟨n,rfl⟩:∃k,n=k+1:=⟨n-1,by omega⟩;have:l=[]:=ABE.2 λx b=>(h x b).elim;subst this;show Bx (Cq (Gd n) o t a []) _;exact tR ⟨[],by simp,rfl,λj x b=>by simp at b,by simp[NX]⟩
 |succ d ih=>
  intro n o t a l hn O P ⟨h1,h2⟩;obtain⟨n,rfl⟩:∃k,n=k+1:=⟨n-1,by omega⟩;show Bx (Cq (Gd n) o t a l) _;unfold Cq
  let f:AP->Nat:=λs=>1+NX d s.Body+NX d s.Else
  have Q:NX (d+1) l=(l.map f).sum:=rfl;refine Pr l.length (λi (s:List Dp×Int)=>∃S,s.1=o++S/\S.length=((l.take i).map f).sum/\SN t a S/\s.2=a+((l.take i).map f).sum) (F:=λm s i=>Cq.AZ _ l t m s.1 s.2 i) (s0:=(o,a)) (by omega) ⟨[],by simp,rfl,λj x b=>by simp at b,by simp⟩ λm i s hi G k=> ?_;obtain⟨S,g,c,y,p⟩:=G;unfold Cq.AZ Cq.L1 Cq.J1;refine tD (λN=>aO (by omega) ?_) λR=> ?_
  . have st:=YU (l:=l) (i:=i) (by omega) f;have E:=Mk l (i+1) f;have b:l[i]∈l:=AAl (by omega);have D:f l[i]=1+NX d l[i].Body+NX d l[i].Else:=rfl;have w:s.1.length=o.length+((l.take i).map f).sum:=(by rw[g,AAz,c]);refine tC (BM (by omega)) ?_;rw[p,CX (n:=a+((l.take i).map f).sum+1) (by omega) (by omega)];refine tB (ih n _ t _ _ (by omega) (by simp;omega) (by omega) (h2 _ b).body) λv C=> ?_;obtain⟨S2,z,L,M,q⟩:=C;refine tB (ih n _ t _ _ (by omega) (by rw[z];simp;omega) (by rw[q];omega) (h2 _ b).els) λu H=> ?_;obtain⟨B,I,U,J,K⟩:=H;refine k (_,_) (by omega) ⟨S++([⟨t,a+((l.take i).map f).sum,l[i].FG⟩]++(S2++B)),?_,?_,?_,?_⟩
    . simp only[I,z,g,ABB]
    . simp only[AAz,AA4,ABM];omega
    . refine y.app ?_;rw[c];refine SN.one.app ?_;rw[show a+((l.take i).map f).sum+(([⟨t,a+((l.take i).map f).sum,l[i].FG⟩]:List Dp).length:Int)=a+((l.take i).map f).sum+1 from by simp];refine M.app ?_;rw[L,← q];exact J
    . simp only;rw[K,q,st,D];omega
  . have e:i=l.length:=(by omega);subst e;rw[List.take_length]at c p;exact tR ⟨S,g,c,y,p⟩
end
section
variable {T:ABs->Prop} {g h r:A6} {lo hi lo' hi':Int}
def BS (T:ABs->Prop) (R:A6->List AP->ABr A6) (l:List AP) (n:Nat):Prop:=
 ∀g,GW T g->(0≤g.next/\g.next+n≤1000000)->MA (R g l) λr=>GV g r g.next (g.next+n)/\r.next=g.next+n
theorem LN {l k:List Aa} {i:Nat} (h:i<l.length):(l++k)[i]? =l[i]? :=AAr h
theorem Sa {l:List Aa} {x:Aa}:(l++[x])[l.length]? =some x:=by simp
theorem lE {R:A6->List AP->ABr A6} {s:AP} {n:Nat} (o:GW T g) (j:lo≤g.site/\g.site<hi) (hn:0≤g.next/\g.next+n≤1000000) (t:lo≤g.next) (q:g.next+n≤hi) (m:BS T R s.Body n) {a b c:Int}
 (x:11≤a/\a≤25) (y:11≤b/\b≤25) (i:∀p S,p=a∨p=b->AM g.w ⟨p,c,0,0,0,S⟩=some true):MA (C6 R g s a b c) λr=>GV g r lo hi/\r.next=g.next+n:=by
 unfold C6;refine pB (qO (lo:=lo) (hi:=hi) ⟨by simp only;omega,i _ _ (.inl rfl),by rw[rg0 (by simp only;omega)];simp,j,by simp only;omega,by simp only;omega⟩ (by simp only;omega)) λv d=> ?_;have e:=m v (o.next d.1) (by rw[d.2.2];exact hn);rw[d.2.2]at e;refine pB e λu k=> ?_;have f:=d.1.trans (k.1.mono t q);have l:=f.site g.site u.next;refine pM (IL (lo:=lo) (hi:=hi) ⟨by simp only;omega,?_,by rw[rg0 (by simp only;omega)];simp,j,by simp only;omega,by simp only;omega⟩ (by simp only;omega)) λ_ h=>⟨l.trans h.1,h.2.2.trans k.2⟩;simp only;rw[f.w];exact i _ _ (.inr rfl)
theorem bM {R:A6->List AP->ABr A6} {s:AP} {n m:Nat} (G:GW T g) (O:lo≤g.site/\g.site<hi) (hn:0≤g.next/\g.next+n+m≤1000000) (hl:lo≤g.next) (hh:g.next+n+m≤hi) (N:S5 2 s.Expr) (hR:BS T R s.Body n) (hE:BS T R s.Else m)
 (h3:s.Op=3->m=0) (h0:s.Else=[]->m=0):MA (Ch R g s) λr=>GV g r lo hi/\r.next=g.next+n+m:=by
 have X:(g.locals.length:Int)=2:=by rw[G.l];rfl
 unfold Ch;rw[X];refine pB (Tt N G O (by omega)) λd hd=> ?_;have dL:(d.locals.length:Int)=2:=by rw[hd.1.l];exact X
 rw[dL];refine pB (put_eq _) λq hq=> ?_;have JO:d.site=g.site:=hd.2.1;have u:d.next=g.next:=hd.2.2;subst hq;have H:=G.next hd.1;have j:=hR ⟨d.w,d.locals,d.out++[⟨10,2,0,0,0,d.site⟩],d.site,d.next⟩ ⟨H.w,H.l⟩ (by simp only;rw[u];omega);refine pB j λb t=> ?_;obtain⟨t,E⟩:=t;simp only at E;rw[u]at E;have t:=t.mono (lo':=lo) (hi':=hi) (by simp only;rw[u];exact hl) (by simp only;rw[u];omega);have q1:=hd.1.n;have b1:d.out.length+1≤b.out.length:=by have:=t.n;simpa using this
 have J:∀i,i<d.out.length+1->b.out[i]? =(d.out++[(⟨10,2,0,0,0,d.site⟩:Aa)])[i]? :=λi hi=>t.p i (by simpa using hi);have U:SG d.w lo hi b.out (d.out.length+1) b.out.length b.out.length:=by have:=t.s;simpa using this
 have D:b.w=g.w:=t.w.trans hd.1.w;have I:b.locals=g.locals:=t.l.trans hd.1.l;have dw:=hd.1.w;rw[dw]at U
 -- a list that goes on as these do, but for the branch
 have val:∀(F:List Aa),b.out.length≤F.length->(∀i,i<d.out.length->F[i]? =b.out[i]?)->SG g.w lo hi F g.out.length d.out.length F.length:=λF f1 f2=>
  hd.1.s.frame (λi _ hi=>by rw[f2 i hi,J i (by omega),LN hi]) (by omega) (by omega) (by omega) (by omega)
 have C:∀(F:List Aa),(∀i,i<d.out.length->F[i]? =b.out[i]?)->∀i,i<g.out.length->F[i]? =g.out[i]? :=λF f2 i hi=>by rw[f2 i (by omega),J i (by omega),LN (by omega),hd.1.p i hi]
 have v:∀(F:List Aa) (c:Nat),b.out.length≤F.length->b.out.length≤c->(∀i,d.out.length<i->i<b.out.length->F[i]? =b.out[i]?)->SG g.w lo hi F (d.out.length+1) b.out.length c:=λF c f1 f3 f2=>
  U.frame (λi j o=>(f2 i (by omega) o).symm) f1 (by omega) (by omega) f3
 have L:∀(c:Nat) (B:Nat),B≤c->LV g.w lo hi c ⟨10,2,(B:Int),0,0,d.site⟩:=λc B W=>⟨by simp,nL (by simp),by rw[rg10 rfl];exact QE (x:=0) (by simp),by simp only;rw[JO];exact O,by simp,λ_=>by simp only;omega⟩;have ju:∀(c:Nat) (A:Nat),A≤c->LV g.w lo hi c ⟨5,(A:Int),0,0,0,g.site⟩:=λc A V=>⟨by simp,nL (by simp),by rw[rg0 (.inl rfl)];simp,O,λ_=>by simp only;omega,by simp⟩;have bd:b.out[d.out.length]? =some ⟨10,2,0,0,0,d.site⟩:=by rw[J _ (by omega)];exact Sa
 refine pI (λh=> ?_) λNl=>pI (λh=> ?_) λZ=> ?_
 . -- a loop
   have hm:=h3 (eq_of_beq h);refine pB (put_eq _) λe N=> ?_;subst N;refine pE (y:=⟨10,2,0,0,0,d.site⟩) (by rw[JN];simp only;rw[LN (by omega)];exact bd) (pR ⟨?_,by simp only;omega⟩);simp only;generalize a:(b.out++[(⟨5,(g.out.length:Int),0,0,0,g.site⟩:Aa)]).set d.out.length ⟨10,2,((b.out++[(⟨5,(g.out.length:Int),0,0,0,g.site⟩:Aa)]).length:Int),0,0,d.site⟩=F;have fl:F.length=b.out.length+1:=(by rw[← a];simp);have f1:∀i,i≠d.out.length->i<b.out.length->F[i]? =b.out[i]? :=λi j o=>(by rw[← a,AAW (by omega),LN o]);have f2:F[d.out.length]? =some ⟨10,2,((b.out.length+1:Nat):Int),0,0,d.site⟩:=(by rw[← a,AAT (by simp;omega)];simp);have f3:F[b.out.length]? =some ⟨5,(g.out.length:Int),0,0,0,g.site⟩:=(by rw[← a,AAW (by omega)];exact Sa);refine⟨D,I,by simp only;omega,C F λi hi=>f1 i (by omega) (by omega),?_⟩;simp only
   have:=SG.back (val F (by omega) λi hi=>f1 i (by omega) (by omega)) f2 (L _ _ (by omega)) rfl (v F F.length (by omega) (by omega) λi j o=>f1 i (by omega) o) f3 (ju _ _ (by omega)) rfl rfl;rw[fl]at this ⊢;exact this
 . -- without another part
   have hm:m=0:=h0 (by have:=eq_of_beq h;exact List.length_eq_zero_iff.1 (by omega));refine pE (y:=⟨10,2,0,0,0,d.site⟩) (by rw[JN];exact bd) (pR ⟨?_,by simp only;omega⟩);simp only;generalize a:b.out.set d.out.length ⟨10,2,(b.out.length:Int),0,0,d.site⟩=F;have fl:F.length=b.out.length:=(by rw[← a];simp);have f1:∀i,i≠d.out.length->F[i]? =b.out[i]? :=λi j=>(by rw[← a,AAW (by omega)]);have f2:F[d.out.length]? =some ⟨10,2,(b.out.length:Int),0,0,d.site⟩:=(by rw[← a,AAT (by omega)]);refine⟨D,I,by simp only;omega,C F λi hi=>f1 i (by omega),?_⟩;simp only
   have:=((val F (by omega) λi hi=>f1 i (by omega)).app (SG.one f2 (L _ _ (by omega)) (by simp))).app (v F F.length (by omega) (by omega) λi j o=>f1 i (by omega));rw[fl]at this ⊢;exact this
 . -- with another part
   refine pB (put_eq _) λf hf=> ?_;subst hf;refine pE (y:=⟨10,2,0,0,0,d.site⟩) (by rw[JN];simp only;rw[LN (by omega)];exact bd) ?_;simp only;generalize a:(b.out++[(⟨5,0,0,0,0,g.site⟩:Aa)]).set d.out.length ⟨10,2,((b.out++[(⟨5,0,0,0,0,g.site⟩:Aa)]).length:Int),0,0,d.site⟩=F;have fl:F.length=b.out.length+1:=(by rw[← a];simp);have f1:∀i,i≠d.out.length->i<b.out.length->F[i]? =b.out[i]? :=λi j o=>(by rw[← a,AAW (by omega),LN o]);have f2:F[d.out.length]? =some ⟨10,2,((b.out.length+1:Nat):Int),0,0,d.site⟩:=(by rw[← a,AAT (by simp;omega)];simp);have f3:F[b.out.length]? =some ⟨5,0,0,0,0,g.site⟩:=(by rw[← a,AAW (by omega)];exact Sa);have h4:=hE ⟨b.w,b.locals,F,g.site,b.next⟩ ⟨by simp only;rw[D];exact G.w,I.trans G.l⟩ (by simp only;omega);refine pB h4 λi hi=> ?_;obtain⟨z,Ul⟩:=hi;simp only at Ul;have z:=z.mono (lo':=lo) (hi':=hi) (by simp only;omega) (by simp only;omega);have i1:b.out.length+1≤i.out.length:=(by have:=z.n;simp only[fl]at this;exact this);have P:∀k,k<b.out.length+1->i.out[k]? =F[k]? :=λk hk=>z.p k (by simp only[fl];exact hk);have is:SG g.w lo hi i.out (b.out.length+1) i.out.length i.out.length:=(by have:=z.s;simp only[fl,D]at this;exact this);refine pE (y:=⟨5,0,0,0,0,g.site⟩) (by rw[JN,P _ (by omega)];exact f3) (pR ⟨?_,by simp only;omega⟩);simp only;generalize M:i.out.set b.out.length ⟨5,(i.out.length:Int),0,0,0,g.site⟩=K;have kl:K.length=i.out.length:=(by rw[← M];simp);have Q:∀k,k≠b.out.length->K[k]? =i.out[k]? :=λk j=>(by rw[← M,AAW (by omega)]);have S:∀k,k≠d.out.length->k<b.out.length->K[k]? =b.out[k]? :=λk j o=>(by rw[Q k (by omega),P k (by omega),f1 k j o]);have k3:K[d.out.length]? =some ⟨10,2,((b.out.length+1:Nat):Int),0,0,d.site⟩:=(by rw[Q _ (by omega),P _ (by omega)];exact f2);have k4:K[b.out.length]? =some ⟨5,(i.out.length:Int),0,0,0,g.site⟩:=(by rw[← M,AAT (by omega)]);refine⟨z.w.trans D,z.l.trans I,by simp only;omega,C K λi hi=>S i (by omega) (by omega),?_⟩;simp only;have V:=((val K (by omega) λi hi=>S i (by omega) (by omega)).app (SG.one k3 (L _ _ (by omega)) (by simp))).app (v K K.length (by omega) (by omega) λi j o=>S i (by omega) o);have W:SG g.w lo hi K (b.out.length+1) i.out.length K.length:=is.frame (λk j _=>(Q k (by omega)).symm) (by omega) (by omega) (by omega) (by omega)
   have:=V.jump k4 (ju _ _ (by omega)) rfl rfl W;rw[kl]at this ⊢;exact this
theorem q8 (d:Nat):NX d []=0:=by cases d<;>rfl
end
section
variable {T:ABs->Prop} {g h r:A6} {lo hi lo' hi':Int}
theorem bQ (h:g.w.Ah=[⟨cN,0⟩]):CG g cN=some (0,g):=by unfold CG;have a:=Bj;obtain⟨n,hn⟩:∃n,BU=n+1:=⟨BU-1,by omega⟩;rw[hn];unfold CG.AZ CG.L1;rw[h];simp[gt]
theorem xI {l:List ABs} {s:ABs} (m:l.length<1000000):MA (CF l s) λr=>s∈l->0≤r/\r<l.length:=by
 unfold CF;refine pLs l.length (λi (_:Unit)=>∀j:Nat,j<i->l[j]? ≠some s) (s0:=()) (F:=λn _ i=>CF.AZ l s n i) (λ_ _=>rfl) (by omega) (λj c=>by omega) λn i _ hi b k=> ?_;unfold CF.AZ CF.L1 CF.J1;refine pD (λg=>pE (Cw (by omega)) (pI (λ_=>pR λ_=>by omega) λa=>k () (by omega) ?_)) λo=>pR λd=> ?_
 . intro j c e;by_cases h:j<i
   . exact b j h e
   . obtain rfl:j=i:=(by omega);rw[AAV (by omega)]at e;rw[AAU e]at a;simp at a
 . obtain⟨j,j1,f⟩:=List.getElem_of_mem d;exact absurd (by rw[AAV j1,f]) (b j (by omega))
theorem stmt_par {R:A6->List AP->ABr A6} {s:AP} {k B E:Nat} (m:GW T g) (u:ID T (k+1) s) (hn:0≤g.next/\g.next+(1+B+E)≤1000000) (hB:BS T R s.Body B) (hE:BS T R s.Else E) (b0:s.Body=[]->B=0) (e0:s.Else=[]->E=0):
 MA (CR (Ch R) (C6 R) g s) λr=>GV g r g.next (g.next+(1+B+E))/\r.next=g.next+(1+B+E):=by
 have hw:Ay (g.next+1)=g.next+1:=CX (by omega) (by omega);have bd:=u.2.2.2.2.2.2.2.2.1;have nm:=u.2.2.2.2.2.2.2.2.2;have nB:s.Op∉[(2:Int),3,4,5,6,7,8]->B=0:=λh=>b0 (bd.1 h);have K:s.Op≠2->E=0:=λh=>e0 (bd.2 h);unfold CR;rw[hw];generalize o:A6.mk g.w g.locals g.out g.next (g.next+1)=g1;have I:GW T g1:=by rw[← o];exact⟨m.w,m.l⟩
 have gs:g1.site=g.next:=by rw[← o]
 have H:g1.next=g.next+1:=by rw[← o]
 have j:g1.w=g.w:=by rw[← o]
 have gl:(g1.locals.length:Int)=2:=by rw[I.l];rfl
 have up:∀{r lo hi},GV g1 r lo hi->GV g r lo hi:=λh=>by rw[← o]at h;exact⟨h.w,h.l,h.n,h.p,h.s⟩
 have si:g.next≤g1.site/\g1.site<g.next+(1+B+E):=by rw[gs];omega
 -- one instruction
 have P:∀i:Aa,s.Op∉[(2:Int),3,4,5,6,7,8]->LV g1.w g.next (g.next+(1+B+E)) (g1.out.length+1) ⟨i.Op,i.A,i.B,i.C,i.N,g1.site⟩->i.Op≠5->MA ((A3 g1 i).bind λv=>some v) λr=>GV g r g.next (g.next+(1+B+E))/\r.next=g.next+(1+B+E):=by intro i F J h3;have z1:=nB F;have z2:=K (by intro h;rw[h]at F;simp at F);exact pM (IL J h3) λr h=>⟨up h.1,by rw[h.2.2,H];omega⟩
 have A:∀{a b c:Int},s.Op≠2->11≤a/\a≤25->11≤b/\b≤25->(∀p S,p=a∨p=b->AM g1.w ⟨p,c,0,0,0,S⟩=some true)->MA ((C6 R g1 s a b c).bind λv=>some v) λr=>GV g r g.next (g.next+(1+B+E))/\r.next=g.next+(1+B+E):=by intro a b c J ha O U;have z2:=K J;exact pB (lE (lo:=g.next) (hi:=g.next+(1+B+E)) I si (by omega) (by omega) (by omega) hB ha O U) λr h=>pR ⟨up h.1,by rw[h.2,H];omega⟩
 have lk:g.w.AF=Xa:=m.w.l;have j1:∀b,(b=true->s.Op=2∨s.Op=3)->(b=false->s.Op≠1/\s.Op≠2/\s.Op≠3)->MA (CR.J1 (Ch R) (C6 R) g s b) λr=>GV g r g.next (g.next+(1+B+E))/\r.next=g.next+(1+B+E):=by
  intro b O tS;unfold CR.J1;rw[hw,o];refine pI (λh=> ?_) λh0=> ?_
  . have U:=O h;have Q:S5 2 s.Expr:=u.2.2.1.resolve_right λh=>h.1 (by rcases U with h|h<;>simp[h]);exact pB (bM (lo:=g.next) (hi:=g.next+(1+B+E)) I si (by omega) (by omega) (by omega) Q hB hE (λh=>K (by omega)) e0) λr h=>pR ⟨up h.1,by rw[h.2,H];omega⟩
  have n0:=tS h0;refine pI (λh=> ?_) λn4=>pI (λh=> ?_) λn5=>pI (λh=> ?_) λn6=>pI (λh=> ?_) λn7=>pI (λh=> ?_) λn8=> ?_
  . have h:=eq_of_beq h;rw[lk];rcases nm.2.1 h with F|F<;>rw[F]
    . exact pE (y:=0) (by decide +kernel) (A (by omega) (by omega) (by omega) λp S G=>objM (by simp only;omega) (y:=⟨⟨#[109]⟩,false⟩) (by rw[j,lk];rfl) rfl)
    . exact pE (y:=1) (by decide +kernel) (A (by omega) (by omega) (by omega) λp S G=>objM (by simp only;omega) (y:=⟨⟨#[110]⟩,false⟩) (by rw[j,lk];rfl) rfl)
  . have h:=eq_of_beq h;rw[lk,nm.2.2.1 (.inl h)];exact pE (y:=2) (by decide +kernel) (A (by omega) (by omega) (by omega) λp S G=>objR (by simp only;omega) (y:=⟨⟨#[114]⟩,true⟩) (by rw[j,lk];rfl) rfl)
  . have h:=eq_of_beq h;rw[lk,nm.2.2.1 (.inr h)];exact pE (y:=2) (by decide +kernel) (A (by omega) (by omega) (by omega) λp S G=>objR (by simp only;omega) (y:=⟨⟨#[114]⟩,true⟩) (by rw[j,lk];rfl) rfl)
  . have h:=eq_of_beq h;exact A (by omega) (by omega) (by omega) λp S G=>nL (by rcases G with h|h<;>simp[h])
  . have h:=eq_of_beq h;exact A (by omega) (by omega) (by omega) λp S G=>nL (by rcases G with h|h<;>simp[h])
  simp only[ABZ,ne_eq]at n4 n5 n6 n7 n8;have D:s.Op∉[(2:Int),3,4,5,6,7,8]:=by simp;omega
  have L:∀{p c e:Int},11≤p/\p≤25->AM g1.w ⟨p,c,0,0,0,g1.site⟩=some true->LV g1.w g.next (g.next+(1+B+E)) (g1.out.length+1) ⟨p,c,0,0,0,g1.site⟩:=λF J=>
   ⟨by simp only;omega,J,by rw[rg0 (by simp only;omega)];simp,si,by simp only;omega,by simp only;omega⟩
  have M:g1.w.Ah=[⟨cN,0⟩]:=by rw[j];exact m.w.d
  have G8:(g1.w.Ah.length:Int)=1:=by rw[M];rfl
  refine pI (λh=> ?_) λn9=>pI (λh=> ?_) λV=>pI (λh=> ?_) λW=>pI (λh=> ?_) λX=>pI (λh=> ?_) λZ=>pI (λh=> ?_) λn14=>pI (λh=> ?_) λn15=> ?_
  . rw[u.2.2.2.1 (by simp[eq_of_beq h])];exact pE (bQ M) (P ⟨21,0,0,0,0,0⟩ D (L (e:=0) (by simp) (objC (.inl rfl) (by simp only;omega))) (by simp))
  . rw[u.2.2.2.1 (by simp[eq_of_beq h])];exact pE (bQ M) (P ⟨22,0,0,0,0,0⟩ D (L (e:=0) (by simp) (objC (.inr (.inl rfl)) (by simp only;omega))) (by simp))
  . rw[u.2.2.2.1 (by simp[eq_of_beq h])];exact pE (bQ M) (P ⟨23,0,0,0,0,0⟩ D (L (e:=0) (by simp) (objC (.inr (.inr rfl)) (by simp only;omega))) (by simp))
  . refine pB (xI (by have:=m.w.n;omega)) λv z=> ?_
    have:=z (m.w.t _ (nm.2.2.2.1 (.inl (eq_of_beq h))));exact P ⟨24,v,0,0,0,0⟩ D (L (e:=0) (by simp) (objT (.inl rfl) (by simp only;rw[j];exact this))) (by simp)
  . refine pB (xI (by have:=m.w.n;omega)) λv z=> ?_
    have:=z (m.w.t _ (nm.2.2.2.1 (.inr (eq_of_beq h))));exact P ⟨25,v,0,0,0,0⟩ D (L (e:=0) (by simp) (objT (.inr rfl) (by simp only;rw[j];exact this))) (by simp)
  . have h:=eq_of_beq h;have Q:S5 2 s.Expr:=u.2.2.1.resolve_right λq=>q.1 (by simp[h]);have z1:=nB D;have z2:=K (by omega);rw[show(g.locals.length:Int)=2 from by rw[m.l];rfl];refine pB (Tt (lo:=g.next) (hi:=g.next+(1+B+E)) Q I si (by omega)) λv z=> ?_;have hf:v.w.AK=[⟨#[102]⟩]:=(by rw[z.1.w,j];exact m.w.f);rw[hf,nm.2.2.2.2.1 h];refine pE (y:=0) (by decide +kernel) (pM (IL ⟨by simp,obj26 rfl (by rw[hf];simp),by rw[rg26 rfl];exact QE (x:=0) (by simp),by rw[z.2.1];exact si,by simp,by simp⟩ (by simp)) λr h=>⟨up (z.trans h).1,by rw[h.2.2,z.2.2,H];omega⟩)
  . have h:=eq_of_beq h;have hn:=nm.2.2.2.2.2 h;rw[m.l,m.w.f,hn.1,hn.2];refine pE (y:=0) (by decide +kernel) (pE (y:=0) (by decide +kernel) (P ⟨27,0,0,0,0,0⟩ D ⟨by simp,obj27 rfl (by rw[j,m.w.f];simp),by rw[rg27 rfl];exact QE (x:=0) (by simp),si,by simp,by simp⟩ (by simp)))
  . have:=u.1;simp only[ABZ,ne_eq]at n9 V W X Z n14 n15;omega
 refine pI (λh=> ?_) λn1=>pI (λh=>j1 _ (λ_=>.inl (eq_of_beq h)) λh'=>by rw[h']at h;cases h) λn2=>j1 _ (λh=>.inr (eq_of_beq h)) λh=>⟨by simpa using n1,by simpa using n2,by simpa using h⟩;have h:=eq_of_beq h;have z1:=nB (by rw[h];decide);have z2:=K (by omega);exact pB (lH (lo:=g.next) (hi:=g.next+(1+B+E)) I si u h) λr h=>pR ⟨up h.1,by rw[h.2.2,H];omega⟩
theorem vX (d:Nat):∀(n:Nat) (l:List AP),3*d+1≤n->S6 T d l->BS T (DM n) l (NX d l):=by
 induction d with
 |zero=>intro n l hn ⟨_,h⟩ g hg j;obtain⟨n,rfl⟩:∃k,n=k+1:=⟨n-1,by omega⟩;have:l=[]:=ABE.2 λx j=>(h x j).elim;subst this;show MA (some g) _;exact pR ⟨GV.refl,by simp[NX]⟩
 |succ d ih=>
  intro n l hn ⟨h1,h2⟩ g hg j;obtain⟨n,rfl⟩:∃k,n=k+3:=⟨n-3,by omega⟩;show MA (B0 (CR (Ch (DM n)) (C6 (DM n))) g l) _;unfold B0
  let f:AP->Nat:=λs=>1+NX d s.Body+NX d s.Else
  have t:NX (d+1) l=(l.map f).sum:=rfl;refine pLs l.length (λi s=>GV g s g.next (g.next+((l.take i).map f).sum)/\s.next=g.next+((l.take i).map f).sum) (F:=λm s i=>B0.AZ _ l m s i) (λ_ _=>rfl) (by omega) ⟨GV.refl,by simp⟩ λm i s hi p k=> ?_;obtain⟨a,b⟩:=p;unfold B0.AZ B0.L1;refine pD (λq=>pE (Cw (by omega)) ?_) λu=> ?_
  . have st:=YU (l:=l) (i:=i) (by omega) f;have o:=Mk l (i+1) f;have c:l[i]∈l:=AAl (by omega);have r:f l[i]=1+NX d l[i].Body+NX d l[i].Else:=rfl;refine pB (stmt_par (hg.next a) (h2 _ c) (by rw[b];omega) (ih n _ (by omega) (h2 _ c).body) (ih n _ (by omega) (h2 _ c).els) (λh=>by rw[h];exact q8 d) λh=>by rw[h];exact q8 d) λv e=>k _ (by omega) ?_;rw[b]at e;refine⟨(a.mono (by omega) (by omega)).trans (e.1.mono (by omega) (by omega)),by rw[e.2];omega⟩
  . have:i=l.length:=(by omega);subst this;rw[List.take_length]at a b;exact pR ⟨a,b⟩
theorem RN {l:List Aa} {a b:Nat} (h:l.length≤8000000) (g:b≤l.length):∀(n fuel i k m:Nat),QN l a b n k m->Ev l m->n+i≤l.length->l.length+1<fuel+i->B1.AZ l fuel k i=some true:=by
 intro n;induction n with
 |zero=>intro fuel i k m r ⟨x,x1,x2⟩ h1 h2;cases r;obtain⟨fuel,rfl⟩:∃f,fuel=f+1:=⟨fuel-1,by omega⟩;have d:=(AAS.1 x1).1;unfold B1.AZ B1.L1 B1.J1;rw[BG (by omega),Ad (by omega),AAZ (by simp;omega),JN,x1,AAP,P1,x2];rfl
 |succ n ih=>
  intro fuel i k m ⟨d,j,⟨x,x1,x2,x3⟩,r⟩ ev h1 h2;obtain⟨fuel,rfl⟩:∃f,fuel=f+1:=⟨fuel-1,by omega⟩;unfold B1.AZ B1.L1 B1.J1 B1.J2;have d:=(AAS.1 x1).1;rw[BG (by omega),Ad (by omega),AAZ (by simp;omega),JN,x1,AAP,P1,x2,AAP,Ao (by omega)]
  have:=ih fuel (i+1) j m r ev (by omega) (by omega);rcases x3 with⟨c,e⟩|⟨c,rfl⟩
  . rw[AAZ (by simp),AAa (by simpa using c),e];exact this
  . rw[AAZ (by simp),AAZ (by simpa using c),Ao (by omega)];exact this
structure VO (w:AB) (t:Int) (c:Av):Prop where
 r:2≤c.CY/\c.CY≤32
 n:∃out lo hi,c.Bg=out++[⟨28,0,0,0,0, -1⟩]/\SG w lo hi out 0 out.length out.length/\(∀k,lo≤k->k<hi->∃y,gt w.BF k=some y/\y.Thread=t)
 g:∀x∈c.Bg,∀y∈rg x,y<c.CY
theorem objE {w:AB} {x:Aa} (h:x.Op=28):AM w x=some true:=by simp[AM,AM.J3,AM.J5,AM.J7,AM.J8,h]
theorem UZ {w:AB} {t:Int} {c:Av} (E:c.Bg.length≤8000000) (S:VO w t c):AR w t c=some true:=by
 obtain⟨⟨r1,r2⟩,⟨out,lo,hi,C,I,V⟩,R⟩:=S;have hl:c.Bg.length=out.length+1:=by rw[C];simp
 have M:=Bj
 -- an instruction
 have p:∀(i:Nat) x,c.Bg[i]? =some x->(i<out.length/\out[i]? =some x)∨i=out.length/\x=⟨28,0,0,0,0, -1⟩:=by
  intro i x d;rw[C]at d;by_cases h:i<out.length
  . rw[LN h]at d;exact .inl ⟨h,d⟩
  . have:=(AAS.1 d).1;simp at this;obtain rfl:i=out.length:=(by omega);rw[Sa]at d;cases d;exact .inr ⟨rfl,rfl⟩
 have W:c.Bg[out.length]? =some ⟨28,0,0,0,0, -1⟩:=by rw[C];exact Sa
 have z:∀i:Nat,i<c.Bg.length->B1 c.Bg (i:Int)=some true:=by
  intro i hi;have K:∀{n k m},QN out 0 out.length n k m->QN c.Bg 0 out.length n k m:=λr=>r.frame (λj _ N=>by rw[C,LN N]) (by omega) (by omega);have J:Ev c.Bg out.length:=⟨_,W,rfl⟩;unfold B1;by_cases h:i<out.length
  . rcases I.f i (by omega) h with⟨n,m,r,U,⟨x,X,Z⟩,hn⟩|⟨n,r,hn⟩
    . exact RN E (by omega) n BU 0 i m (K r) ⟨x,by rw[C,LN U.2];exact X,Z⟩ (by omega) (by omega)
    . exact RN E (by omega) n BU 0 i _ (K r) J (by omega) (by omega)
  . obtain rfl:i=out.length:=(by omega);exact RN (a:=0) (b:=0) E (by omega) 0 BU 0 _ _ rfl J (by omega) (by omega)
 have key:Bx (AR w t c) λb=>b=true:=by
  unfold AR;refine tD (λh=>by omega) λ_=>tD (λh=>by omega) λ_=> ?_;rw[show((c.Bg.length:Int)==0)=false from ABZ.2 (by omega)];unfold AR.J1;refine tI (λh=>by cases h) λ_=>Pr c.Bg.length (λ_ (_:Unit)=>True) (s0:=()) (F:=λn _ i=>AR.AZ c t w n i) (by omega) trivial λn i _ hi _ k=> ?_;unfold AR.AZ AR.L1 AR.J6;refine tD (λDq=>aO (by omega) ?_) λ_=>tR rfl;have d:c.Bg[i]? =some c.Bg[i]:=AAV (by omega);have u:c.Bg[i]∈c.Bg:=AAl (by omega);generalize c.Bg[i]=x at d u;have O:B1 c.Bg (i:Int)=some true:=z i (by omega);have P:Ay ((c.Bg.length:Int)-1)=out.length:=by rw[CX (by omega) (by omega)];omega
  -- the registers
  have v:Bx (AR.J4 (AR.AZ c t w n) c i x false) λb=>b=true:=by
   unfold AR.J4;refine tI (λh=>by cases h) λ_=>tE (GZ x).1 (Pr (rg x).length (λ_ (_:Unit)=>True) (s0:=()) (F:=λn _ i=>AR.Cf _ c _ (rg x) n i) (by have:=(GZ x).2;omega) trivial λm j _ N _ T=> ?_);unfold AR.Cf AR.L2 AR.J5;refine tD (λ_=>aO (by omega) ?_) λ_=>k () (by omega) trivial;have H:(rg x)[j]∈rg x:=AAl (by omega);have Q:0≤(rg x)[j]:=by
    rcases p i x d with⟨h,D⟩|⟨_,rfl⟩
    . exact((I.i i x (by omega) h D).g _ H).1
    . have:=List.length_pos_of_mem H;rw[rg0 (.inr (.inr rfl))]at this;cases this
   exact tE (Ih ⟨Q,R x u _ H⟩) (tI (λh=>by cases h) λ_=>T () (by omega) trivial)
  rcases p i x d with⟨q,D⟩|⟨G,rfl⟩
  . have l:=I.i i x (by omega) q D;have lo':=l.o;have B:x.Op≠28:=(by omega);refine tD (λh=>by omega) λ_=>tD (λh=>by omega) λ_=> ?_;rw[P,show(x.Op==28)=false from by simpa using B,show((i:Int)==(out.length:Int))=false from by simp;omega];refine tI (λh=>by cases h) λ_=>tE l.ob (tI (λh=>by cases h) λ_=>tE O ?_);unfold AR.J2;obtain⟨y,y1,y2⟩:=V _ l.s.1 l.s.2;refine tI (λh=>by cases h) λ_=>tI (λh=>absurd (eq_of_beq h) B) λ_=>tI (λ_=> ?_) λh=>(by simp at h;omega);refine tE (Ih (Zr y1)) (tI (λh=>by cases h) λ_=>tE y1 ?_);rw[y2,show(t != t)=false from by simp];unfold AR.J3;refine tI (λh=>by cases h) λ_=>tI (λL=> ?_) λ_=>tI (λe=> ?_) λ_=>v
    . have:=l.j (eq_of_beq L);refine tE (Ih (by omega)) (tI (λh=>by cases h) λ_=>tI (λe=> ?_) λ_=>v);rw[eq_of_beq L]at e;cases e
    . have:=l.b (eq_of_beq e);exact tE (Ih (by omega)) v
  . refine tD (λh=>by simp at h) λ_=>tD (λh=>by simp at h) λ_=> ?_;rw[P,G];simp only[ABC,Bool.not_true];refine tI (λh=>by cases h) λ_=>tE (objE rfl) (tI (λh=>by cases h) λ_=>tE (G▸O) ?_);rw[G]at v;unfold AR.J2 AR.J3;refine tI (λh=>by cases h) λ_=>tI (λ_=>tI (λh=>by cases h) λ_=>tI (λh=>by cases h) λ_=>tI (λh=>by cases h) λ_=>tI (λh=>by cases h) λ_=>tI (λh=>by cases h) λ_=>v) λh=>by cases h
 obtain⟨b,M,rfl⟩:=key;exact M
end
end Go.Abs
