/- What the typed programs give, in plain Lean. -/
import Derived.Test.YthmijagacgnmkaaGreatDoorWalkN
import Derived.Test.YthmijagacgnmkaaGreatDoorPlainA
import Derived.KernelRfl
set_option linter.unusedSimpArgs false
set_option linter.unusedVariables false
namespace Go.Abs
set_option maxHeartbeats 4000000
def Ug(t t':AU):Prop:=EW t'/\t'.L=t.L/\t.At<=t'.At
theorem Ug.trans{a b c:AU}(h:Ug a b)(k:Ug b c):Ug a c:=⟨k.1,k.2.1.trans h.2.1,Int.le_trans h.2.2 k.2.2⟩
theorem HG{t:AU}(b:EW t){n:Int}(hn:0<n/\n<1000):B7 (Ae t n) λr=>(0<=r.1/\r.1<n)/\Ug t r.2/\(t.At<t.L.length->t.At<r.2.At):=by
 have e:=b.l;have f:=b.a;unfold Ae Ae.J1;rw[CH (n:=t.At+1) (by omega) (by omega),CH (n:=t.At+1-1) (by omega) (by omega)];refine tI (λh=> ?_) λh=> ?_
 . have h:=AAq h;exact tI (λ_=>tR ⟨⟨by omega,hn.1⟩,⟨b,rfl,by simp⟩,λ_=>by omega⟩) λh=>by cases h
 . have d:¬t.At>=(t.L.length:Int):=(by simpa using h);refine tI (λh=>absurd (AAq h) (by omega)) λ_=> ?_;refine tG (by omega) λx c=>tC (by omega) (tR ⟨?_,⟨⟨b.l,by grind,b.u⟩,rfl,by grind⟩,λ_=>by grind⟩);have c:=b.u x c;rw[CH (by omega) (by omega)];exact⟨Int.tmod_nonneg _ c.1,Int.tmod_lt_of_pos _ hn.1⟩
def Ez:AD:=(Fi).getD ⟨[],[],[],[],[],[]⟩
theorem cE:Fi=some Ez:=by decide +kernel
theorem xQ:Cs Ez=true:=by decide +kernel
theorem UN:Ez.Cells.length=5:=by decide +kernel
theorem Y4:Ez.AE.length=3:=by decide +kernel
theorem Y3:Ez.AK.length=1:=by decide +kernel
theorem UO:Ez.AA.length=4:=by decide +kernel
theorem o8{b:AU}(f:EW b){k u:Int}(o:0<=u/\u<4):B7 (Cx b k u) λr=>(k=3\/k=4->0<=r.1/\r.1<5)/\Ug b r.2:=by
 have hn:Ug b b:=⟨f,rfl,Int.le_refl _⟩;have g:∀p,k≠3->k≠4->B7 (Cx.J5 b u p) λr=>(k=3\/k=4->0<=r.1/\r.1<5)/\Ug b r.2:=by intro p c d;unfold Cx.J5;refine tI (λ_=>tB (HG f (by omega)) ?_) λ_=>tR ⟨λh=>by omega,hn⟩;rintro r ⟨_,h,_⟩;exact tR ⟨λh=>by omega,h⟩
 have d:∀p,k≠3->k≠4->B7 (Cx.J4 k b u p) λr=>(k=3\/k=4->0<=r.1/\r.1<5)/\Ug b r.2:=by intro p c d;unfold Cx.J4;exact tI (λ_=>tR ⟨λh=>by omega,hn⟩) λ_=>tI (λ_=>g _ c d) λ_=>g _ c d
 have c:∀p,k≠3->k≠4->B7 (Cx.J3 k b u p) λr=>(k=3\/k=4->0<=r.1/\r.1<5)/\Ug b r.2:=by
  intro p c a;unfold Cx.J3;refine tI (λ_=>tR ⟨λh=>by omega,hn⟩) λ_=> ?_
  iterate 5 refine tI (λ_=>d _ c a) λ_=> ?_
  exact d _ c a
 have m:∀p,k≠3->k≠4->B7 (Cx.J2 k b u p) λr=>(k=3\/k=4->0<=r.1/\r.1<5)/\Ug b r.2:=by
  intro p e a;unfold Cx.J2;refine tI (λ_=>tB (HG f (by omega)) ?_) λ_=> ?_
  . rintro r ⟨_,h,_⟩;exact tR ⟨λh=>by omega,h⟩
  iterate 3 refine tI (λ_=>c _ e a) λ_=> ?_
  exact c _ e a
 have l:∀p,(p=false->k≠3/\k≠4)->B7 (Cx.J1 k b u p) λr=>(k=3\/k=4->0<=r.1/\r.1<5)/\Ug b r.2:=by
  intro p n;unfold Cx.J1;refine tI (λ_=>tB (HG f (by omega)) ?_) λh=> ?_
  . rintro r ⟨j,h,_⟩;refine tG (by omega) λx i=>tR ⟨λ_=> ?_,h⟩;simp only[ABH,ABa,ABU]at i;omega
  . grind
 unfold Cx;grind
theorem Vo(s:AB)(f:s.Sync.AA.length<=500):B7 (EH s) λr=>r.length<=s.Sync.AA.length:=by
 have e:=BU;have key:∀n (i:Nat) (c:List Int),s.Sync.AA.length<n+i->i<=s.Sync.AA.length->c.length<=i->B7 (EH.AZ s n c i) λr=>r.length<=s.Sync.AA.length:=by
  intro n;induction n with
  |zero=>omega
  |succ n ih=>intro i c a b d;unfold EH.AZ EH.L1;refine tI (λh=> ?_) λ_=>tR (by omega);have h:=AAq h;unfold EH.J1;rw[Ai (by omega)];refine tG (by omega) λx _=>tI (λ_=>tC (Bh (by omega)) ?_) λ_=>ih (i+1) c (by omega) (by omega) (by omega);exact ih (i+1) _ (by omega) (by omega) (by simp;omega)
 exact key BP 0 [] (by omega) (by omega) (by simp)
theorem x6{b:AU}(a:EW b){s:AB}{k o:Int}(e:s.Sync.AA.length<=500)(g:k=3->0<=o/\o<(s.Cells.length:Int))(i:0<s.AK.length):B7 (G0 b s k o) λr=>Ug b r.2:=by
 have hn:Ug b b:=⟨a,rfl,Int.le_refl _⟩;have d:∀p,B7 (G0.J1 k s b p) λr=>Ug b r.2:=by
  intro p;unfold G0.J1;refine tI (λ_=>tB (HG a (by omega)) λr h=>tR h.2.1) λ_=>tI (λ_=>tB (HG a (by omega)) λr h=>tR h.2.1) λ_=>tI (λ_=> ?_) λ_=>tI (λ_=> ?_) λ_=>tR hn
  . refine tB (Vo s e) λl c=>tI (λh=> ?_) λ_=>tR hn;have h:=AAq h;refine tB (HG a (by omega)) ?_;rintro r ⟨f,h,_⟩;exact tG f λx _=>tR h
  . exact tB (Vo s e) λl c=>tR hn
 unfold G0;refine tI (λh=>tG (g (by grind)) λx _=>tR hn) λ_=>tI (λ_=>tG (by omega) λx _=>tR hn) λ_=>tI (λ_=>d _) λ_=>d _
theorem lG{b:AU}(m:EW b){l:List Int}(u:l.length<=1000):B7 (E0 b l) λr=>r.1.length<=l.length/\Ug b r.2:=by
 have o:=BU;have key:∀n (i:Nat) (d:AU) (c:List Int),l.length<n+i->i<=l.length->c.length<=i->EW d->Ug b d->B7 (E0.AZ l n d c i) λr=>r.1.length<=l.length/\Ug b r.2:=by
  intro n;induction n with
  |zero=>omega
  |succ n ih=>intro i d c q s t hd e;unfold E0.AZ E0.L1;refine tI (λh=> ?_) λ_=>tR ⟨by grind,e⟩;have h:=AAq h;have j:∀a f p,EW a->Ug b a->B7 (E0.J1 (E0.AZ l n) c i f a p) λr=>r.1.length<=l.length/\Ug b r.2:=(by intro a f p g k;unfold E0.J1 E0.J2;rw[Ai (by omega)];exact tI (λ_=>tC (Bh (by omega)) (ih (i+1) a _ (by omega) (by omega) (by simp;omega) g k)) λ_=>ih (i+1) a c (by omega) (by omega) (by omega) g k);refine tG (by omega) λx _=>tI (λ_=>tB (HG hd (by omega)) ?_) λ_=>j _ _ _ hd e;rintro r ⟨_,h,_⟩;exact j _ _ _ h.1 (e.trans h)
 exact key BP 0 b [] (by omega) (by omega) (by simp) m ⟨m,rfl,Int.le_refl _⟩
structure EvM (q:AU) (r:AG×AU):Prop where
 t:0<=r.1.Thread/\r.1.Thread<4
 d:r.1.Du.length<=1000
 f:r.1.DR.length<=1000
 a:Ug q r.2
 s:q.At<q.L.length->q.At<r.2.At
theorem uU{q:AU}(P:EW q){s:AB}{w:AD}{R:List (List Int)}(O:s.Sync.AA.length<=500)(W:5<=s.Cells.length)(U:5<=w.Cells.length)(N:0<s.AK.length)(V:R.length=4)(u:∀l∈R,l.length<=1000):B7 (DN q s w R) (EvM q):=by
 unfold DN M7;refine tB (HG P (by omega)) ?_;rintro a ⟨a0,F,I⟩;rw[AAg];refine tB (HG F.1 (by simp)) ?_;rintro t ⟨T,E,_⟩;refine tG T λo X=> ?_;refine tB (HG E.1 (by omega)) ?_;rintro i ⟨i0,iA,_⟩;have K:Ug q i.2:=(F.trans E).trans iA;have M:q.At<q.L.length->q.At<i.2.At:=λh=>by have:=I h;have:=E.2.2;have:=iA.2.2;omega
 have G:∀(p:AU)(e:AG),Ug q p->(q.At<q.L.length->q.At<p.At)->e.Thread=a.1->e.Du.length<=1000->e.DR.length<=1000->B7 (DN.J6 p e) (EvM q):=λp e b d f k m=>tR ⟨by simp_all,k,m,b,d⟩;have m:∀(p:AU)(e:AG) z,Ug q p->(q.At<q.L.length->q.At<p.At)->e.Thread=a.1->e.Du.length<=1000->e.DR.length<=1000->B7 (DN.J5 e R p a z) (EvM q):=by intro p e z b d f k m;unfold DN.J5;refine tI (λ_=>tG (by omega) λx r=>tB (lG b.1 (u x r)) ?_) λ_=>G _ _ b d f k m;rintro v ⟨n,g2⟩;exact G _ _ (b.trans g2) (λh=>by have:=d h;have:=g2.2.2;omega) f k (ABc n (u x r))
 have k:∀(p:AU)(e:AG),Ug q p->(q.At<q.L.length->q.At<p.At)->e.Thread=a.1->e.Du.length<=1000->e.DR.length<=1000->B7 (DN.J4 R a p e) (EvM q):=by intro p e b d f k g;unfold DN.J4;exact tI (λ_=>m _ _ _ b d f k g) λ_=>m _ _ _ b d f k g
 have f:∀(c:AG)(j l:Int×AU) y,Ug q l.2->(q.At<q.L.length->q.At<l.2.At)->c.Thread=a.1->c.Du.length<=1000->c.DR.length<=1000->B7 (DN.J3 c R a j l y) (EvM q):=by intro c j l y b d f C g;unfold DN.J3;refine tI (λ_=>tG (by omega) λx r=>tB (lG b.1 (u x r)) ?_) λ_=>k _ _ b d f C g;rintro v ⟨n,g2⟩;exact k _ _ (b.trans g2) (λh=>by have:=d h;have:=g2.2.2;omega) f (ABc n (u x r)) g
 have d:∀(c:AG),c.Thread=a.1->c.Du.length<=1000->c.DR.length<=1000->B7 (DN.J2 R s a i w c) (EvM q):=by
  intro c n g2 J;unfold DN.J2;refine tB (o8 iA.1 a0) ?_;rintro j ⟨j0,D⟩;refine tB (x6 D.1 O (λh=>by omega) N) ?_;intro l H;have Q:Ug q l.2:=(K.trans D).trans H;have S:q.At<q.L.length->q.At<l.2.At:=λh=>by have:=M h;have:=D.2.2;have:=H.2.2;omega
  have B:=λy=>f c j l y Q S n g2 J;refine tI (λ_=>B _) λ_=>tI (λh=> ?_) λ_=>tI (λh=> ?_) λ_=>B _
  . have:=j0 (.inl (by grind));exact tG (by omega) λx _=>B _
  . have:=j0 (.inr (by grind));exact tG (by omega) λx _=>B _
 unfold DN.J1;grind
theorem mM(wv:AD)(s:AP)(t k o wake:Int):(DX wv s t k o wake).1.AE.length=s.AE.length/\(DX wv s t k o wake).1.Bp.length=s.Bp.length/\(DX wv s t k o wake).1.AA.length=s.AA.length:=by
 have key:∀(p:Prop) [Decidable p] (a b:AP×Int),(a.1.AE.length=s.AE.length/\a.1.Bp.length=s.Bp.length/\a.1.AA.length=s.AA.length)->(b.1.AE.length=s.AE.length/\b.1.Bp.length=s.Bp.length/\b.1.AA.length=s.AA.length)->
  ((if p then a else b).1.AE.length=s.AE.length/\(if p then a else b).1.Bp.length=s.Bp.length/\(if p then a else b).1.AA.length=s.AA.length):=by
  intro p _ a b d e;split<;>assumption
 unfold DX
 repeat' refine key _ _ _ ?_ ?_
 all_goals first
  |exact⟨rfl,rfl,rfl⟩
  | (simp only[Kx,Kw,List.length_set,ABI,and_self];done)
  | (by_cases c:CL o 0 s.AA=[]<;>simp only[c,AA5,AAx,Kx,List.length_set,and_self])
theorem nZ{wv:AD}{s:AB}(h:JF wv s=true)(e:AG):JF wv (GU wv s e)=true:=by
 obtain⟨a,i,j,b⟩:=Kl h;obtain⟨f,g2,g⟩:=Ek a;have d:wv.Af.all (λc=>Df c.Mutex wv.AE.length)=true:=by unfold HM at a;simp only[AAi]at a;exact a.1
 obtain⟨k,l,m⟩:=mM wv s.Sync e.Thread e.Kind e.Obj (if e.Kind=18 then e.Value else -1)
 simp only[JF,HM,GU,AAi,AAw];refine⟨⟨d,by omega,by omega,by omega⟩,?_,?_,by simpa using b⟩<;>split<;>simp[*]
theorem eY:Small Ez:=DF xQ
structure SC (N:Nat) (s:AB):Prop where
 f:JF Ez s=true
 r:RB N s.Sync
theorem SC.len{N:Nat}{s:AB}(h:SC N s):s.Sync.AA.length=4/\s.Cells.length=5/\s.AK.length=1/\s.Count.length=4/\s.Sync.AE.length=3/\s.Sync.Bp.length=1:=by
 obtain⟨a,d,e,g⟩:=Kl h.f;obtain⟨b,g2,c⟩:=Ek a
 have:=UN;have:=Y4;have:=Y3;have:=UO;omega
theorem SC.mono{N M:Nat}{s:AB}(h:SC N s)(a:N<=M):SC M s:=⟨h.f,h.r.mono a⟩
theorem SC.step{N:Nat}{s:AB}(h:SC N s)(b:N<=1000){e:AG}(a:JC e):B7 (Bg Ez s e) λr=>r.2=true->SC (N+1) r.1:=by
 rw[SS Ez eY s (h.r.mono (by omega)) e a];refine tR ?_;unfold QN;split
 . exactλ_=>⟨nZ h.f e,h.r.apply _ _ _ _ _⟩
 . intro h;cases h
theorem mem_set{b:Type}{l:List b}{n:Nat}{a x:b}(h:x∈l.set n a):x∈l\/x=a:=ABB h
theorem xC{b:Int}(V:b<=60):∀(n:Nat)(t:AU)(s:AB)(c:List AG)(R:List (List Int)),EW t->(t.L.length:Int)-t.At<n->SC (c.length+20) s->c.length<=60->(∀e∈c,JC e)->R.length=4->(∀l∈R,l.length<=c.length+1)->
 B7 (Bv.Cr b Ez n t s c R) λr=>r.1.length<=60/\∀e∈r.1,JC e:=by
 intro n;induction n with
 |zero=>intro t s c R C h;have:=C.a;omega
 |succ n ih=>
  intro t s c R C hn B I x p i;have K:=B.len;have F:∀u,(u=true->(c.length:Int)<b/\t.At<(t.L.length:Int))->B7 (Bv.J4 (Bv.Cr b Ez n) c R s t Ez u) λr=>r.1.length<=60/\∀e∈r.1,JC e:=by
   intro u Q;unfold Bv.J4 Bv.J7;refine tI (λh=> ?_) λ_=>tR ⟨I,x⟩;obtain⟨S,D⟩:=Q h;refine tB (uU C (by omega) (by omega) (by have:=UN;omega) (by omega) p λl k=>by have:=i l k;omega) λj g=> ?_;have J:JC j.1:=⟨by have:=g.d;omega,by have:=g.f;omega⟩;refine tB (B.step (by omega) J) λv E=> ?_;have U:=g.t;have T:=g.s D;have P:=g.a.2.1;have q:(j.2.L.length:Int)-j.2.At<n:=(by rw[P];omega);refine tI (λ_=>ih _ _ _ _ g.a.1 q B I x p i) λw=> ?_;have E:=E (by simpa using w);have H:∀o,o.length=4->(∀l∈o,l.length<=c.length+2)->B7 (Bv.J6 (Bv.Cr b Ez n) c j v o) λr=>r.1.length<=60/\∀e∈r.1,JC e:=by
    intro o O w;unfold Bv.J6;refine tC (Bh (by omega)) (ih _ _ _ _ g.a.1 q (by have h:=E;simp only[ABK,List.length_singleton];rwa [Nat.add_right_comm]) (by simp;omega) ?_ O (by simpa using w));intro e q;rcases AAz.1 q with h|h
    . exact x e h
    . rw[ABG.1 h];exact J
   have G:∀z,B7 (Bv.J5 (Bv.Cr b Ez n) c R s j v z) λr=>r.1.length<=60/\∀e∈r.1,JC e:=by
    intro z;unfold Bv.J5;refine tI (λ_=>tG (by omega) λy M=>tG (by omega) λm _=>tC (Bh (by have:=i y M;omega)) (H _ (by simpa using p) λl k=> ?_)) λ_=>H R p λl k=>(by have:=i l k;omega);rcases mem_set k with h|h
    . have:=i l h;omega
    . rw[h];have:=i y M;simp;omega
   exact tI (λ_=>G _) λ_=>G _
  unfold Bv.Cr Bv.L2;refine tI (λh=>F _ λN=>⟨AAq h,AAq N⟩) λ_=>F _ λh=>by cases h
theorem play_tot{t:AU}(G:EW t){s:AB}(w:SC 20 s){b:Int}(E:b<=60)(p:Bool):B7 (Bv t s Ez b p) λr=>r.1.length<=60/\∀e∈r.1,JC e:=by
 have H:=BU;have u:=w.len;have B:=UO;have key:∀(n i:Nat)(q:AU)(R:List (List Int)),4<n+i->i<=4->EW q->R.length=4->(∀l∈R,l.length<=1)->(∀k (f:k<R.length),i<=k->R[k]=[])->B7 (Bv.AZ p b s Ez n q R i) λr=>r.1.length<=60/\∀e∈r.1,JC e:=by
  intro n;induction n with
  |zero=>intro i q R C D;omega
  |succ n ih=>
   intro i q R C D d j m o;unfold Bv.AZ Bv.L1;refine tI (λh=> ?_) λ_=> ?_
   . have h:=AAq h;simp only[ABp,B]at h;have c:∀(v:AU) z,EW v->B7 (Bv.J1 (Bv.AZ p b s Ez n) R i v z) λr=>r.1.length<=60/\∀e∈r.1,JC e:=by
      intro v z y;unfold Bv.J1 Bv.J2;rw[Ai (by omega)];refine tI (λ_=> ?_) λ_=>ih (i+1) v R (by omega) (by omega) y j m λk f h=>o k f (by omega);have hi:i<R.length:=(by omega);rw[CZ hi,AAg,o i hi (AA8 _)];refine tC (Bh (by simp)) (ih (i+1) v _ (by omega) (by omega) y (by simpa using j) ?_ ?_)
      . intro l g;rcases mem_set g with h|h
        . exact m l h
        . rw[h];simp
      . intro k f F;rw[List.getElem_set_ne (by simp;omega)];exact o k (by simpa using f) (by omega)
     refine tI (λ_=>tG (by omega) λx _=>tI (λ_=>tB (HG d (by omega)) λr h=>c _ _ h.2.1.1) λ_=>c _ _ d) λ_=>c _ _ d
   . unfold Bv.J3;refine xC E BP q s [] R d (by have:=d.l;have:=d.a;omega) (by simpa using w) (by simp) (by simp) j (λl g=>by have:=m l g;simpa using this)
 unfold Bv;refine tC ⟨by omega,by omega,Bh (by omega)⟩ (key BP 0 t _ (by omega) (by omega) G (by simp[B]) ?_ ?_)
 . intro l g;rw[ABg g];simp
 . intro k f _;simp
theorem MB{b:Type}[Inhabited b]{l:List b}{i j:Int}{a:b}(hi:Df i l.length=true)(c:Df j l.length=true):ix (l.set i.toNat a) j=if j=i then a else ix l j:=by have hi:=Bb.1 hi;have c:=Bb.1 c;unfold ix;grind
theorem ix_map{a c:Type}[Inhabited a][Inhabited c]{l:List a}{j:Int}{f:a->c}(b:Df j l.length=true):ix (l.map f) j=f (ix l j):=by
 have b:=Bb.1 b;have:j.toNat<l.length:=by omega
 unfold ix;simp_all
structure TI (wv:AD) (B:Int->Prop) (L:List AW) (u:Int) (x:AH):Prop where
 s:0<=x.Status/\x.Status<=5
 b:B u↔2<=x.Status
 z:u=0->x.Status≠0
 c:x.Status=3\/x.Status=4->Df x.D7 wv.Af.length=true/\(ix L (ix wv.Af x.D7).Mutex).B6≠u
 n:x.Status≠3->x.Status≠4->x.D7=0
 a:x.Atomic=true->2<=x.Status
structure LI (wv:AD) (B:Int->Prop) (i:Int) (x:AW):Prop where
 o:x.B6≠ -1->B x.B6
 w:x.Al≠[]->(ix wv.AE i).RW=true/\x.B6= -1
 p:x.Al.Pairwise (· < ·)
 r:∀y∈x.Al,B y
structure YI (wv:AD) (B:Int->Prop) (s:AP):Prop where
 t:∀u,Df u wv.AA.length=true->TI wv B s.AE u (ix s.AA u)
 l:∀i,Df i wv.AE.length=true->LI wv B i (ix s.AE i)
 x:s.Tx≠ -1->B s.Tx
 b:∀u,B u->Df u wv.AA.length=true
section
variable{wv:AD}{B:Int->Prop}{s:AP}
theorem YI.Kx(h:YI wv B s)(hn:s.AA.length=wv.AA.length){d:Int}{f:AH->AH}(hd:Df d wv.AA.length=true)(c:TI wv B s.AE d (f (ix s.AA d))):YI wv B (Kx s d f):=by
 refine⟨λu a=> ?_,h.l,h.x,h.b⟩;show TI wv B s.AE u (ix (s.AA.set d.toNat (f (ix s.AA d))) u);rw[MB (by simp_all) (by simp_all)];by_cases e:u=d
 . simp_all
 . rw[AAp e];exact h.t u a
theorem YI.Kw(h:YI wv B s)(p:∀o,Df o wv.Af.length=true->Df (ix wv.Af o).Mutex wv.AE.length=true)(hn:s.AE.length=wv.AE.length){i:Int}{f:AW->AW}(hi:Df i wv.AE.length=true)(r:LI wv B i (f (ix s.AE i)))(k:(f (ix s.AE i)).B6= -1\/(f (ix s.AE i)).B6=(ix s.AE i).B6\/Df (f (ix s.AE i)).B6 wv.AA.length=true/\(ix s.AA (f (ix s.AE i)).B6).Status=2):YI wv B (Kw s i f):=by
 refine⟨λu m=> ?_,λj q=> ?_,h.x,h.b⟩
 . have g:=h.t u m;refine⟨g.s,g.b,g.z,λd=>⟨(g.c d).1,?_⟩,g.n,g.a⟩;have d:(ix s.AA u).Status=3\/(ix s.AA u).Status=4:=d;have v:=p _ (g.c d).1;show(ix (s.AE.set i.toNat (f (ix s.AE i))) (ix wv.Af (ix s.AA u).D7).Mutex).B6≠u;rw[MB (by simp_all) (by simp_all)];by_cases e:(ix wv.Af (ix s.AA u).D7).Mutex=i
   . rw[AAs e];have m:=Bb.1 m;rcases k with k|k|k
     . omega
     . rw[k,<- e];exact(g.c d).2
     grind
   . rw[AAp e];exact(g.c d).2
 . show LI wv B j (ix (s.AE.set i.toNat (f (ix s.AE i))) j);rw[MB (by simp_all) (by simp_all)];by_cases e:j=i
   . simp_all
   . rw[AAp e];exact h.l j q
theorem YI.congr{a:Int->Prop}(h:YI wv B s)(b:∀u,a u↔B u):YI wv a s:=by have:a=B:=funext λu=>propext (b u);simp_all
end
theorem fD(l:List Int):(O3 l).Pairwise (· < ·):=by exact Lo l
theorem Xm{wv:AD}{s:AP}(h:HM wv s=true)(t k o wake:Int):HM wv (DX wv s t k o wake).1=true:=by
  have d:wv.Af.all (λc=>Df c.Mutex wv.AE.length)=true:=by unfold HM at h;simp only[AAi]at h;exact h.1
  have key:∀(p:Prop) [Decidable p] (a b:AP×Int),HM wv a.1=true->HM wv b.1=true->HM wv (if p then a else b).1=true:=by intro p _ a b j l;split<;>assumption
  obtain⟨e,f,g⟩:=Ek h;unfold DX
  repeat' refine key _ _ _ ?_ ?_
  all_goals first
    |exact h
    | (simp[HM,Kx,Kw,d,e,f,g];done)
    | (by_cases i:CL o 0 s.AA=[]
       . simp_all
       . simp[i,HM,Kx,d,e,f,g])
theorem mutex_of{wv:AD}{s:AP}(h:HM wv s=true):∀o,Df o wv.Af.length=true->Df (ix wv.Af o).Mutex wv.AE.length=true:=λ_ a=>HO h a
theorem waits_in{wv:AD}{s:AP}(hn:s.AA.length=wv.AA.length){o u:Int}(h:u∈CL o 0 s.AA):Df u wv.AA.length=true/\(ix s.AA u).Status=3:=by
 have key:∀(T:List AH)(i:Nat)(u:Int),u∈CL o i T->∃x,T[(u-i).toNat]? =some x/\x.Status=3:=by
  intro T;induction T with
  |nil=>intro i u h;cases h
  |cons x r ih=>
   intro i u h;unfold CL at h;have key:u∈CL o (i+1) r->∃y,(x::r)[(u-i).toNat]? =some y/\y.Status=3:=(by intro h;have d:=(Iz o r (i+1) u h).1;obtain⟨y,y1,y2⟩:=ih (i+1) u h;refine⟨y,?_,y2⟩;rw[show(u-(i:Int)).toNat=(u-((i+1:Nat):Int)).toNat+1 from by omega,ABT];exact y1);split at h
   . rename_i b;rcases ABH.1 h with rfl|h
     . refine⟨x,by simp,?_⟩;unfold JJ at b;simp_all
     simp_all
   simp_all
 obtain⟨x,a,e⟩:=key _ _ _ h;have c:=Iz o s.AA 0 u h;have a:s.AA[u.toNat]? =some x:=by simpa using a
 refine⟨Bb.2 (by omega),?_⟩;unfold ix;simp_all
theorem uI{wake:Int}{W:List Int}(h:W≠[]):E5 wake W∈W:=by
 unfold E5;rw[AAp h];split
 . simp_all
 . cases W with
   |nil=>simp_all
   |cons a r=>simp
theorem YI.apply{wv:AD}{B:Int->Prop}{s:AP}{t k o wake:Int}(hq:∀o,Df o wv.Af.length=true->(ix wv.AE (ix wv.Af o).Mutex).RW=false)(h:YI wv B s)(he:CT wv s t k o=true):YI wv (λu=>B u\/u=t) (DX wv s t k o wake).1:=by
 unfold CT at he;simp only[AAi]at he;obtain⟨hf,q,d,j⟩:=he;obtain⟨X,l2,E⟩:=Ek hf;have G:=mutex_of hf;have T:=h.t t q;unfold DX;by_cases P:k=1
 . rw[AAs P];have hs:(ix s.AA t).Status=1:=(by simpa[Ku,P]using j);have up:∀{u},B u->B u\/u=t:=.inl;refine⟨λu N=> ?_,λi hi=> ?_,λhx=>up (h.x hx),λu N=>N.elim (h.b u) λe=>e▸q⟩
   . show TI wv _ s.AE u (ix (s.AA.set t.toNat _) u);rw[MB (by simp_all) (by simp_all)];have U:=h.t u N;by_cases e:u=t
     . rw[AAs e];exact⟨by simp,by simp[e],by simp,by simp,λ_ _=>T.n (by omega) (by omega),by simp⟩
     . rw[AAp e];exact⟨U.s,by simp[e,U.b],U.z,U.c,U.n,U.a⟩
   . have L:=h.l i hi;exact⟨λh=>up (L.o h),L.w,L.p,λy m=>up (L.r y m)⟩
 rw[AAp P];have M:k≠17->(ix s.AA t).Status=2:=by intro C;unfold Ku at j;simp only[AAp P,AAp C,AAi]at j;exact eq_of_beq j.1
 have h4:k=17->(ix s.AA t).Status=4/\(ix s.AA t).D7=o:=by intro C;unfold Ku at j;simp only[AAp P,AAs C,AAi]at j;exact⟨eq_of_beq j.1,eq_of_beq j.2.1⟩
 have F:B t:=T.b.2 (by omega);refine YI.congr (B:=B) ?_ λu=>⟨λh=>h.elim id λe=>e▸F,.inl⟩;have own:∀{i},Df i wv.AE.length=true->(ix s.AE i).Al=[]->k≠17->YI wv B (Abs.Kw s i λx=>⟨t,x.Al⟩):=λhi Sv C=>
  h.Kw G X hi ⟨λ_=>F,λh=>absurd Sv h,(h.l _ hi).p,(h.l _ hi).r⟩ (.inr (.inr ⟨q,M C⟩))
 have off:∀{i},Df i wv.AE.length=true->YI wv B (Abs.Kw s i λx=>⟨-1,x.Al⟩):=λhi=>
  h.Kw G X hi ⟨λh=>absurd rfl h,λK=>⟨((h.l _ hi).w K).1,rfl⟩,(h.l _ hi).p,(h.l _ hi).r⟩ (.inl rfl)
 by_cases k2:k=2
 . rw[AAs k2];have M:=M (by omega);dsimp only;apply h.Kx E q;exact⟨by simp,by simp[F],by simp,by simp,λ_ _=>T.n (by omega) (by omega),by simp⟩
 rw[AAp k2];by_cases Z:k=6\/k=10
 . rw[AAs Z];have hi:Df o wv.AE.length=true:=(by rcases Z with rfl|rfl<;>simp[CF]at d<;>exact d.1);refine own hi ?_ (by omega);rcases Z with rfl|rfl
   . have J:(ix wv.AE o).RW=false:=(by simp[CF]at d;exact d.2);by_cases e:(ix s.AE o).Al=[]
     . exact e
     . have:=(h.l o hi).w e;simp_all
   . simp[Ku]at j;grind
 rw[AAp Z];by_cases k7:k=7\/k=11
 . rw[AAs k7];refine off ?_;rcases k7 with rfl|rfl<;>simp[CF]at d<;>exact d.1
 rw[AAp k7];by_cases k8:k=8
 . rw[AAs k8];subst k8;simp[CF]at d;simp[Ku]at j;have L:=h.l o d.1;dsimp only;applyλx=>h.Kw G X d.1 x (.inr (.inl rfl));refine⟨L.o,λ_=>⟨d.2,j.2.1⟩,fD _,?_⟩;intro y m;have m:y∈(ix s.AE o).Al++[t]:=(Kt _ y).1 m;rcases AAz.1 m with m|m
   . exact L.r y m
   simp_all
 rw[AAp k8];by_cases k9:k=9
 . rw[AAs k9];subst k9;simp[CF]at d;have L:=h.l o d.1;dsimp only;applyλx=>h.Kw G X d.1 x (.inr (.inl rfl));exact⟨L.o,λK=>L.w λe=>K (by simp[e]),L.p.sublist List.filter_sublist,λy m=>L.r y (List.mem_filter.1 m).1⟩
 rw[AAp k9];by_cases Q:k=12
 . rw[AAs Q];exact⟨h.t,h.l,λ_=>F,h.b⟩
 rw[AAp Q];by_cases R:k=13
 . rw[AAs R];exact⟨h.t,h.l,λh=>absurd rfl h,h.b⟩
 rw[AAp R];by_cases S:k=14
 . rw[AAs S];have M:=M (by omega);dsimp only;apply h.Kx E q;exact⟨T.s,T.b,T.z,T.c,T.n,λ_=>by simp_all⟩
 rw[AAp S];by_cases V:k=15
 . rw[AAs V];dsimp only;apply h.Kx E q;exact⟨T.s,T.b,T.z,T.c,T.n,λh=>by cases h⟩
 rw[AAp V];by_cases I:k=16
 . rw[AAs I];have H:Df o wv.Af.length=true:=(by simpa[CF,I]using d);have g:=G o H;dsimp only;apply(off g).Kx E q;refine⟨by simp,by simp[F],by simp,λ_=>⟨H,?_⟩,by simp,by simp⟩;show(ix (s.AE.set _ _) _).B6≠t;rw[MB (by simp_all) (by simp_all),AAs rfl]
   have:=Bb.1 q;grind
 rw[AAp I];by_cases C:k=17
 . rw[AAs C];have H:Df o wv.Af.length=true:=(by simpa[CF,C]using d);have g:=G o H;have m:=h.Kx E q (f:=λx=>⟨2,0,x.Atomic⟩) ⟨by simp,by simp[F],by simp,by simp,by simp,by simp⟩;refine m.Kw G X (f:=λx=>⟨t,x.Al⟩) g ⟨λ_=>F,λK=> ?_,(h.l _ g).p,(h.l _ g).r⟩ (.inr (.inr ⟨q,?_⟩))
   . have J:=((h.l _ g).w K).1;simp_all
   . show(ix (s.AA.set t.toNat _) t).Status=2;rw[MB (by simp_all) (by simp_all),AAs rfl]
 rw[AAp C];by_cases wA:k=18
 . rw[AAs wA];by_cases hW:CL o 0 s.AA=[]
   . simp_all
   . simp only[hW,AAx];obtain⟨d1,d2⟩:=waits_in E (uI (wake:=wake) hW);have D:=h.t _ d1;apply h.Kx E d1;exact⟨by simp[Ir],by simp[Ir];exact D.b.2 (by omega),by simp[Ir],λ_=>D.c (.inl d2),by simp[Ir],by simp[Ir]⟩
 rw[AAp wA];by_cases W:k=19
 . rw[AAs W];refine⟨λu N=> ?_,h.l,h.x,h.b⟩;show TI wv B s.AE u (ix (s.AA.map (JA o)) u);rw[ix_map (by simp_all)];have U:=h.t u N;unfold JA;by_cases J:JJ (ix s.AA u) o=true
   . have d2:(ix s.AA u).Status=3:=(by unfold JJ at J;simp only[AAi]at J;exact eq_of_beq J.1);rw[AAs J];exact⟨by simp[Ir],by simp[Ir];exact U.b.2 (by omega),by simp[Ir],λ_=>U.c (.inl d2),by simp[Ir],by simp[Ir]⟩
   simp_all
 rw[AAp W];by_cases v:k=20
 . rw[AAs v];have H:Df o wv.AA.length=true:=(by simpa[CF,v]using d);have O:=h.t o H;have hs:(ix s.AA o).Status=0:=(by simp[Ku,v]at j;exact j.2.2);have nb:¬B o:=λh=>(by have:=O.b.1 h;omega);dsimp only;apply h.Kx E H;exact⟨by simp,by simp[nb],by simp,by simp,λ_ _=>O.n (by omega) (by omega),λh=>by have:=O.a h;omega⟩
 rw[AAp v];by_cases fQ:k=22
 . rw[AAs fQ];exact⟨h.t,h.l,h.x,h.b⟩
 simp_all
def begB(wv:AD)(c:List Int)(u:Int):Prop:=Df u wv.AA.length=true/\1<=ix c u
structure WI (wv:AD) (pre:List AG) (s:AB):Prop where
 f:JF wv s=true
 c:∀u,Df u wv.AA.length=true->ix s.Count u=((Jx pre u).length:Int)
 m:s.Count.sum=(pre.length:Int)
 y:YI wv (begB wv s.Count) s.Sync
 d:∀i,Df i wv.AK.length=true->ix s.Sync.Bp i=false->ix s.AK i=0
theorem sum_set{l:List Int}:∀{i:Nat}{x:Int},i<l.length->(l.set i x).sum=l.sum+(x-l.getD i 0):=by
 induction l with
 |nil=>simp_all
 |cons a r ih=>
  intro i x h;cases i with
  |zero=>simp;omega
  |succ i=>grind
theorem X8{b:Type}[Inhabited b]{n:Nat}{a:b}{i:Int}(h:Df i n=true):ix (List.replicate n a) i=a:=by have:=Bb.1 h;unfold ix;simp_all
theorem QV{wv:AD}(h:Cs wv=true):wv.Af.all (RM wv)=true/\1<=wv.AA.length:=by unfold Cs at h;grind
theorem Rq{wv:AD}(h:Cs wv=true):∀o,Df o wv.Af.length=true->(ix wv.AE (ix wv.Af o).Mutex).RW=false:=by
 intro o b;have a:=(QV h).1
 have:=Bb.1 b;have c:o.toNat<wv.Af.length:=by omega
 have:=AAm.1 a (ix wv.Af o) (by unfold ix;simp_all);unfold RM at this;simp_all
theorem WI.start{wv:AD}(h:Cs wv=true):WI wv [] (GQ wv):=by
 have l:=DF h;have b:=Rq h;have j:=(QV h).2;have d:∀u,¬begB wv (GQ wv).Count u:=λu ⟨a,k⟩=>by have:ix (GQ wv).Count u=0:=X8 a;omega
 have f:wv.Af.all (λc=>Df c.Mutex wv.AE.length)=true:=by
  have b:=(QV h).1;refine AAm.2 λx g=> ?_
  have:=AAm.1 b x g;unfold RM at this;simp only[AAi]at this;exact this.1
 refine⟨?_,λu a=>X8 a,?_,⟨λu a=> ?_,λi hi=> ?_,λh=>absurd rfl h,λu a=>a.1⟩,λi hi _=>X8 hi⟩
 . unfold JF HM GQ Jg;simp[f]
 . show(List.replicate wv.AA.length (0:Int)).sum=0;simp_all
 . show TI wv _ _ u (ix ((List.replicate wv.AA.length (⟨0,0,false⟩:AH)).set (0:Int).toNat ⟨1,0,false⟩) u);rw[MB (Bb.2 (by simp;omega)) (by simp_all)];by_cases e:u=0
   . rw[AAs e];exact⟨by simp,by simp[d],by simp,by simp,by simp,by simp⟩
   . rw[AAp e,X8 a];exact⟨by simp,by simp[d],λh=>absurd h e,by simp,by simp,by simp⟩
 . show LI wv _ i (ix (List.replicate wv.AE.length (⟨-1,[]⟩:AW)) i);rw[X8 hi];exact⟨by simp,by simp,by simp,by simp⟩
theorem WI.next{wv:AD}{f:List AG}{s:AB}{e:AG}(E:∀o,Df o wv.Af.length=true->(ix wv.AE (ix wv.Af o).Mutex).RW=false)(h:WI wv f s)(I:f.length<=100000)(D:IZ wv s e=true):WI wv (f++[e]) (GU wv s e):=by
 have k:=D;unfold IZ at k;simp only[AAi]at k;obtain⟨C,r,q,_,_,_⟩:=k;obtain⟨f1,f2,G,f4⟩:=Kl C;obtain⟨K,L,M⟩:=Ek f1;have F:=LR f e.Thread;have w:=h.c e.Thread r;have x:A1 (ix s.Count e.Thread+1)=((Jx f e.Thread).length:Int)+1:=by rw[w,CH (by omega) (by omega)]
 have t:∀u,Df u wv.AA.length=true->ix (GU wv s e).Count u=if u=e.Thread then((Jx f e.Thread).length:Int)+1 else ix s.Count u:=by intro u g;show ix (s.Count.set e.Thread.toNat _) u=_;rw[MB (by simp_all) (by simp_all),x]
 refine⟨?_,λu g=> ?_,?_,?_,λi hi hd=> ?_⟩
 . have:=Xm f1 e.Thread e.Kind e.Obj (if e.Kind=18 then e.Value else -1)
   unfold JF GU;grind
 . rw[t u g,Md];by_cases l:u=e.Thread
   . simp_all
   . rw[AAp l,AAp (λh=>l h.symm),h.c u g]
 . show(s.Count.set e.Thread.toNat _).sum=_;have hi:=Bb.1 r;have:ix s.Count e.Thread=s.Count.getD e.Thread.toNat 0:=(by unfold ix;rw[List.getD_eq_getElem?_getD];rfl);rw[sum_set (by omega),h.m,x,<- this,w];simp;omega
 . refine(h.y.apply E q (wake:=if e.Kind=18 then e.Value else -1)).congr λu=> ?_
   constructor
   . rintro⟨g,n⟩;rw[t u g]at n;by_cases l:u=e.Thread
     . omega
     . rw[AAp l]at n;exact .inl ⟨g,n⟩
   . rintro(⟨g,n⟩|rfl)
     . refine⟨g,?_⟩;grind
     . refine⟨r,?_⟩;grind
 . unfold CT at q;simp only[AAi]at q;obtain⟨_,_,v,F⟩:=q;have z:(DX wv s.Sync e.Thread e.Kind e.Obj (if e.Kind=18 then e.Value else -1)).1.Bp=if e.Kind=22 then s.Sync.Bp.set e.Obj.toNat true else s.Sync.Bp:=by
    unfold DX;by_cases j:e.Kind=22
    . simp[j]
    . rw[AAp j,AAp j];have key:∀(p:Prop) [Decidable p] (a b:AP×Int),a.1.Bp=s.Sync.Bp->b.1.Bp=s.Sync.Bp->(if p then a else b).1.Bp=s.Sync.Bp:=by intro p _ a b v H;split<;>assumption
      repeat' refine key _ _ _ ?_ ?_
      all_goals first
       |rfl
       | (by_cases B:CL e.Obj 0 s.Sync.AA=[]<;>simp only[B,AA5,AAx]<;>rfl)
   have hd:ix (if e.Kind=22 then s.Sync.Bp.set e.Obj.toNat true else s.Sync.Bp) i=false:=by rw[<- z];exact hd
   show ix (if e.Kind=22 then s.AK.set e.Obj.toNat e.Value else s.AK) i=0
   by_cases j:e.Kind=22
   . rw[AAs j]at hd |-;have J:Df e.Obj wv.AK.length=true:=(by simpa[CF,j]using v);rw[MB (by simp_all) (by simp_all)]at hd;rw[MB (by simp_all) (by simp_all)];by_cases l:i=e.Obj
     . simp_all
     . rw[AAp l]at hd |-;exact h.d i hi hd
   . rw[AAp j]at hd |-;exact h.d i hi hd
def Jh(f:Nat->Bool):Nat->Nat->Bool
 |_,0=>true
 |i,k+1=>f i&&Jh f (i+1) k
theorem Ma{f:Nat->Bool}:∀{k i:Nat},Jh f i k=true↔∀j,i<=j->j<i+k->f j=true
 |0,i=>by simp[Jh];omega
 |k+1,i=>by unfold Jh;rw[AAi,Ma];grind
theorem sX(f g:Nat->Bool):∀k i:Nat,Jh (λj=>f j&&g j) i k=(Jh f i k&&Jh g i k)
 |0,i=>rfl
 |k+1,i=>by unfold Jh;rw[sX f g k (i+1)];grind
def Lp(c:List Int)(t:Int):Bool:=Df t c.length&&decide (1<=ix c t)
def PS(w:AO):Bool:=Jh (λi=>decide (0<=ix w.Init.Count i)&&decide (ix w.Init.Count i<=400)) 0 w.Init.Count.length&&(w.Start==w.Init.Count.sum&&decide (w.Init.Count.sum+w.AF.length<=400))
def ZW(x:AH):Bool:=x.Status==3||x.Status==4
def ZU(w:AO)(i:Nat)(x:AH):Bool:=
 (decide (0<=x.Status)&&decide (x.Status<=5))&&((decide (x.Status<=1)==(ix w.Init.Count i==0))&&(!(i==0&&x.Status==0)&&(if ZW x=true then Df x.D7 w.World.Af.length else x.D7==0)))
def sK(w:AO)(i:Nat)(x:AH):Bool:= !ZW x||(ix w.Init.Sync.AE (ix w.World.Af x.D7).Mutex).B6 != (i:Int)
def Vv(w:AO)(i:Nat)(x:AH):Bool:= !x.Atomic||Lp w.Init.Count i
def Mc(c:List Int):Int->List Int->Bool
 |_,[]=>true
 |last,t::r=>decide (last<t)&&(Lp c t&&Mc c t r)
def YP(w:AO)(i:Nat)(x:AW):Bool:=(x.B6== -1||Lp w.Init.Count x.B6)&&((x.Al.isEmpty||((ix w.World.AE i).RW&&x.B6== -1))&&Mc w.Init.Count (-1) x.Al)
def txW(w:AO):Bool:=w.Init.Sync.Tx== -1||Lp w.Init.Count w.Init.Sync.Tx
def yI(w:AO)(i:Nat):Bool:=ix w.Init.Sync.Bp i||ix w.Init.AK i==0
def OO(c:Int)(reads:List Bool)(k:Int):Bool:=decide (k<c)||KX reads (k-c)
def lO(c:List Int)(pre:List AG)(x:AG):Bool:=x.Du.all (OO (ix c x.Thread) (Jx pre x.Thread))&&x.DR.all (OO (ix c x.Thread) (Jx pre x.Thread))
def lN(wv:AD)(c:List Int):List AG->AB->List AG->Bool
 |_,_,[]=>true
 |pre,s,x::r=>IZ wv s x&&(lO c pre x&&lN wv c (pre++[x]) (GU wv s x) r)
abbrev N5(w:AO)(i:Nat):AH:=ix w.Init.Sync.AA i
def sL(w:AO):Bool:=PS w&&(Jh (λi=>ZU w i (N5 w i)) 0 w.Init.Sync.AA.length&&(Jh (λi=>sK w i (N5 w i)) 0 w.Init.Sync.AA.length&&
 (Jh (λi=>YP w i (ix w.Init.Sync.AE i)) 0 w.Init.Sync.AE.length&&(txW w&&(Jh (λi=>Vv w i (N5 w i)) 0 w.Init.Sync.AA.length&&Jh (yI w) 0 w.Init.AK.length)))))
def Sx(w:AO):Bool:=Cs w.World&&(JF w.World w.Init&&(decide (w.AF.length<=16)&&(sL w&&lN w.World w.Init.Count [] w.Init w.AF)))
theorem readers_ok{c:List Int}:∀(l:List Int)(a:Int),(∀t∈l,Lp c t=true)->(∀t∈l,a<t)->l.Pairwise (· < ·)->Mc c a l=true:=by
 intro l;induction l with
 |nil=>exactλ_ _ _ _=>rfl
 |cons x r ih=>intro a d e b;obtain⟨f,g⟩:=List.pairwise_cons.1 b;unfold Mc;simp_all
theorem begun_iff{wv:AD}{s:AB}(h:s.Count.length=wv.AA.length){u:Int}:Lp s.Count u=true↔begB wv s.Count u:=by unfold Lp begB;simp_all
theorem rdB_app(a b:List AG)(t:Int):Jx (a++b) t=Jx a t++Jx b t:=by unfold Jx;simp_all
theorem isIn_new{a b:List Bool}{k:Int}(h:KX (a++b) k=true):OO a.length b k=true:=by
 unfold OO;by_cases f:k<(a.length:Int)
 . simp[f]
 . unfold KX at h |-;simp only[AAi]at h;have d:=Bb.1 h.1;simp only[ABK]at d;have e:Df (k-a.length) b.length=true:=Bb.2 (by omega);have c:=h.2;unfold ix at c;rw[ABC (by omega),show k.toNat-a.length=(k-(a.length:Int)).toNat from by omega]at c;rw[e];unfold ix;grind
theorem posW_ok{wv:AD}{pre0:List AG}{c:List Int}(f:∀u,Df u wv.AA.length=true->ix c u=((Jx pre0 u).length:Int)):∀(l a:List AG)(s:AB),(GJ wv (pre0++a) s l).2=0->lN wv c a s l=true:=by
 intro l;induction l with
 |nil=>exactλ_ _ _=>rfl
 |cons x r ih=>
  intro a s h;rw[GJ]at h;split at h
  . rename_i b;rw[AAi]at b;rw[ABt]at h;unfold lN;rw[b.1,ih _ _ h];have i:=MZ b.1;have d:=b.2;unfold O6 at d;unfold lO;rw[rdB_app,AAi]at d;rw[f _ i];have key:∀D:List Int,D.all (KX (Jx pre0 x.Thread++Jx a x.Thread))=true->D.all (OO ((Jx pre0 x.Thread).length:Int) (Jx a x.Thread))=true:=λD e=>AAm.2 λk g=>isIn_new (AAm.1 e k g);grind
  . cases h
theorem valid_of{wv:AD}{g:List AG}{s:AB}(J:Cs wv=true)(h:WI wv g s){l:List AG}(H:l.length<=16)(hn:g.length+l.length<=400)(M:(GJ wv g s l).2=0):Sx ⟨wv,(g.length:Int),s,l⟩=true:=by
 obtain⟨f1,f2,K,f4⟩:=Kl h.f;obtain⟨P,Q,R⟩:=Ek f1;have i:∀j:Nat,j<wv.AA.length->Df (j:Int) wv.AA.length=true:=λj B=>Bb.2 (by omega);have E:∀u,Df u wv.AA.length=true->0<=ix s.Count u/\ix s.Count u<=g.length:=λu I=>by have:=LR g u;rw[h.c u I];omega
 have C:∀{u},begB wv s.Count u->Lp s.Count u=true:=λh=>(begun_iff f4).2 h;unfold Sx sL;simp only[J,h.f,ABD,AAi,AA1];refine⟨H,⟨?_,?_,?_,?_,?_,?_,?_⟩,posW_ok (pre0:=g) h.c l [] s (by simp_all)⟩
 . unfold PS;simp only[AAi,AA1,AAw];refine⟨Ma.2 λj _ B=> ?_,h.m.symm,by rw[h.m];omega⟩;grind
 . refine Ma.2 λj _ B=> ?_;have k:j<wv.AA.length:=(by omega);have T:=h.y.t j (i j k);have D:=T.b;unfold begB at D;rw[i j k]at D
   have:=E j (i j k);have G:=T.s;unfold ZU N5;simp only;generalize ix s.Sync.AA (j:Int)=x at T D G |-;generalize N:ix s.Count (j:Int)=q at D this |-;simp only[AAi,AA1];refine⟨G,?_,?_,?_⟩
   . grind
   . have O:=T.z;grind
   . unfold ZW;by_cases v:x.Status=3\/x.Status=4
     . rw[AAs (by simp_all)];exact(T.c v).1
     . rw[AAp (by simp_all)];simpa using T.n (by omega) (by omega)
 . refine Ma.2 λj _ B=> ?_;have k:j<wv.AA.length:=(by omega);have T:=h.y.t j (i j k);unfold sK N5 ZW;simp only;generalize ix s.Sync.AA (j:Int)=x at T |-;by_cases v:x.Status=3\/x.Status=4
   . have:=(T.c v).2;simp[this]
   simp_all
 . refine Ma.2 λj _ B=> ?_;have k:j<wv.AE.length:=(by omega);have L:=h.y.l j (Bb.2 (by omega));unfold YP;simp only;generalize ix s.Sync.AE (j:Int)=x at L |-;simp only[AAi,ABE,AAw];refine⟨?_,?_,readers_ok _ _ (λt F=>C (L.r t F)) (λt F=> ?_) L.p⟩
   . by_cases e:x.B6= -1
     . omega
     . exact .inr (C (L.o e))
   . by_cases e:x.Al=[]
     . simp_all
     . exact .inr (L.w e)
   . have:=(Bb.1 (L.r t F).1).1;omega
 . unfold txW;simp only[ABE,AAw];by_cases e:s.Sync.Tx= -1
   . omega
   . exact .inr (C (h.y.x e))
 . refine Ma.2 λj _ B=> ?_;have k:j<wv.AA.length:=(by omega);have T:=h.y.t j (i j k);unfold Vv N5;simp only;generalize ix s.Sync.AA (j:Int)=x at T |-;cases ha:x.Atomic with
   |false=>rfl
   |true=>exact C (T.b.2 (T.a ha))
 . refine Ma.2 λj _ B=> ?_;have k:j<wv.AK.length:=(by omega);unfold yI;simp only;cases hd:ix s.Sync.Bp (j:Int)with
   |true=>rfl
   |false=>simpa using h.d j (Bb.2 (by omega)) hd
def HJ(t:Aw)(n:Nat):AB:=(t.AF.take n).foldl (GU t.World) (GQ t.World)
theorem PU{t:Aw}{n:Nat}(h:n<t.AF.length):HJ t (n+1)=GU t.World (HJ t n) t.AF[n]:=by unfold HJ;rw[<- AA2 h,List.foldl_append];rfl
theorem mS{t:Aw}(d:Cs t.World=true)(g:t.AF.length<=400)(e:GJ t.World [] (GQ t.World) t.AF=(0,0)):∀n,n<=t.AF.length->WI t.World (t.AF.take n) (HJ t n)/\GJ t.World (t.AF.take n) (HJ t n) (t.AF.drop n)=(0,0):=by
 have f:=Rq d;intro n;induction n with
 |zero=>intro _;exact⟨WI.start d,e⟩
 |succ n ih=>
  intro hn;obtain⟨a,b⟩:=ih (by omega);rw[ABd (by omega),GJ]at b;split at b
  . rename_i c;rw[AAi]at c;rw[PU (by omega),<- AA2 (by omega)];exact⟨a.next f (by simp;omega) c.1,b⟩
  simp_all
theorem checkL_pre{wv:AD}:∀(a b:List AG) c s,GJ wv c s (a++b)=(0,0)->GJ wv c s a=(0,0):=by
 intro a;induction a with
 |nil=>intro b c s _;rfl
 |cons x r ih=>intro b c s h;rw[ABV,GJ]at h;rw[GJ];grind
def aB(t:Aw)(size i:Nat):AO:=⟨t.World,(i:Int),HJ t i,(t.AF.drop i).take size⟩
theorem winS_valid{t:Aw}(c:Cs t.World=true)(f:t.AF.length<=400)(e:GJ t.World [] (GQ t.World) t.AF=(0,0)){size i:Nat}(g:size<=16)(hi:i<=t.AF.length):Sx (aB t size i)=true:=by
 obtain⟨a,b⟩:=mS c f e i hi;have d:GJ t.World (t.AF.take i) (HJ t i) ((t.AF.drop i).take size)=(0,0):=checkL_pre _ ((t.AF.drop i).drop size) _ _ (by rw[ABq];exact b)
 have:=valid_of c a (l:=(t.AF.drop i).take size) (by simp;omega) (by simp;omega) (by rw[d]);rw[List.length_take,Nat.min_eq_left hi]at this;exact this
theorem SJ{L:Nat->Int->AB8 Bool}{N:Nat}{p:Nat->Bool}{R:AB8 Bool}(b:∀(n i:Nat),i<N->L (n+1) (i:Int)=if p i=true then L n ((i+1:Nat):Int)else some false)(a:∀n,L (n+1) (N:Int)=R):∀n i:Nat,i<=N->N<n+i->L n (i:Int)=if Jh p i (N-i)=true then R else some false
 |0,i,h1,h2=>by omega
 |n+1,i,h1,h2=>by
  by_cases hi:i<N
  . rw[b n i hi,show N-i=(N-(i+1))+1 from by omega,Jh];cases hp:p i with
    |false=>rfl
    |true=>rw[AAs rfl,ABD,SJ b a n (i+1) (by omega) (by omega)]
  . have:i=N:=(by omega);subst this;rw[a,Nat.sub_self];rfl
def cntB(w:AO)(i:Nat):Bool:=decide (0<=ix w.Init.Count i)&&decide (ix w.Init.Count i<=400)
theorem lK(w:AO)(b:w.Init.Count.length<=4):∀(n i:Nat)(c:Int),i<=w.Init.Count.length->w.Init.Count.length<n+i->0<=c->c<=400*i->DM.AZ w n c (i:Int)=if Jh (cntB w) i (w.Init.Count.length-i)=true then DM.J2 w (c+(w.Init.Count.drop i).sum)else some false
 |0,i,c,h1,h2,h3,h4=>by omega
 |n+1,i,c,h1,h2,h3,h4=>by
  unfold DM.AZ DM.L1;by_cases hi:i<w.Init.Count.length
  . rw[BC (by omega),CZ hi,AAg,show w.Init.Count.length-i=(w.Init.Count.length-(i+1))+1 from by omega,Jh,E6 hi,List.sum_cons];unfold cntB DM.J1;rw[X7 hi];generalize w.Init.Count[i]=d;by_cases a:d<0
    . rw[BC a,AAs rfl,show decide (0<=d)=false from by simpa using a];rfl
    . rw[Ad a];by_cases g2:d>400
      . rw[show decide (d>400)=true from by simpa using g2,AAs rfl,show decide (d<=400)=false from by simp;omega,Bool.and_false,Bool.false_and];rfl
      . rw[show decide (d>400)=false from by simpa using g2,AAp (by simp),CH (by omega) (by omega),Ai (by omega),lK w b n (i+1) _ (by omega) (by omega) (by omega) (by omega),show decide (0<=d)=true from by simp;omega,show decide (d<=400)=true from by simp;omega,Int.add_assoc];rfl
  . rw[Ad (by omega),Gb hi,List.sum_nil,Int.add_zero,show w.Init.Count.length-i=0 from by omega];rfl
theorem yH(w:AO)(e:w.Init.Count.length<=4)(k:w.AF.length<=16):DM w=some (PS w):=by
 have i:=BU;unfold DM
 have:=lK w e BP 0 0 (by omega) (by omega) (by omega) (by omega);rw[Int.natCast_zero]at this;rw[this,Nat.sub_zero,ABJ,Int.zero_add];unfold PS;change (if Jh (cntB w) 0 _=true then _ else _)=some (Jh (cntB w) 0 _&&_)
 cases ha:Jh (cntB w) 0 w.Init.Count.length with
 |false=>rfl
 |true=>
  rw[AAs rfl,ABD];unfold DM.J2 DM.J3;have m:0<=w.Init.Count.sum/\w.Init.Count.sum<=1600:=by
   have c:=Ma.1 ha;have key:∀l:List Int,(∀x∈l,0<=x/\x<=400)->0<=l.sum/\l.sum<=400*l.length:=by
    intro l;induction l with
    |nil=>intro _;simp
    |cons x l ih=>intro h;have a:=h x (by simp);have b:=ih λy g=>h y (by simp[g]);simp only[List.sum_cons,ABe];omega
   have:=key w.Init.Count λx f=>by
    obtain⟨j,d,rfl⟩:=List.getElem_of_mem f
    have:=c j (by omega) (by omega);unfold cntB at this;rw[X7 d]at this;simpa using this
   omega
  rw[CH (by omega) (by omega)];cases w.Start==w.Init.Count.sum<;>rfl
theorem st_cases{P:Int->Prop}(f:∀x,x<0->P x)(g:∀x,5<x->P x)(a0:P 0)(a:P 1)(b:P 2)(c:P 3)(d:P 4)(e:P 5)(x:Int):P x:=by grind
structure WinF (w:AO):Prop where
 v:Cs w.World=true
 f:JF w.World w.Init=true
 e:w.AF.length<=16
structure Vt (w:AO):Prop where
 s:Small w.World
 l:w.Init.Sync.AE.length=w.World.AE.length
 d:w.Init.Sync.Bp.length=w.World.AK.length
 t:w.Init.Sync.AA.length=w.World.AA.length
 u:w.Init.AK.length=w.World.AK.length
 c:w.Init.Count.length=w.World.AA.length
 m:∀o,Df o w.World.Af.length=true->Df (ix w.World.Af o).Mutex w.World.AE.length=true
theorem WinF.l{w:AO}(h:WinF w):Vt w:=by obtain⟨f1,f2,a,f4⟩:=Kl h.f;obtain⟨c,d,e⟩:=Ek f1;exact⟨DF h.v,c,d,e,a,f4,λo b=>HO f1 b⟩
theorem yL{w:AO}(h:Vt w)(n i:Nat)(hi:i<w.Init.Sync.AA.length):
 Bc.AZ w (n+1) (i:Int)=if(ZU w i (N5 w i)&&sK w i (N5 w i))=true then Bc.AZ w n ((i+1:Nat):Int)else some false:=by
 have f:=h.s.t;have g:=h.t;have j:=h.c;rw[Bc.AZ];unfold Bc.L1 N5;rw[BC (by omega),CZ hi,AAg,X7 hi];generalize w.Init.Sync.AA[i]=x;unfold Bc.J1 Bc.J2 Bc.J3 Bc.J4 Bc.J5;rw[Ai (by omega)];generalize Bc.AZ w n ((i+1:Nat):Int)=R;rw[Cb (l:=w.Init.Count) (Bb.2 (by omega))];simp only[AAg,AA5,AAx,AAr];unfold ZU sK ZW;have e:((i:Int)==0)=(i==0):=by rw[Bool.eq_iff_iff,AAw,AAw];omega
 rw[e];generalize (ix w.Init.Count (i:Int)==0)=c;have d:(if decide (x.D7<0)=true then some false else if decide (x.D7>=(w.World.Af.length:Int))=true then some false else
  (gt w.World.Af x.D7).bind λl=>(gt w.Init.Sync.AE l.Mutex).bind λo=>if(o.B6==(i:Int))=true then some false else R)=
  if(Df x.D7 w.World.Af.length&&(ix w.Init.Sync.AE (ix w.World.Af x.D7).Mutex).B6 != (i:Int))=true then R else some false:=by
  by_cases b:x.D7<0
  . rw[BC b,show Df x.D7 w.World.Af.length=false from by rw[Bool.eq_false_iff];intro h;have:=Bb.1 h;omega];rfl
  . rw[Ad b];by_cases g2:x.D7>=(w.World.Af.length:Int)
    . rw[BC g2,show Df x.D7 w.World.Af.length=false from by rw[Bool.eq_false_iff];intro h;have:=Bb.1 h;omega];rfl
    . have a:Df x.D7 w.World.Af.length=true:=Bb.2 (by omega);rw[Ad g2,Cb a,AAg,Cb (by rw[h.l];exact h.m _ a),AAg,a,ABD];simp_all
 generalize x.D7=co at d |-;generalize x.Status=st;revert st;refine st_cases ?_ ?_ ?_ ?_ ?_ ?_ ?_ ?_
 all_goals grind
theorem ZQ(w:AO)(t:Int):CB t w=some (Lp w.Init.Count t):=by
 unfold CB CB.J1 Lp;by_cases h:Df t w.Init.Count.length=true
 . have:=Bb.1 h;rw[BC (by omega),BC (by omega),Cb h,h];rfl
 . rw[show Df t w.Init.Count.length=false from by grind];by_cases g:t>=0
   . rw[BC g,Ad (λk=>h (Bb.2 ⟨g,k⟩))];rfl
   grind
theorem vreaders(w:AO)(x:AW)(c:x.Al.length<=4611686018427387904)(L1:Int->AB8 Bool)(b:Int):∀(n e:Nat)(f:Int),e<=x.Al.length->x.Al.length<n+e->
 Ap.Cr L1 b w x n f (e:Int)=if Mc w.Init.Count f (x.Al.drop e)=true then L1 (A1 (b+1))else some false
 |0,e,f,h1,h2=>by omega
 |n+1,e,f,h1,h2=>by
  unfold Ap.Cr Ap.L2;by_cases a:e<x.Al.length
  . rw[BC (by omega),CZ a,AAg,E6 a,Mc,ZQ,AAg];unfold Ap.J3;by_cases g:x.Al[e]<=f
    . grind
    . rw[Ad g,show decide (f<x.Al[e])=true from by grind,ABD,Ai (by omega)];cases Lp w.Init.Count x.Al[e]with
      |false=>rfl
      |true=>rw[AAp (by simp),ABD];exact vreaders w x c L1 b n (e+1) _ (by omega) (by omega)
  . rw[Ad (by omega),Gb a];rfl
theorem rO{a:Type}(l:List a):decide ((l.length:Int)>0)= !l.isEmpty:=by cases l<;>simp<;>omega
theorem vlock_step{w:AO}(h:Vt w)(c:RB 4611686018427387904 w.Init.Sync)(n i:Nat)(hi:i<w.Init.Sync.AE.length):
 Ap.AZ w (n+1) (i:Int)=if YP w i (ix w.Init.Sync.AE i)=true then Ap.AZ w n ((i+1:Nat):Int)else some false:=by
 have d:=h.s.l;have e:=h.l;rw[Ap.AZ];unfold Ap.L1;rw[BC (by omega),CZ hi,AAg,X7 hi,ZQ,AAg];have b:=c _ (AA0 hi);generalize w.Init.Sync.AE[i]=x at b |-;unfold Ap.J1 Ap.J2;have a:=vreaders w x b (Ap.AZ w n) i BP 0 (-1) (by omega) (by have:=BU;omega);rw[Int.natCast_zero,ABJ,Ai (by omega)]at a;rw[a,rO,Cb (Bb.2 (by omega)),AAg];generalize Ap.AZ w n ((i+1:Nat):Int)=R;unfold YP;grind
theorem vatom_step{w:AO}(h:Vt w)(n i:Nat)(hi:i<w.Init.Sync.AA.length):
 Ap.Gq w (n+1) (i:Int)=if Vv w i (N5 w i)=true then Ap.Gq w n ((i+1:Nat):Int)else some false:=by
 have a:=h.s.t;have b:=h.t;rw[Ap.Gq];unfold Ap.L3 Ap.J7 N5 Vv;rw[BC (by omega),CZ hi,AAg,X7 hi,ZQ,AAg,Ai (by omega)];grind
theorem vfut_step{w:AO}(h:Vt w)(n i:Nat)(hi:i<w.Init.AK.length):
 CG.AZ w.Init (n+1) (i:Int)=if yI w i=true then CG.AZ w.Init n ((i+1:Nat):Int)else some false:=by
 have a:=h.s.f;have b:=h.d;have c:=h.u;rw[CG.AZ];unfold CG.L1 CG.J1 yI;rw[BC (by omega),Cb (Bb.2 (by omega)),AAg,Cb (Bb.2 (by omega)),AAg,Ai (by omega)];grind
theorem iteB(b:Bool):(if b=true then some true else some false)=some b:=by grind
theorem vthreads_eq{w:AO}(h:Vt w):Bc w=some (Jh (λi=>ZU w i (N5 w i)) 0 w.Init.Sync.AA.length&&Jh (λi=>sK w i (N5 w i)) 0 w.Init.Sync.AA.length):=by have a:=h.s.t;have b:=h.t;have c:=BU;rw[<- sX,<- iteB];exact SJ (L:=Bc.AZ w) (R:=some true) (λn i hi=>yL h n i hi) (λn=>by rw[Bc.AZ];unfold Bc.L1;rw[Ad (by omega)];rfl) BP 0 (by omega) (by omega)
theorem vholders_eq{w:AO}(h:Vt w)(b:RB 4611686018427387904 w.Init.Sync):Ap w=some (Jh (λi=>YP w i (ix w.Init.Sync.AE i)) 0 w.Init.Sync.AE.length&&(txW w&&Jh (λi=>Vv w i (N5 w i)) 0 w.Init.Sync.AA.length)):=by
 have c:=h.s.l;have d:=h.l;have e:=h.s.t;have f:=h.t;have j:=BU;have a:Ap.Gq w BP 0=some (Jh (λi=>Vv w i (N5 w i)) 0 w.Init.Sync.AA.length):=by rw[<- iteB];exact SJ (L:=Ap.Gq w) (R:=some true) (λn i hi=>vatom_step h n i hi) (λn=>by rw[Ap.Gq];unfold Ap.L3;rw[Ad (by omega)];rfl) BP 0 (by omega) (by omega)
 have g:Ap.J5 w=some (txW w&&Jh (λi=>Vv w i (N5 w i)) 0 w.Init.Sync.AA.length):=by unfold Ap.J5 Ap.J6 txW;rw[a,ZQ,AAg];unfold bne;cases w.Init.Sync.Tx== -1<;>cases Lp w.Init.Count w.Init.Sync.Tx<;>rfl
 refine(SJ (L:=Ap.AZ w) (R:=Ap.J5 w) (λn i hi=>vlock_step h b n i hi) (λn=>by rw[Ap.AZ];unfold Ap.L1;simp_all) BP 0 (by omega) (by omega)).trans ?_;grind
theorem vfutures_eq{w:AO}(h:Vt w):CG w.Init=some (Jh (yI w) 0 w.Init.AK.length):=by have a:=h.s.f;have b:=h.d;have c:=h.u;have e:=BU;rw[<- iteB];exact SJ (L:=CG.AZ w.Init) (R:=some true) (λn i hi=>vfut_step h n i hi) (λn=>by rw[CG.AZ];unfold CG.L1;rw[Ad (by omega)];rfl) BP 0 (by omega) (by omega)
theorem lW{c:Int}:∀(D:List Int)(a:Int),F8 c a D=true->∀k∈D,a<k/\k<c:=by
 intro D;induction D with
 |nil=>simp_all
 |cons x r ih=>intro a h k b;unfold F8 at h;grind
theorem poss_nums{wv:AD}{s:AB}{x:AG}(h:IZ wv s x=true):(∀k∈x.Du,1<=k/\k<ix s.Count x.Thread)/\∀k∈x.DR,1<=k/\k<ix s.Count x.Thread:=by unfold IZ Eh at h;simp only[AAi]at h;obtain⟨_,_,_,_,⟨⟨_,b⟩,_,c⟩,_⟩:=h;exact⟨λk a=>by have:=lW _ _ b k a;omega,λk a=>by have:=lW _ _ c k a;omega⟩
theorem readers_len{c:List Int}:∀(l:List Int)(a:Int),a<c.length->Mc c a l=true->(l.length:Int)+a+1<=c.length:=by
 intro l;induction l with
 |nil=>grind
 |cons t r ih=>intro a h b;unfold Mc Lp at b;simp only[AAi,AA1]at b;have d:=Bb.1 b.2.1.1;grind
theorem RB_of{w:AO}(h:Vt w)(b:Jh (λi=>YP w i (ix w.Init.Sync.AE i)) 0 w.Init.Sync.AE.length=true):RB 4 w.Init.Sync:=by
 intro x d;obtain⟨j,a,rfl⟩:=List.getElem_of_mem d
 have:=Ma.1 b j (by omega) (by omega);unfold YP at this;rw[X7 a]at this;simp only[AAi]at this
 have:=readers_len _ _ (by omega) this.2.2;have e:=h.s.t;have f:=h.c;omega
def CI(c:List Int)(nt:Nat)(pre:List AG)(s:AB):Prop:=s.Count.length=nt/\∀u,Df u nt=true->ix s.Count u=ix c u+((Jx pre u).length:Int)
theorem CI.next{wv:AD}{c:List Int}{nt:Nat}{a:List AG}{s:AB}(h:CI c nt a s){x:AG}(b:Df x.Thread nt=true)(f:∀u,Df u nt=true->0<=ix c u/\ix c u<=400)(m:a.length<=1000):CI c nt (a++[x]) (GU wv s x):=by
 refine⟨by simpa[GU]using h.1,λu d=> ?_⟩;obtain⟨i,j⟩:=Bb.1 b;obtain⟨k,l⟩:=Bb.1 d;rw[Md];show ix (s.Count.set x.Thread.toNat (A1 (ix s.Count x.Thread+1))) u=_;have n:=f _ b;have g:=h.2 _ b;have hn:=LR a x.Thread;by_cases e:x.Thread=u
 . subst e;rw[AAs rfl];unfold ix;rw[AAk (by have:=h.1;omega)];show A1 (ix s.Count x.Thread+1)=ix c x.Thread+_;rw[g,CH (by omega) (by omega)];grind
 . rw[AAp e,<- h.2 u d];unfold ix;grind
section
variable{w:AO}
theorem pos.L3(L2:Int->AB8 Bool)(l:List Int)(R:List (List Bool))(t:Int)(x:AG){B:List Bool}(g:l.length<4611686018427387904)(f:∀k∈l,1<=k/\k<1000000)(d:gt R x.Thread=some B)(e:gt w.Init.Count x.Thread=some (ix w.Init.Count x.Thread))(b:0<=ix w.Init.Count x.Thread/\ix w.Init.Count x.Thread<=400):∀(n i:Nat),i<=l.length->l.length<n+i->
 BK.Gq L2 l R t w x n (i:Int)=if(l.drop i).all (OO (ix w.Init.Count x.Thread) B)=true then L2 (A1 (t+1))else some false
 |0,i,h1,h2=>by omega
 |n+1,i,h1,h2=>by
  rw[BK.Gq];unfold BK.L3;by_cases hi:i<l.length
  . unfold BK.J2;have j:=f _ (AA0 hi);rw[BC (by omega),CZ hi,AAg,e,AAg,E6 hi,Ai (by omega),pos.L3 L2 l R t x g f d e b n (i+1) (by omega) (by omega),ABW,d,AAg];generalize l[i]=k at j |-;generalize (l.drop (i+1)).all (OO (ix w.Init.Count x.Thread) B)=q;generalize ix w.Init.Count x.Thread=c at b |-;rw[CH (by omega) (by omega)];unfold OO KX;by_cases m:k<c
    . grind
    . rw[BC (by omega),show decide (k<c)=false from by simp_all];by_cases a:k-c>=(B.length:Int)
      . rw[BC a,show Df (k-c) B.length=false from by simp[Df];omega];rfl
      . have h:Df (k-c) B.length=true:=(by simp[Df];omega);rw[Ad a,Cb h,AAg,h];grind
  . rw[Ad (by omega),Gb hi];rfl
theorem pos.L2(L1:AB->List (List Bool)->Int->AB8 Bool)(R:List (List Bool))(t:Int)(v:AB×Bool)(x:AG){B:List Bool}(b:JC x)(hd:∀k∈x.Du,1<=k/\k<1000000)(f:∀k∈x.DR,1<=k/\k<1000000)(d:gt R x.Thread=some B)(e:gt w.Init.Count x.Thread=some (ix w.Init.Count x.Thread))(c:0<=ix w.Init.Count x.Thread/\ix w.Init.Count x.Thread<=400):
 BK.Cr L1 R t v w x BP 0=if(x.Du.all (OO (ix w.Init.Count x.Thread) B)&&x.DR.all (OO (ix w.Init.Count x.Thread) B))=true then BK.J4 L1 R t v x else some false:=by
 have n:=BU;have a:∀L1 t l,l.length<4611686018427387904->(∀k∈l,1<=k/\k<1000000)->BK.J1 L1 R t w x l=if l.all (OO (ix w.Init.Count x.Thread) B)=true then L1 (A1 (t+1))else some false:=by
  intro L1 t l h g
  have:=pos.L3 L1 l R t x h g d e c BP 0 (by omega) (by omega);rw[ABJ]at this;exact this
 rw[Za];generalize BP-3=m;have j:BK.Cr L1 R t v w x (m+1) 2=BK.J4 L1 R t v x:=by rw[BK.Cr];unfold BK.L2;rfl
 have i:BK.Cr L1 R t v w x (m+2) 1=if x.DR.all (OO (ix w.Init.Count x.Thread) B)=true then BK.J4 L1 R t v x else some false:=by rw[BK.Cr];unfold BK.L2;rw[BC (by decide),AAp (by decide),AAs (by decide),a _ _ _ b.2 f,show A1 (1+1)=2 from rfl,j]
 rw[BK.Cr];unfold BK.L2;rw[BC (by decide),AAs (by decide),a _ _ _ b.1 hd,show A1 (0+1)=1 from rfl,i];grind
theorem pos_loop(h:Vt w)(r:w.AF.length<=16)(l:∀e∈w.AF,JC e)(f:∀u,Df u w.World.AA.length=true->0<=ix w.Init.Count u/\ix w.Init.Count u<=400):∀(n i:Nat)(s:AB)(R:List (List Bool)),i<=w.AF.length->w.AF.length<n+i->RB (4+i) s.Sync->R.length=w.World.AA.length->(∀u:Nat,u<R.length->R[u]? =some (Jx (w.AF.take i) (u:Int)))->CI w.Init.Count w.World.AA.length (w.AF.take i) s->
 BK.AZ w n s R (i:Int)=some (lN w.World w.Init.Count (w.AF.take i) s (w.AF.drop i))
 |0,i,s,R,h1,h2,_,_,_,_=>by omega
 |n+1,i,s,R,h1,h2,h3,h4,h5,h6=>by
  rw[BK.AZ];unfold BK.L1;by_cases hi:i<w.AF.length
  . have o:=l _ (AA0 hi);rw[BC (by omega),CZ hi,AAg,ZP w.World h.s s (h3.mono (by omega)) _ o,AAg,E6 hi,lN];unfold QN;cases hp:IZ w.World s w.AF[i]with
    |false=>rfl
    |true=>
     rw[AAs rfl,AAp (c:=(!true)=true) (by simp),ABD];have a:=MZ hp;obtain⟨q,z⟩:=Bb.1 a;have v:w.AF[i].Thread.toNat<R.length:=(by omega);have m:gt R w.AF[i].Thread=some (Jx (w.AF.take i) w.AF[i].Thread):=(by unfold gt;rw[AAs q,h5 _ v];congr 2;omega);have y:=LR (w.AF.take i) w.AF[i].Thread;rw[ABw (by omega)]at y;have g:=f _ a;have t:=h6.2 _ a;obtain⟨B,C⟩:=poss_nums hp;rw[pos.L2 _ _ _ _ _ o (λk d=>by grind) (λk d=>by grind) m (Cb (by rw[h.c];exact a)) g];change (if lO w.Init.Count (w.AF.take i) w.AF[i]=true then _ else _)=_
     cases lO w.Init.Count (w.AF.take i) w.AF[i]with
     |false=>rfl
     |true=>
      unfold BK.J4;rw[AAs rfl,m,AAg,BO (by omega),BO (by omega),ABD];unfold BK.J5 BK.J6;have d:∀b,b=fM w.AF[i]->BK.AZ w n (GU w.World s w.AF[i]) (R.set w.AF[i].Thread.toNat (Jx (w.AF.take i) w.AF[i].Thread++[b])) (A1 ((i:Int)+1))=some (lN w.World w.Init.Count (w.AF.take i++[w.AF[i]]) (GU w.World s w.AF[i]) (w.AF.drop (i+1))):=by
       rintro b rfl;have j:=h6.next (wv:=w.World) a f (by simp;omega);rw[Ai (by omega)];rw[AA2 hi]at j |-;refine pos_loop h r l f n (i+1) _ _ (by omega) (by omega) ?_ (by simp_all) ?_ j
       . exact(h3.apply _ _ _ _ _).mono (by omega)
       . intro u x;rw[<- AA2 hi,Md];grind
      by_cases p:w.AF[i].Kind=3
      . rw[AAs (by simp[p])];exact d _ (by simp[fM,p])
      . rw[AAp (by simp_all)];exact d _ (by simp[fM,show(w.AF[i].Kind==3)=false by simp_all])
  . rw[Ad (by omega),Gb hi];rfl
theorem cnt_of(h:Vt w)(d:PS w=true):∀u,Df u w.World.AA.length=true->0<=ix w.Init.Count u/\ix w.Init.Count u<=400:=by
 intro u e;unfold PS at d;simp only[AAi]at d;obtain⟨a,b⟩:=Bb.1 e;have f:=h.c
 have:=Ma.1 d.1 u.toNat (by omega) (by omega);grind
theorem possible_eq(h:Vt w)(f:w.AF.length<=16)(b:∀e∈w.AF,JC e)(d:PS w=true)(g:RB 4 w.Init.Sync):BK w=some (lN w.World w.Init.Count [] w.Init w.AF):=by
 have i:=h.s.t;have j:=BU;unfold BK;rw[AAs ⟨by omega,by omega,Bh (by omega)⟩]
 have:=pos_loop h f b (cnt_of h d) BP 0 w.Init (List.replicate w.World.AA.length []) (by omega) (by omega) g (by simp) (by intro u a;simp at a;simp[a,Jx]) ⟨h.c,λu _=>by simp[Jx]⟩;simp_all
end
section
variable{w:AO}
theorem stateW_and{a b c d e f g:Bool}:(a&&(b&&(c&&(d&&(e&&(f&&g))))))=(a&&((b&&c)&&((d&&(e&&f))&&g))):=by grind
theorem Valid_eq(f:∀e∈w.AF,JC e)(g:RB 4611686018427387904 w.Init.Sync):Gk w=some (Sx w):=by
 unfold Gk Sx;rw[Ub,AAg];cases hv:Cs w.World with
 |false=>rfl
 |true=>
  have d:=DF hv;rw[AAs rfl,ABD];have a:JB w.World w.Init=some (JF w.World w.Init):=Nb _ d _;rw[a,AAg];cases hf:JF w.World w.Init with
  |false=>rfl
  |true=>
   rw[AAs rfl,ABD];by_cases b:w.AF.length<=16
   . have h:Vt w:=WinF.l ⟨hv,hf,b⟩;rw[BC (by omega),show decide (w.AF.length<=16)=true from by simp_all,ABD,yH w (by have:=d.t;have:=h.c;omega) b,AAg];unfold sL;rw[stateW_and,vthreads_eq h,AAg,vholders_eq h g,AAg,vfutures_eq h,AAg];cases hc:PS w with
     |false=>rfl
     |true=>
      rw[AAs rfl,ABD];cases(Jh (λi=>ZU w i (N5 w i)) 0 w.Init.Sync.AA.length&&Jh (λi=>sK w i (N5 w i)) 0 w.Init.Sync.AA.length)with
      |false=>rfl
      |true=>
       rw[AAs rfl,ABD];cases hL:(Jh (λi=>YP w i (ix w.Init.Sync.AE i)) 0 w.Init.Sync.AE.length&&(txW w&&Jh (λi=>Vv w i (N5 w i)) 0 w.Init.Sync.AA.length))with
       |false=>rfl
       |true=>rw[AAi]at hL;rw[AAs rfl,ABD,possible_eq h b f hc (RB_of h hL.1)];cases Jh (yI w) 0 w.Init.AK.length<;>rfl
   . rw[Ad (by omega),show decide (w.AF.length<=16)=false from by simp_all];rfl
end
theorem uG(wv:AD)(l:List AG):∀a s,GJ wv a s l=(0,0)\/(GJ wv a s l).2=12/\(a.length:Int)<=(GJ wv a s l).1:=by
 induction l with
 |nil=>exactλ_ _=>.inl rfl
 |cons x r ih=>
  intro a s;unfold GJ;split
  . refine(ih (a++[x]) _).imp id λh=>⟨h.1,?_⟩
    have:=h.2;simp at this |-;omega
  . exact .inr ⟨rfl,by simp⟩
structure AT (t:Aw):Prop where
 w:Cs t.World=true
 l:t.AF.length<=400
 c:GJ t.World [] (GQ t.World) t.AF=(0,0)
 e:∀e∈t.AF,JC e
theorem AT.of{t:Aw}(a:∀e∈t.AF,JC e)(h:(Hc t).2=0):AT t:=by
 unfold Hc at h;split at h
 . cases h
 . split at h
   . rename_i c b;rcases uG t.World t.AF [] (GQ t.World)with hc|⟨hc,_⟩
     . exact⟨b,by omega,hc,a⟩
     . rw[hc]at h;cases h
   . cases h
theorem AT.check{t:Aw}(h:AT t):Hc t=(0,0):=by unfold Hc;rw[AAp (by have:=h.l;omega),AAs h.w,h.c]
theorem AT.poss{t:Aw}(h:AT t){i:Nat}(hi:i<t.AF.length):IZ t.World (HJ t i) t.AF[i]=true:=by
 obtain⟨_,b⟩:=mS h.w h.l h.c i (by omega);rw[ABd hi,GJ]at b;split at b
 . rename_i a;rw[AAi]at a;exact a.1
 . exact absurd (AB6 Prod.snd b) (λh:(12:Int)=0=>by cases h)
theorem AT.rb{t:Aw}:∀i,i<=t.AF.length->RB i (HJ t i).Sync
 |0,_=>RB.start _
 |i+1,hi=>by rw[PU (by omega)];exact(AT.rb i (by omega)).apply _ _ _ _ _
theorem AT.step{t:Aw}(h:AT t){i:Nat}(hi:i<t.AF.length):QN t.World (HJ t i) t.AF[i]=(HJ t (i+1),true):=by unfold QN;rw[AAs (h.poss hi),PU hi]
theorem AT.vstep{t:Aw}(h:AT t){i:Nat}(hi:i<t.AF.length):BQ t.World (HJ t i) t.AF[i]=some (HJ t (i+1),true):=by rw[ZP _ (DF h.w) _ ((AT.rb i (by omega)).mono (by have:=h.l;omega)) _ (h.e _ (AA0 hi)),h.step hi]
theorem AT.rstep{t:Aw}(h:AT t){i:Nat}(hi:i<t.AF.length):Bg t.World (HJ t i) t.AF[i]=some (HJ t (i+1),true):=by rw[SS _ (DF h.w) _ ((AT.rb i (by omega)).mono (by have:=h.l;omega)) _ (h.e _ (AA0 hi)),h.step hi]
theorem lZ{t:Aw}(h:AT t){b:Nat}(c:b<=t.AF.length):∀(n i:Nat),i<=b->b<n+i->EJ.AZ (b:Int) t n (HJ t i) (i:Int)=some (HJ t b,0)
 |0,i,h1,h2=>by omega
 |n+1,i,h1,h2=>by
  have e:=h.l;rw[EJ.AZ];unfold EJ.L1;have a:((t.AF.take (b:Int).toNat).length:Int)=b:=by rw[ABS,ABw c]
  rw[a];by_cases hi:i<b
  . have d:gt (t.AF.take (b:Int).toNat) (i:Int)=some t.AF[i]:=(by rw[JR,ABS,List.getElem?_take_of_lt hi];simp);rw[BC (by omega),d,AAg,h.vstep (by omega),AAg,Ai (by omega)];exact lZ h c n (i+1) (by omega) (by omega)
  . have:i=b:=(by omega);subst this;rw[Ad (by omega)];rfl
theorem XR{t:Aw}(h:AT t){b:Nat}(a:b<=t.AF.length):∀(n i:Nat),i<=b->b<n+i->Fh.AZ (b:Int) t n (HJ t i) (i:Int)=some (HJ t b)
 |0,i,h1,h2=>by omega
 |n+1,i,h1,h2=>by
  have c:=h.l;rw[Fh.AZ];unfold Fh.L1;by_cases hi:i<b
  . rw[BC (by omega),CZ (by omega),AAg,h.rstep (by omega),AAg,Ai (by omega)];exact XR h a n (i+1) (by omega) (by omega)
  . have:i=b:=(by omega);subst this;rw[Ad (by omega)];rfl
theorem sW{t:Aw}(h:AT t){b:Nat}(a:b<=t.AF.length):Fh t (b:Int)=some (HJ t b):=by unfold Fh;rw[LZ _ (DF h.w),AAg];exact XR h a BP 0 (by omega) (by have:=BU;have:=h.l;omega)
def Ev400(e:AG):Prop:=e.Du.length<=1000/\e.DR.length<=1000
theorem nums_len{c:Int}:∀(D:List Int)(a:Int),a<c->F8 c a D=true->(D.length:Int)+a+1<=c:=by
 intro D;induction D with
 |nil=>intro a h _;simp;omega
 |cons x r ih=>
  intro a h hn;unfold F8 at hn;simp only[AAi,AA1]at hn
  have:=ih x hn.2.1 hn.2.2;simp only[ABe];omega
theorem AT.ev{t:Aw}(h:AT t){e:AG}(m:e∈t.AF):Ev400 e:=by
 obtain⟨i,hi,rfl⟩:=List.getElem_of_mem m;obtain⟨a,_⟩:=mS h.w h.l h.c i (by omega);have b:=h.poss hi;have k:=a.c _ (MZ b);have n:=LR (t.AF.take i) t.AF[i].Thread;have o:=h.l;rw[ABw (by omega)]at n;unfold IZ Eh at b;simp only[AAi]at b;obtain⟨_,_,_,_,⟨⟨_,d⟩,_,f⟩,_⟩:=b;rw[k]at d f;have key:∀D:List Int,F8 ((Jx (t.AF.take i) t.AF[i].Thread).length:Int) 0 D=true->D.length<=1000:=by
  intro D g;cases D with
  |nil=>simp
  |cons x r=>
   have j:0<((Jx (t.AF.take i) t.AF[i].Thread).length:Int):=by have:=lW _ _ g x (by simp);omega
   have:=nums_len _ _ j g;omega
 exact⟨key _ d,key _ f⟩
def VE(k i:Nat):Nat:=(i+k-1)/k
theorem sG{k:Nat}(a:0<k)(q r:Nat)(b:0<r)(c:r<=k):VE k (q*k+r)=q+1:=by unfold VE;rw[show q*k+r+k-1=k*q+(r-1+k)from by rw[ABZ];omega,Nat.mul_add_div a,Nat.add_div_right _ a,Nat.div_eq_of_lt (by omega)]
theorem winN_le{k:Nat}(a:0<k)(i:Nat):VE k i<=i+k:=by unfold VE;exact ABc (Nat.div_le_self _ _) (by omega)
def Ld(t:Aw)(k i:Nat):List AO:=(List.range (VE k i)).map λj=>aB t k (j*k)
theorem Wo(t:Aw)(k i:Nat):(Ld t k i).length=VE k i:=by simp[Ld]
theorem fR(n:Nat):List.range (n+1)=List.range n++[n]:=List.range_succ
theorem xW{l:List AG}{i k:Nat}(hi:i<=l.length):(l.drop i).take (((if(l.length:Int)<(i:Int)+(k:Int)then(l.length:Int)else(i:Int)+(k:Int)).toNat)-i)=(l.drop i).take k:=by
 split
 . rw[ABM (by simp),ABM (by simp;omega)]
 . rw[show((i:Int)+(k:Int)).toNat-i=k from by omega]
def Qr(t:Aw)(size:Int):List AO×Int:=if(Hc t).2≠0 then([],12)else if size<1\/size>16 then([],1)else(Ld t size.toNat t.AF.length,0)
theorem Vj{t:Aw}(h:AT t){k:Nat}(a:0<k)(f:k<=16):∀(n j:Nat),j*k<t.AF.length+k->t.AF.length+k<n+j*k->EF.AZ (k:Int) t n ((List.range j).map λj=>aB t k (j*k)) ((j*k:Nat):Int)=some (Ld t k t.AF.length,0)
 |0,j,h1,h2=>by omega
 |n+1,j,h1,h2=>by
  have o:=h.l;rw[EF.AZ];unfold EF.L1;have m:j<=j*k:=Nat.le_mul_of_pos_right j a;have b:(j+1)*k=j*k+k:=ABl j k;have c:t.AF.length<=j*k->VE k t.AF.length=j:=by
   intro hi;cases j with
   |zero=>have g:t.AF.length=0:=(by omega);rw[g];unfold VE;exact Nat.div_eq_of_lt (by omega)
   |succ j=>
    have p:(j+1)*k=j*k+k:=ABl j k
    have:=sG a j (t.AF.length-j*k) (by omega) (by omega);rw[show j*k+(t.AF.length-j*k)=t.AF.length from by omega]at this;exact this
  generalize d:j*k=i at*;by_cases hi:i<t.AF.length
  . rw[BC (by omega),sW h (by omega),AAg,CH (n:=(i:Int)+(k:Int)) (by omega) (by omega),ABS,xW (by omega),AAs (by split<;>omega),BO (by simp;omega)];have e:((List.range j).map λj=>aB t k (j*k))++[AO.mk t.World (i:Int) (HJ t i) ((t.AF.drop i).take k)]=(List.range (j+1)).map λj=>aB t k (j*k):=(by rw[fR,ABL,List.map_singleton,d];rfl);rw[e]
    have:=Vj h a f n (j+1) (by omega) (by omega);rw[b]at this;exact this
  . rw[Ad (by omega)];unfold EF.J2 Ld;rw[c (by omega)]
theorem xF(t:Aw)(d:∀e∈t.AF,JC e)(n:Int):EF t n=some (Qr t n):=by
 unfold EF Qr;rw[cB t d,AAg];by_cases a:(Hc t).2=0
 . have h:=AT.of d a;rw[AAp (c:=((Hc t).2 != 0)=true) (by simp[a]),AAp (c:=(Hc t).2≠0) (by simp[a])];unfold EF.J1;by_cases b:n<1
   . rw[BC b,AAs rfl,AAs (.inl b)]
   . rw[Ad b];by_cases g2:n>16
     . rw[AAs (by simpa using g2),AAs (.inr g2)]
     . rw[AAp (by simpa using g2),AAp (by omega)]
       have:=Vj h (k:=n.toNat) (by omega) (by omega) BP 0 (by omega) (by have:=BU;have:=h.l;omega);rw[show((n.toNat:Nat):Int)=n from by omega,Nat.zero_mul]at this;exact this
 . rw[AAs (c:=((Hc t).2 != 0)=true) (by simp[a]),AAs (c:=(Hc t).2≠0) a]
def cN:AB9:=⟨#[99]⟩
def noE:BB:=⟨0,0,⟨#[]⟩,[]⟩
def lT(T:AB9->Prop)(o:Int)(s a:AB9)(i:List BB):Prop:=
 (o=1->i=[]->s∈vN)/\(o=4->s=⟨#[109]⟩\/s=⟨#[110]⟩)/\(o=5\/o=6->s=⟨#[114]⟩)/\(o=12\/o=13->T s)/\(o=14->s=⟨#[102]⟩)/\(o=15->s=⟨#[97]⟩/\a=⟨#[102]⟩)
def bdF(o:Int)(b e:List AQ):Prop:=(o∉[(2:Int),3,4,5,6,7,8]->b=[])/\(o≠2->e=[])
def IY(T:AB9->Prop):Nat->AQ->Prop
 |0,_=>False
 |n+1,s=>(1<=s.Op/\s.Op<=15)/\(s.Index=[]\/s.Op=1/\s.Name=qS/\∃a,s.Index=[a]/\Tp 2 a)/\(Tp 2 s.Expr\/s.Op∉[(1:Int),2,3,14]/\s.Expr=noE)/\(s.Op∈[(9:Int),10,11]->s.Name=cN)/\
  s.Body.length<=4/\s.Else.length<=4/\(∀x∈s.Body,IY T n x)/\(∀x∈s.Else,IY T n x)/\bdF s.Op s.Body s.Else/\lT T s.Op s.Name s.Arg s.Index
structure MK (H:Nat) (m:AN):Prop where
 t:EW m.t
 h:m.held.length<=H/\H<=500
structure I6 (m m':AN):Prop where
 t:EW m'.t
 h:m'.held=m.held
theorem Vk.keep{m a:AN}(h:Vk m a):I6 m a:=⟨h.1,by rw[h.2]⟩
theorem I6.mk'{H:Nat}{m a:AN}(b:MK H m)(h:I6 m a):MK H a:=⟨h.t,by rw[h.h];exact b.h⟩
theorem I6.trans{a b c:AN}(h:I6 a b)(g:I6 b c):I6 a c:=⟨g.t,g.h.trans h.h⟩
def okL(T:AB9->Prop)(k:Nat)(l:List AQ):Prop:=l.length<=2/\∀x∈l,IY T k x
theorem Lq{T:AB9->Prop}{s:AB9}{e:BB}(h:Tp 2 e)(a:s∈vN)(k:Nat):IY T (k+1) ⟨1,0,s,⟨#[]⟩,[],e,[],[]⟩:=⟨⟨by simp,by simp⟩,.inl rfl,.inl h,by simp,by simp,by simp,by simp,by simp,⟨λ_=>rfl,λ_=>rfl⟩,λ_ _=>a,by simp,by simp,by simp,by simp,by simp⟩
theorem P0{T:AB9->Prop}{o l:Int}{s a:AB9}(h:1<=o/\o<=15)(b:o∉[(1:Int),2,3,14])(c:o∈[(9:Int),10,11]->s=cN)(d:lT T o s a []){k:Nat}:IY T (k+1) ⟨o,l,s,a,[],noE,[],[]⟩:=
 ⟨h,.inl rfl,.inr ⟨b,rfl⟩,c,by simp,by simp,by simp,by simp,⟨λ_=>rfl,λ_=>rfl⟩,d⟩
theorem Qn{T:AB9->Prop}{o l:Int}{s a:AB9}(i:o∈[(2:Int),3,4,5,6,7,8])(h:1<=o/\o<=15)(d:o∉[(1:Int),2,3,14])(e:o∉[(9:Int),10,11])(f:lT T o s a []){k:Nat}{b:List AQ}(g:b.length<=4)(c:∀x∈b,IY T k x):IY T (k+1) ⟨o,l,s,a,[],noE,b,[]⟩:=
 ⟨h,.inl rfl,.inr ⟨d,rfl⟩,λh=>absurd h e,g,by simp,c,by simp,⟨λh=>absurd i h,λ_=>rfl⟩,f⟩
section
variable{T:AB9->Prop}{R158:AN->AB9->Int->AB8 (List AQ×AN)}{R86:AN->Int->Int->AB8 (List AQ×AN)}{depth:Int}{nested:Bool}{k H:Nat}
structure PT (T:AB9->Prop) (R158:AN->AB9->Int->AB8 (List AQ×AN)) (R86:AN->Int->Int->AB8 (List AQ×AN)) (depth:Int) (k H:Nat):Prop where
 d:0<=depth/\depth<100
 b:0<depth->∀m s,MK H m->B7 (R158 m s (depth-1)) λr=>okL T (k+1) r.1/\I6 m r.2
 s:0<depth->∀m d n,MK H m->(d=0\/d=depth-1)->(n=1\/n=2)->B7 (R86 m d n) λr=>okL T (k+1) r.1/\I6 m r.2
abbrev Good(T:AB9->Prop)(k:Nat)(m:AN)(r:AQ×AN):Prop:=IY T (k+2) r.1/\I6 m r.2
theorem cW{m:AN}(a:MK H m)(b:Bool):B7 (Ay.sM m b) (Good T k m):=by unfold Ay.sM E2;refine tI (λ_=>tR ⟨P0 (by decide) (by decide) (by decide) (by simp[lT]),a.t,rfl⟩) λ_=> ?_;refine tB (Kk (.inr rfl) a.t) ?_;rintro e ⟨c,d⟩;exact tR ⟨Lq c (YR (by decide)) _,d.keep⟩
theorem Wq{m:AN}(a:MK H m)(v:Int×AU)(b:Bool):B7 (Ay.Z9 m v b) (Good T k m):=by
 unfold Ay.Z9;refine tI (λ_=> ?_) λ_=>tI (λ_=>tI (λ_=> ?_) λ_=>cW a _) λ_=>cW a _
 . refine tB (Kk (.inr rfl) a.t) ?_;rintro e ⟨d,c⟩;exact tR ⟨⟨⟨by simp,by simp⟩,.inl rfl,.inl d,by simp,by simp,by simp,by simp,by simp,⟨λ_=>rfl,λ_=>rfl⟩,by simp[lT]⟩,c.1,by rw[c.2]⟩
 . refine tB (G8 a.t (by omega)) ?_;rintro e ⟨_,c⟩;exact tM (cW (k:=k) (m:={m with t:=e.2}) ⟨c,a.h⟩ _) λr h=>⟨h.1,h.2.t,h.2.h⟩
theorem cV{m:AN}(a:MK H m)(v:Int×AU)(b:Bool):B7 (Ay.QZ v m b) (Good T k m):=by unfold Ay.QZ;refine tI (λ_=> ?_) λ_=>tI (λ_=>tI (λ_=>tI (λ_=>Wq a _ _) λ_=>Wq a _ _) λ_=>Wq a _ _) λ_=>Wq a _ _;refine tB (G8 a.t (by omega)) ?_;rintro e ⟨f,d⟩;refine tR ⟨Qn (by decide) (by decide) (by decide) (by decide) (by simp[lT]) (by simp) ?_,d,rfl⟩;intro x c;simp only[ABG]at c;subst c;rw[CH (by omega) (by omega)];refine P0 (by omega) ?_ (λ_=>rfl) ⟨by omega,by omega,by omega,by omega,by omega,by omega⟩;simp;omega
theorem dA{m:AN}(a:MK H m)(v:Int×AU)(b:Bool):B7 (Ay.J9 nested v m b) (Good T k m):=by
 unfold Ay.J9 Iy E2;refine tI (λ_=> ?_) λ_=>tI (λ_=>tI (λ_=> ?_) λ_=>cV a _ _) λ_=>cV a _ _
 . simp only[AAg];refine tR ⟨Qn (by decide) (by decide) (by decide) (by decide) (by simp[lT]) (by simp) ?_,a.t,rfl⟩;intro x c;simp only[ABH,ABa,ABU]at c;rcases c with rfl|rfl
   . exact P0 (by decide) (by decide) (λ_=>rfl) (by simp[lT])
   . exact Lq (.inr (.inl ⟨rfl,rfl,YR (by decide)⟩)) (YR (by decide)) _
 . refine tB (Qj (by have:=a.h;omega) _) ?_;rintro e rfl;exact cV a _ _
theorem mA(g:PT T R158 R86 depth k H)(hn:nested=true->0<depth){m:AN}(a:MK H m)(v:Int×AU){b:Bool}(i:b=true->0<depth):B7 (Ay.J8 R86 depth m nested v b) (Good T k m):=by
 have hd:=g.d;unfold Ay.J8;refine tI (λh=> ?_) λ_=>tI (λ_=>tI (λ_=>tI (λ_=> ?_) λ_=>dA a _ _) λ_=>dA a _ _) λ_=>dA a _ _
 . refine tB (g.s (i h) _ _ _ ⟨a.t,a.h⟩ (.inr (CH (by omega) (by omega))) (.inr rfl)) ?_;rintro e ⟨c,f⟩;exact tR ⟨Qn (by decide) (by decide) (by decide) (by decide) (by simp[lT]) (by have:=c.1;omega) c.2,f.t,f.h⟩
 . refine tB (Qj (by have:=a.h;omega) _) ?_;rintro e rfl;exact dA a _ _
theorem zN(d:PT T R158 R86 depth k H)(hn:nested=true->0<depth){m:AN}(a:MK H m)(v:Int×AU){b:Bool}(i:b=true->0<depth):B7 (Ay.J7 R86 depth m nested v b) (Good T k m):=by unfold Ay.J7;refine tI (λh=> ?_) λ_=>tI (λ_=>tI (λh=>mA d hn a _ λ_=>hn h) λ_=>mA d hn a _ (by simp)) λ_=>mA d hn a _ (by simp);refine tB (G8 a.t (by omega)) ?_;rintro g ⟨j,c⟩;refine tB (d.s (i h) {m with t:=g.2,tx:=true} _ _ ⟨c,a.h⟩ (.inl rfl) (by rw[CH (by omega) (by omega)];omega)) ?_;rintro e ⟨c,f⟩;exact tR ⟨Qn (by decide) (by decide) (by decide) (by decide) (by simp[lT]) (by have:=c.1;omega) c.2,f.t,f.h⟩
theorem cZ(c:PT T R158 R86 depth k H)(hn:nested=true->0<depth){m:AN}(f:MK H m)(v:Int×AU){b:Bool}(j:b=true->0<depth/\(v.1=10\/v.1=11)):B7 (Ay.J6 R158 R86 depth nested v m b) (Good T k m):=by have hd:=c.d;unfold Ay.J6;refine tI (λh=> ?_) λ_=>tI (λ_=>zN c hn f _ hn) λ_=>zN c hn f _ (by simp);obtain⟨i,a⟩:=j h;rw[CH (n:=depth-1) (by omega) (by omega)];refine tB (c.b i m _ f) ?_;rintro e ⟨g,g2⟩;refine tR ⟨?_,g2⟩;rcases a with a|a<;>rw[a]<;>exact Qn (by decide) (by decide) (by decide) (by decide) (by first| (rw[show A1 (A1 ((10:Int)-10)+5)=5 from rfl];simp[lT])| (rw[show A1 (A1 ((11:Int)-10)+5)=6 from rfl];simp[lT])) (by have:=g.1;omega) g.2
theorem cY(f:PT T R158 R86 depth k H)(hn:nested=true->0<depth){m:AN}(a:MK H m)(v:Int×AU){b:Bool}(s:b=true->0<depth/\(v.1=8\/v.1=9)):B7 (Ay.J5 R158 R86 depth nested v m b) (Good T k m):=by
 have hd:=f.d;have t:=a.h;have o:∀{c:Bool}{i:Int},(v.1==i)=true->(i=10\/i=11)->nested=true->c=true->0<depth/\(v.1=10\/v.1=11):=λp q r _=>⟨hn r,by simp_all⟩;unfold Ay.J5;refine tI (λh=> ?_) λ_=>tI (λg=>tI (λj=> ?_) λ_=>cZ f hn a _ (by simp)) λ_=>tI (λg=>tI (λj=> ?_) λ_=>cZ f hn a _ (by simp)) λ_=>cZ f hn a _ (by simp)
 . obtain⟨p,q⟩:=s h;rw[CH (n:=depth-1) (by omega) (by omega),CH (by omega) (by omega)];refine tG (by simp;omega) λx u=>tB (f.b p m _ a) ?_;rintro e ⟨l,g2⟩;exact tR ⟨Qn (by decide) (by decide) (by decide) (by decide) ⟨by simp,λ_=>by simp_all,by simp,by simp,by simp,by simp⟩ (by have:=l.1;omega) l.2,g2⟩
 all_goals
  refine tB (Qj (by omega) _) ?_;rintro e rfl;exact cZ f hn a _ (o g (by omega) j)
theorem zM(a:PT T R158 R86 depth k H)(hn:nested=true->0<depth){m:AN}(l:MK H m){v:Int×AU}(q:EW v.2){b:Bool}(z:b=true->0<depth):B7 (Ay.J4 R158 R86 depth m nested v b) (Good T k m):=by
 have hd:=a.d;have E:=l.h;have o:∀{c:Bool}{i:Int},(v.1==i)=true->(i=8\/i=9)->nested=true->c=true->0<depth/\(v.1=8\/v.1=9):=λC D u _=>⟨hn u,by simp_all⟩;have g:MK H (AN.mk v.2 m.Be (A1 (m.left-1)) m.Ho m.tx m.atomic m.loop m.held):=⟨q,l.h⟩;have w:∀{r:AQ×AN},Good T k (AN.mk v.2 m.Be (A1 (m.left-1)) m.Ho m.tx m.atomic m.loop m.held) r->Good T k m r:=λh=>⟨h.1,h.2.t,h.2.h⟩;unfold Ay.J4;refine tI (λh=> ?_) λ_=>tI (λj=>tI (λn=> ?_) λ_=>tM (cY a hn g _ (by simp)) λ_=>w) λ_=>tI (λj=>tI (λn=> ?_) λ_=>tM (cY a hn g _ (by simp)) λ_=>w) λ_=>tM (cY a hn g _ (by simp)) λ_=>w
 . unfold Iy KJ Ig E2;simp only[AAg];refine tB (a.s (z h) _ _ _ ⟨q,l.h⟩ (.inr (CH (by omega) (by omega))) (.inl rfl)) ?_;rintro e ⟨p,g2⟩
   have:=p.1;refine tC (Bh (by omega)) (tR ⟨⟨by simp,.inl rfl,.inl ?_,by simp,by simp;omega,by simp,?_,by simp,⟨λh=>absurd (by simp) h,λ_=>rfl⟩,by simp[lT]⟩,g2.t,g2.h⟩)
   . exact .inr (.inr (.inr ⟨by simp,_,_,rfl,.inr (.inl ⟨rfl,rfl,YR (by decide)⟩),.inl ⟨rfl,rfl⟩⟩))
   . intro x f;rcases AAz.1 f with f|f
     . exact p.2 x f
     . simp only[ABG]at f;subst f;exact Lq (.inr (.inr (.inr ⟨by decide,_,_,rfl,.inr (.inl ⟨rfl,rfl,YR (by decide)⟩),.inl ⟨rfl,rfl⟩⟩))) (YR (by decide)) _
 all_goals
  have y:=eq_of_beq j;rw[y];refine tG (by decide) λx _=>tB (Qj (by grind) _) ?_;rintro e B;rw[B];exact tM (cY a hn g _ (o j (by omega) n)) λ_=>w
theorem zL(a:PT T R158 R86 depth k H)(hn:nested=true->0<depth){m:AN}(f:MK H m){v:Int×AU}(g:EW v.2){b:Bool}(z:b=true->0<depth):B7 (Ay.J2 R158 R86 depth m nested v b) (Good T k m):=by have hd:=a.d;unfold Ay.J2 Ay.J3;refine tI (λh=> ?_) λ_=>tI (λ_=>zM a hn f g λh=>by grind) λ_=>zM a hn f g (by simp);have h:=z h;refine tB (Kk (.inr rfl) (m:=AN.mk v.2 m.Be (A1 (m.left-1)) m.Ho m.tx m.atomic m.loop m.held) g) ?_;rintro e ⟨o,y⟩;have p:=y.keep;have u:MK H (AN.mk v.2 m.Be (A1 (m.left-1)) m.Ho m.tx m.atomic m.loop m.held):=⟨g,f.h⟩;rw[CH (n:=depth-1) (by omega) (by omega)];refine tB (a.s h _ _ _ (I6.mk' u p) (.inr rfl) (.inl rfl)) ?_;rintro w ⟨⟨w,j⟩,q⟩;refine tB (G8 q.t (by omega)) ?_;rintro c ⟨_,l⟩;have i:=q.h.trans p.h;refine tI (λ_=> ?_) λ_=>tR ⟨⟨by simp,.inl rfl,.inl o,by simp,by simp;omega,by simp,j,by simp,⟨λh=>absurd (by simp) h,λ_=>rfl⟩,by simp[lT]⟩,l,i⟩;refine tB (a.s h _ _ _ ⟨l,by rw[show _=m.held from i];exact f.h⟩ (.inr rfl) (.inl rfl)) ?_;rintro d ⟨⟨d1,x⟩,r⟩;exact tR ⟨⟨by simp,.inl rfl,.inl o,by simp,by simp;omega,by simp;omega,j,x,⟨λh=>absurd (by simp) h,λh=>absurd rfl h⟩,by simp[lT]⟩,r.t,r.h.trans i⟩
theorem l9(l:PT T R158 R86 depth k H)(hn:nested=true->0<depth){m:AN}(f:MK H m){v:Int×AU}(q:0<=v.1)(d:EW v.2):B7 (Ay.J1 R158 R86 depth m v nested) (Good T k m):=by
 have j:MK H (AN.mk v.2 m.Be (A1 (m.left-1)) m.Ho m.tx m.atomic m.loop m.held):=⟨d,f.h⟩;unfold Ay.J1 E2;refine tI (λh=> ?_) λ_=>tI (λ_=> ?_) λ_=>tI (λ_=> ?_) λ_=>tI (λ_=>zL l hn f d λh=>by grind) λ_=>zL l hn f d (by simp)
 . have h:=AAq h;refine tG (by simp;omega) λx i=>tB (Kk (.inr rfl) j.t) ?_;rintro e ⟨b,a⟩;exact tR ⟨Lq b (W5 (by decide) i) _,a.keep.t,a.keep.h⟩
 . refine tB (G8 d (by omega)) ?_;rintro c ⟨n,o⟩;refine tG n λx i=>tB (Kk (.inr rfl) o) ?_;rintro e ⟨b,a⟩;exact tR ⟨Lq b (W5 (by decide) i) _,a.keep.t,a.keep.h⟩
 . refine tB (Kk (.inl rfl) j.t) ?_;rintro e ⟨b,a⟩;refine tB (Kk (.inr rfl) a.keep.t) ?_;rintro g ⟨p,g2⟩;exact tR ⟨⟨by simp,.inr ⟨rfl,rfl,_,rfl,b⟩,.inl p,by simp,by simp,by simp,by simp,by simp,⟨λ_=>rfl,λ_=>rfl⟩,by simp[lT]⟩,g2.keep.t,g2.keep.h.trans a.keep.h⟩
theorem lH(b:PT T R158 R86 depth k H){m:AN}(a:MK H m):B7 (Ay R158 R86 m depth) (Good T k m):=by unfold Ay;refine tB (G8 a.t (by omega)) ?_;rintro v ⟨c,d⟩;exact tI (λh=>tI (λ_=>l9 b (λ_=>by grind) a c.1 d) λ_=>l9 b (by simp) a c.1 d) λ_=>l9 b (by simp) a c.1 d
end
section
variable{T:AB9->Prop}
theorem cJ{R:AN->Int->AB8 (AQ×AN)}{a:Int}{k H:Nat}(s:∀m,MK H m->B7 (R m a) λr=>IY T k r.1/\I6 m r.2){m:AN}(o:MK H m){c:Int}(hn:0<=c/\c<=3):
 B7 (CU R m a c) λr=>((r.1.length:Int)<=c/\∀x∈r.1,IY T k x)/\I6 m r.2:=by
 have j:=BU;have key:∀n (i:Nat) (d:AN) (l:List AQ),10<n+i->(i:Int)<=c->l.length<=i->(∀x∈l,IY T k x)->I6 m d->B7 (CU.AZ R a c n d l i) λr=>((r.1.length:Int)<=c/\∀x∈r.1,IY T k x)/\I6 m r.2:=by
  intro n;induction n with
  |zero=>omega
  |succ n ih=>
   intro i d l v w y q f;have J:∀b,(b=true->(i:Int)<c)->B7 (CU.J1 (CU.AZ R a c n) R a i l d b) λr=>((r.1.length:Int)<=c/\∀x∈r.1,IY T k x)/\I6 m r.2:=by
    intro b j;unfold CU.J1 CU.J2;refine tI (λh=> ?_) λ_=>tR ⟨⟨by grind,q⟩,f⟩;have h:=j h;refine tB (s _ (I6.mk' o f)) ?_;rintro e ⟨u,p⟩;refine tC (Bh (by omega)) ?_;rw[Ai (by omega)];refine ih (i+1) _ _ (by omega) (by omega) (by simp;omega) ?_ (f.trans p);intro x g;rcases AAz.1 g with g|g
    . grind
    . simp_all
   unfold CU.AZ CU.L1;grind
 exact key BP 0 m [] (by omega) (by omega) (by simp) (by simp) ⟨o.t,rfl⟩
theorem okS_mono{n:Nat}:∀{s:AQ},IY T n s->IY T (n+1) s:=by
 induction n with
 |zero=>exactλh=>h.elim
 |succ n ih=>exactλ⟨h1,h2,h3,h4,h5,h6,h7,h8,h9⟩=>⟨h1,h2,h3,h4,h5,h6,λx a=>ih (h7 x a),λx a=>ih (h8 x a),h9⟩
theorem okS_le{a b:Nat}(h:a<=b){s:AQ}(c:IY T a s):IY T b s:=by
 induction h with
 |refl=>exact c
 |step _ ih=>exact okS_mono ih
theorem uC{R86:AN->Int->Int->AB8 (List AQ×AN)}{d:Int}{k H:Nat}{m:AN}(b:MK H m)(i:H<500)(s:AB9)(h:∀m n,MK (H+1) m->(n=1\/n=2)->B7 (R86 m d n) λr=>okL T k r.1/\I6 m r.2):B7 (Hk R86 m s d) λr=>okL T k r.1/\I6 m r.2:=by
 have j:=b.h;unfold Hk;refine tC (Bh (by omega)) (tB (G8 b.t (by omega)) ?_);rintro v ⟨l,g⟩;refine tB (h (AN.mk v.2 m.Be m.left m.Ho m.tx m.atomic m.loop (m.held++[s])) _ ⟨g,by simp;omega⟩ (by rw[CH (by omega) (by omega)];omega)) ?_;rintro e ⟨c,a⟩;have f:e.2.held=m.held++[s]:=a.h;simp only[f,ABK,ABe,ABo];rw[CH (by omega) (by omega)];refine tC (by omega) (tR ⟨c,a.t,?_⟩);simp_all
theorem bW{H n:Nat}(c:H<500)(d:3<=n):
 (∀m,MK H m->B7 (Fu n m (0:Nat)) (Good T 0 m))/\∀m a,MK H m->0<=a/\a<=3->B7 (Dv (n+1) m (0:Nat) a) λr=>((r.1.length:Int)<=a/\∀x∈r.1,IY T 2 x)/\I6 m r.2:=by
 have key:∀m,MK H m->B7 (Fu n m (0:Nat)) (Good T 0 m):=by intro m b;obtain⟨n,rfl⟩:∃k,n=k+1:=⟨n-1,by omega⟩;exact lH (R158:=KI n) (R86:=Dv n) (H:=H) ⟨by omega,λh=>by simp at h,λh=>by simp at h⟩ b
 exact⟨key,λm a b hn=>cJ (R:=Fu n) key b hn⟩
theorem made_tot(d:Nat):∀(H n:Nat),d<50->H+d<500->3*d+3<=n->
 (∀m,MK H m->B7 (Fu n m d) (Good T d m))/\∀m a,MK H m->0<=a/\a<=3->B7 (Dv (n+1) m d a) λr=>((r.1.length:Int)<=a/\∀x∈r.1,IY T (d+2) x)/\I6 m r.2:=by
 induction d with
 |zero=>exactλH n _ g i=>bW (by omega) (by omega)
 |succ d ih=>
  intro H n o g i;have sub:∀(f c:Nat)(m:AN)(e a:Int),f<=H+1->3*d+4<=c->MK f m->(e=0\/e=((d+1:Nat):Int)-1)->(a=1\/a=2)->B7 (Dv c m e a) λr=>okL T (d+2) r.1/\I6 m r.2:=by
   intro f c m e a l g2 b hd hn;obtain⟨c,rfl⟩:∃k,c=k+1:=⟨c-1,by omega⟩;rcases hd with rfl|rfl
   . exact tM ((bW (n:=c) (by omega) (by omega)).2 m a b (by omega)) λr h=>⟨⟨by omega,λx j=>okS_le (by omega) (h.1.2 x j)⟩,h.2⟩
   . rw[show((d+1:Nat):Int)-1=(d:Int)from by omega];exact tM ((ih f c (by omega) (by omega) (by omega)).2 m a b (by omega)) λr h=>⟨⟨by omega,h.1.2⟩,h.2⟩
  have key:∀m,MK H m->B7 (Fu n m (d+1:Nat)) (Good T (d+1) m):=by
   intro m b;obtain⟨n,rfl⟩:∃k,n=k+2:=⟨n-2,by omega⟩;refine lH (R158:=KI (n+1)) (R86:=Dv (n+1)) (H:=H) (k:=d+1) ⟨by omega,λ_ m s b=> ?_,λ_ m e a b hd hn=> ?_⟩ b
   . exact uC (R86:=Dv n) b (by omega) s λm a b hn=>sub (H+1) n m _ a (by omega) (by omega) b (.inr rfl) hn
   . grind
  exact⟨key,λm a b hn=>cJ (R:=Fu n) key b hn⟩
end
section
variable{T:AB9->Prop}
abbrev TT{a:Type}(o:AB8 a):Prop:=B7 o λ_=>True
theorem tD{c:Type}{p:Prop}[Decidable p]{a b:AB8 c}{R:c->Prop}(d:p->B7 a R)(e:¬p->B7 b R):B7 (if decide p=true then a else b) R:=by grind
theorem Iq{a b:Type}{o:AB8 a}{f:a->AB8 b}{R:b->Prop}(h:TT o)(k:∀x,B7 (f x) R):B7 (o.bind f) R:=tB h λx _=>k x
theorem tE{a b:Type}{o:AB8 a}{y:a}{f:a->AB8 b}{R:b->Prop}(h:o=some y)(k:B7 (f y) R):B7 (o.bind f) R:=by simp_all
theorem cL{a b:Type}{l:List a}{i:Nat}{f:a->AB8 b}{R:b->Prop}(h:i<l.length)(k:B7 (f l[i]) R):B7 ((gt l (i:Int)).bind f) R:=by rw[CZ h];exact k
theorem tL{a:Type}{Q:a->Prop}(N:Nat){F:Nat->Int->AB8 a}(e:N<1000000000000)(h:∀n (i:Nat),i<=N->(i<N->B7 (F n (A1 (i+1))) Q)->B7 (F (n+1) i) Q):B7 (F BP 0) Q:=by
 have f:=BU;have key:∀n (i:Nat),N<n+i->i<=N->B7 (F n i) Q:=by
  intro n;induction n with
  |zero=>omega
  |succ n ih=>intro i c b;refine h n i b λd=> ?_;rw[Ai (by omega)];grind
 exact key BP 0 (by omega) (by omega)
theorem tLk{p b:Type}{Q:b->Prop}(N j:Nat)(I:Nat->p->Prop){F:Nat->p->Int->AB8 b}(l:N<1000000000000)(o:j<=N){s0:p}(e:I j s0)(h:∀n (i:Nat) s,i<=N->I i s->(∀a,i<N->I (i+1) a->B7 (F n a (A1 (i+1))) Q)->B7 (F (n+1) s i) Q):B7 (F BP s0 j) Q:=by
 have m:=BU;have key:∀n (i:Nat) s,N<n+i->i<=N->I i s->B7 (F n s i) Q:=by
  intro n;induction n with
  |zero=>omega
  |succ n ih=>intro i s f c d;refine h n i s c d λa g k=> ?_;rw[Ai (by omega)];grind
 grind
theorem QO{e b:Type}{Q:b->Prop}(N:Nat)(I:Nat->e->Prop){F:Nat->e->Int->AB8 b}(d:N<1000000000000){s0:e}(c:I 0 s0)(h:∀n (i:Nat) s,i<=N->I i s->(∀a,i<N->I (i+1) a->B7 (F n a (A1 (i+1))) Q)->B7 (F (n+1) s i) Q):B7 (F BP s0 0) Q:=tLk N 0 I d (by omega) c h
theorem MF(s:AB9):TT (B3 s):=⟨_,Ot s,trivial⟩
def dE:Nat->BB->Prop
 |0,_=>False
 |n+1,e=>e.L.length<=2/\∀x∈e.L,dE n x
theorem Tp.d{n:Nat}:∀{e:BB},Tp n e->dE n e:=by
 induction n with
 |zero=>exactλh=>h.elim
 |succ n ih=>
  intro e h;rcases h with⟨_,h⟩|⟨_,h,_⟩|⟨_,_,a,h,c⟩|⟨_,a,b,h,c,f⟩<;>refine⟨by simp[h],?_⟩<;>rw[h]<;>simp
  all_goals simp_all
theorem IY.e{n:Nat}{s:AQ}(h:IY T n s):dE 2 s.Expr:=by
 cases n with
 |zero=>exact h.elim
 |succ n=>
  rcases h.2.2.1 with h|⟨_,h⟩
  . exact h.d
  . rw[h];exact⟨by simp[noE],by simp[noE]⟩
theorem IY.i{n:Nat}{s:AQ}(h:IY T n s):s.Index=[]\/∃a,s.Index=[a]/\dE 2 a:=by
 cases n with
 |zero=>exact h.elim
 |succ n=>exact h.2.1.imp id λ⟨_,_,a,h,k⟩=>⟨a,h,k.d⟩
theorem ZD(d:Eg):TT (Ck d):=by
 have a:∀b,TT (Ck.J2 d b):=by
  intro b;unfold Ck.J2 Ck.J3
  repeat' first|exact tR trivial|refine tI (λ_=> ?_) λ_=> ?_
 have j1:∀b,TT (Ck.J1 d b):=by
  intro b;unfold Ck.J1
  repeat' first|exact tR trivial|exact a _|refine Iq (MF _) λ_=> ?_|refine tI (λ_=> ?_) λ_=> ?_
 unfold Ck
 repeat' first|exact j1 _|refine Iq (MF _) λ_=> ?_|refine tI (λ_=> ?_) λ_=> ?_
theorem dB(o:Int):TT (EA o):=by
 unfold EA EA.J1 EA.J2 EA.J3
 repeat' first|exact tR trivial|refine tI (λ_=> ?_) λ_=> ?_
theorem XM(d:Nat):∀(n:Nat)(e:BB),d<=n->dE d e->TT (DE n e):=by
 induction d with
 |zero=>exactλn e _ h=>h.elim
 |succ d ih=>
  intro n e hn ⟨h1,h2⟩;obtain⟨n,rfl⟩:∃k,n=k+1:=⟨n-1,by omega⟩;show TT (CW (DE n) e);have c:∀b,TT (CW.J2 (DE n) e b):=by intro b;unfold CW.J2;refine tI (λ_=>tR trivial) λ_=>tL e.L.length (by omega) λm i hi k=> ?_;unfold CW.AZ CW.L1;refine tD (λ_=>tG (by omega) λx a=>Iq (ih n x (by omega) (h2 x a)) λ_=>tI (λ_=>tR trivial) λ_=>k (by omega)) λ_=>tR trivial
  have j1:∀b,TT (CW.J1 (DE n) e b):=by
   intro b;unfold CW.J1;refine Iq (dB _) λ_=> ?_
   repeat' first|exact c _|refine Iq (MF _) λ_=> ?_|refine tI (λ_=> ?_) λ_=> ?_
  unfold CW;grind
theorem Mf{n:Nat}(h:n<=1000):n<=BP:=by have:=BU;omega
theorem mF{e:BB}(h:dE 2 e):TT (DE BP e):=XM 2 _ e (Mf (by omega)) h
theorem XN{k:Nat}{s:AQ}{R:List AQ->AB8 Bool}(d:IY T k s)(j:TT (R s.Body))(l:TT (R s.Else)):TT (A2 R s):=by
 have r:∀b,TT (A2.J9 R s b):=by
  intro b;unfold A2.J9 A2.QZ
  repeat' first|exact tR trivial|refine Iq j λ_=> ?_|refine Iq l λ_=> ?_|refine tI (λ_=> ?_) λ_=> ?_
 have q:∀b,TT (A2.J8 R s b):=by
  intro b;unfold A2.J8
  repeat' grind
 have c:∀b,TT (A2.J7 R s b):=by
  intro b;unfold A2.J7
  repeat' first|exact tR trivial|exact q _|refine tI (λ_=> ?_) λ_=> ?_
 have p:∀b,TT (A2.J6 R s b):=by
  intro b;unfold A2.J6;refine tI (λ_=>Iq (mF d.e) λ_=>tI (λ_=>c _) λ_=>c _) λ_=>Iq ?_ λ_=>c _;unfold Hw Hw.J1
  repeat' first|exact tR trivial|refine tI (λ_=> ?_) λ_=> ?_
 have f:∀b,TT (A2.J5 R s b):=by
  intro b;unfold A2.J5
  repeat' first|exact tR trivial|exact p _|refine tI (λ_=> ?_) λ_=> ?_
 have o:∀b,TT (A2.J4 R s b):=by
  intro b;unfold A2.J4;rcases d.i with h|⟨a,h,g⟩<;>rw[h]
  . repeat' first|exact tR trivial|exact f _|refine tI (λ_=> ?_) λ_=> ?_|grind
  . repeat' first|exact tR trivial|exact f _|refine tI (λ_=> ?_) λ_=> ?_|refine tE (y:=a) rfl ?_|refine Iq (mF g) λ_=> ?_
 have n:∀b,TT (A2.J3 R s b):=by
  intro b;unfold A2.J3
  repeat' first|exact tR trivial|exact o _|refine tI (λ_=> ?_) λ_=> ?_|refine Iq (MF _) λ_=> ?_
 have m:∀b,TT (A2.J2 R s b):=by
  intro b;unfold A2.J2
  repeat' first|exact n _|refine tI (λ_=> ?_) λ_=> ?_|refine Iq (MF _) λ_=> ?_
 have j1:∀b,TT (A2.J1 R s b):=by
  intro b;unfold A2.J1
  repeat' first|exact tR trivial|exact m _|refine tI (λ_=> ?_) λ_=> ?_
 unfold A2;grind
def Tq(T:AB9->Prop)(k:Nat)(l:List AQ):Prop:=l.length<=10/\∀x∈l,IY T k x
theorem IY.body{k:Nat}{s:AQ}(h:IY T (k+1) s):Tq T k s.Body:=⟨by have:=h.2.2.2.2.1;omega,h.2.2.2.2.2.2.1⟩
theorem IY.els{k:Nat}{s:AQ}(h:IY T (k+1) s):Tq T k s.Else:=⟨by have:=h.2.2.2.2.2.1;omega,h.2.2.2.2.2.2.2.1⟩
theorem Vs(d:Nat):∀(n:Nat)(l:List AQ),2*d+1<=n->Tq T d l->TT (HA n l):=by
 induction d with
 |zero=>intro n l hn ⟨_,h⟩;obtain⟨n,rfl⟩:∃k,n=k+1:=⟨n-1,by omega⟩;have:l=[]:=ABP.2 λx a=>(h x a).elim;subst this;show TT (Cq (KP n) []);exact tR trivial
 |succ d ih=>intro n l hn ⟨h1,h2⟩;obtain⟨n,rfl⟩:∃k,n=k+2:=⟨n-2,by omega⟩;show TT (Cq (KP (n+1)) l);unfold Cq;refine tL l.length (by omega) λm i hi k=> ?_;unfold Cq.AZ Cq.L1 Cq.J1;refine tD (λ_=>tG (by omega) λx a=> ?_) λ_=>tR trivial;refine Iq (XN (R:=HA n) (h2 x a) (ih n _ (by omega) (h2 x a).body) (ih n _ (by omega) (h2 x a).els)) λ_=>tI (λ_=>tR trivial) λ_=>k (by omega)
def PN:List AB9:=[⟨#[109,97,105,110]⟩,⟨#[116,49]⟩,⟨#[116,50]⟩,⟨#[116,51]⟩]
def Zs:List AB9:=[⟨#[97]⟩,⟨#[98]⟩]
structure MP (p:AR):Prop where
 d:Ew=some p.Decls
 t:p.AA.length<=4
 l:∀t∈p.AA,t.GZ.length<=2
 b:∀t∈p.AA,Tq (λs=>s∈p.AA.map (·.Name)) 4 t.Body
 nm:∃n,1<=n/\n<=4/\p.AA.map (·.Name)=PN.take n
 lo:∀t∈p.AA,t.GZ=Zs
theorem MP.dl{p:AR}(h:MP p):p.Decls.length=9:=by have h:=h.d;unfold Ew at h;rw[<- AAl h];rfl
theorem XO{p:AR}(h:MP p):TT (CV p):=by
 have hd:=h.dl;have e:=h.t;have c:∀{F:Int->AB8 Bool}{i:Int}(b:Bool),TT (F (A1 (i+1)))->TT (CV.J3 F i b):=by intro F i b k;unfold CV.J3 CV.J4;exact tI (λ_=>tR trivial) λ_=>k
 unfold CV;refine tL 9 (by omega) λm i hi k=> ?_;unfold CV.AZ CV.L1 CV.J1;refine tD (λ_=>tG (by omega) λx a=>Iq (ZD x) λ_=>tI (λ_=>tR trivial) λ_=>k (by omega)) λ_=>tL p.AA.length (by omega) λm i hi k=> ?_;unfold CV.Cr CV.L2 CV.J5;refine tD (λ_=>tG (by omega) λx a=>tL x.GZ.length (by have:=h.l x a;omega) λm i hi d=> ?_) λ_=>tR trivial;unfold CV.Gq CV.L3 CV.J2;refine tD (λ_=>tG (by omega) λx a=>Iq (MF _) λ_=>tI (λ_=>tR trivial) λ_=>d (by omega)) λ_=>Iq (MF _) λ_=>tI (λ_=>c _ (k (by omega))) λ_=>Iq (Vs 4 _ _ (Mf (by omega)) (h.b x a)) λ_=>c _ (k (by omega))
end
section
variable{T:AB9->Prop}
theorem Rk(l:List Eg)(s:AB9)(a:l.length<1000000):B7 (Cw l s) λr=> -1<=r/\r<l.length:=by unfold Cw;refine tL l.length (by omega) λn i hi k=> ?_;unfold Cw.AZ Cw.L1 Cw.J1;exact tD (λ_=>tG (by omega) λx _=>tI (λ_=>tR (by omega)) λ_=>k (by omega)) λ_=>tR (by omega)
theorem Le(l:List Co)(s:AB9)(a:l.length<1000000):B7 (Cu l s) λr=> -1<=r/\r<l.length:=by unfold Cu;refine tL l.length (by omega) λn i hi k=> ?_;unfold Cu.AZ Cu.L1 Cu.J1;exact tD (λ_=>tG (by omega) λx _=>tI (λ_=>tR (by omega)) λ_=>k (by omega)) λ_=>tR (by omega)
theorem aU{p:AR}(h:MP p):TT (Hy p.Decls):=by have hd:=h.dl;have key:B7 (Ew.bind Hy) λ_=>True:=⟨(0,0),by decide +kernel,trivial⟩;rw[h.d]at key;exact key
theorem Vn{p:AR}(h:MP p):TT (CA p):=by
 have hd:=h.dl;have g:=h.t;have j1:∀{F:Int->AB8 (Int×Int)} {i:Int} {x:Co} (b:Bool),TT (F (A1 (i+1)))->TT (CA.J1 F i x b):=by intro F i x b k;unfold CA.J1;exact tI (λ_=>tR trivial) λ_=>k
 have a:∀{F:Int->AB8 (Int×Int)} {i:Int} {x:Co} (b:Bool),TT (F (A1 (i+1)))->TT (CA.J3 F i x b):=by intro F i x b k;unfold CA.J3;exact tI (λ_=>tR trivial) λ_=>k
 unfold CA;refine tL p.AA.length (by omega) λn i hi k=> ?_;unfold CA.AZ CA.L1 CA.J2;refine tD (λ_=>tG (by omega) λx d=>tB (Rk _ _ (by omega)) λ_ _=>tI (λ_=>j1 _ (k (by omega))) λ_=>tC (by omega) (tB (Le _ _ (by simp;omega)) λ_ _=>j1 _ (k (by omega)))) λ_=> ?_;refine tL p.AA.length (by omega) λn i hi k=> ?_;unfold CA.Cr CA.L2;refine tD (λ_=>tG (by omega) λx d=>tI (λ_=>tR trivial) λ_=>tL x.GZ.length (by grind) λm j e c=> ?_) λ_=>tR trivial;have f:=h.l x d;unfold CA.Gq CA.L3 CA.J4;refine tD (λ_=>tG (by omega) λy o=>tB (Rk _ _ (by omega)) λ_ _=>tI (λ_=>a _ (c (by omega))) λ_=>tB (Le _ _ (by omega)) λ_ _=>tI (λ_=>a _ (c (by omega))) λ_=>tC (by omega) (tB (N6 _ _ (by simp;omega)) λ_ _=>a _ (c (by omega)))) λ_=>k (by omega)
theorem sN(d:Nat):∀(n:Nat)(l:List AQ),d+1<=n->Tq T d l->TT (Gt n l):=by
 induction d with
 |zero=>intro n l hn ⟨_,h⟩;obtain⟨n,rfl⟩:∃k,n=k+1:=⟨n-1,by omega⟩;have:l=[]:=ABP.2 λx a=>(h x a).elim;subst this;show TT (Cz (Gt n) []);exact tR trivial
 |succ d ih=>intro n l hn ⟨h1,h2⟩;obtain⟨n,rfl⟩:∃k,n=k+1:=⟨n-1,by omega⟩;show TT (Cz (Gt n) l);unfold Cz;refine QO l.length (λ_ _=>True) (F:=λn s i=>Cz.AZ _ l n s i) (by omega) trivial λm i s hi _ k=> ?_;unfold Cz.AZ Cz.L1 Cz.J1;exact tD (λ_=>tG (by omega) λx a=>Iq (ih n _ (by omega) (h2 x a).body) λ_=>Iq (ih n _ (by omega) (h2 x a).els) λ_=>k _ (by omega) trivial) λ_=>tR trivial
theorem oV{wv:BJ}(h:wv.Ga.length<=100)(a b:Int)(s:AB9):B7 (BW wv a b s) λr=>r.2=wv:=by
 have j1:∀{F:Int->AB8 (Bool×BJ)} {i:Int} (b:Bool),B7 (F (A1 (i+1))) (λr=>r.2=wv)->B7 (BW.J1 F i wv b) λr=>r.2=wv:=by intro F i b k;unfold BW.J1;exact tI (λ_=>tR rfl) λ_=>k
 unfold BW;refine tL wv.Ga.length (by omega) λn i hi k=> ?_;unfold BW.AZ BW.L1 BW.J2;refine tD (λ_=>tG (by omega) λx c=> ?_) λ_=>tR rfl;grind
theorem mB{p:AR}(h:MP p)(t:Int)(s:AB9):TT (En p t s):=by
 have hd:=h.dl;have d:=h.t;have j1:∀b,TT (En.J1 p s b):=by
  intro b;unfold En.J1;refine tI (λ_=>tR trivial) λ_=>tB (Rk _ _ (by omega)) λv e=>tD (λ_=>tB (Le _ _ (by omega)) λ_ _=>tI (λ_=>tR trivial) λ_=>tR trivial) λ_=>tG (by omega) λx _=> ?_;have c:∀b,TT (En.J2 p v b):=by intro b;unfold En.J2;exact tI (λ_=>tG (by omega) λ_ _=>tR trivial) λ_=>tR trivial
  repeat' first|exact tR trivial|exact c _|refine tI (λ_=> ?_) λ_=> ?_
 unfold En;exact tD (λ_=>tD (λ_=>tG (by omega) λx a=>tB (N6 _ _ (by have:=h.l x a;omega)) λ_ _=>j1 _) λ_=>j1 _) λ_=>j1 _
theorem LQ{p:AR}(h:MP p)(t:Int)(s:AB9)(a b:Int):TT (DT p t s a b):=by
 unfold DT DT.J1;refine Iq (mB h t s) λ_=> ?_
 repeat' first|exact tR trivial|refine tI (λ_=> ?_) λ_=> ?_
theorem sS(d:Nat):∀(n:Nat)(e:BB),d<=n->dE d e->TT (KQ n e):=by
 induction d with
 |zero=>exactλn e _ h=>h.elim
 |succ d ih=>intro n e hn ⟨h1,h2⟩;obtain⟨n,rfl⟩:∃k,n=k+1:=⟨n-1,by omega⟩;show TT (Fg (KQ n) e);unfold Fg;refine QO e.L.length (λ_ _=>True) (F:=λn (s:Int×Int) i=>Fg.AZ _ e n s.1 s.2 i) (by omega) (s0:=(1,0)) trivial λm i s hi _ k=> ?_;unfold Fg.AZ Fg.L1 Fg.J1;exact tD (λ_=>tG (by omega) λx a=>Iq (ih n x (by omega) (h2 x a)) λv=>k (_,_) (by omega) trivial) λ_=>tR trivial
theorem wT{p:AR}(h:MP p)(t:Int)(d:Nat):∀(n:Nat)(e:BB),d<=n->dE d e->TT (I2 n p t e):=by
 induction d with
 |zero=>exactλn e _ h=>h.elim
 |succ d ih=>
  intro n e hn ⟨h1,h2⟩;obtain⟨n,rfl⟩:∃k,n=k+1:=⟨n-1,by omega⟩;show TT (EB (I2 n) p t e);have j1:∀r,TT (EB.J1 (I2 n) e p t r):=by intro r;unfold EB.J1;refine QO e.L.length (λ_ _=>True) (F:=λm s i=>EB.AZ _ e p t m s i) (by omega) trivial λm i s hi _ k=> ?_;unfold EB.AZ EB.L1 EB.J2 EB.J3;exact tD (λ_=>tI (λ_=>tG (by omega) λx a=>Iq (ih n x (by omega) (h2 x a)) λv=>k _ (by omega) trivial) λ_=>tR trivial) λ_=>tI (λh=>by cases h) λ_=>tR trivial
  unfold EB;exact tI (λ_=>Iq (LQ h _ _ _ _) λ_=>j1 _) λ_=>tI (λ_=>Iq (LQ h _ _ _ _) λ_=>j1 _) λ_=>j1 _
theorem fW{p:AR}(h:MP p)(t:Int){e:BB}(a:dE 2 e):TT (FM p t e):=by
 have j1:∀b,TT (FM.J1 e p t b):=by intro b;unfold FM.J1;exact tI (λ_=>tR trivial) λ_=>Iq (wT h t 2 _ e (Mf (by omega)) a) λ_=>tR trivial
 unfold FM;exact Iq (mF a) λ_=>tI (λ_=>tR trivial) λ_=>Iq (sS 2 _ e (Mf (by omega)) a) λ_=>tI (λ_=>j1 _) λ_=>j1 _
theorem OT(a b:Int):TT (FN a b):=by unfold FN;exact tI (λ_=>tR trivial) λ_=>tR trivial
theorem Ih(b:Bool):TT (B1 b):=by unfold B1;exact tI (λ_=>tR trivial) λ_=>tR trivial
structure WK (p:AR) (A K:Nat) (wv:BJ):Prop where
 p:wv.p=p
 a:wv.Ga.length=A
 s:wv.MR.length<=K
 t:wv.ZC.length<=K
theorem WK.mono{p:AR}{A K L:Nat}{wv:BJ}(h:WK p A K wv)(b:K<=L):WK p A L wv:=⟨h.p,h.a,by have:=h.s;omega,by have:=h.t;omega⟩
theorem one_tot{p:AR}(h:MP p){A K:Nat}{wv:BJ}(f:WK p A K wv)(H:A<=100)(J:K<=900000){k:Nat}{s:AQ}(o:IY T (k+1) s):B7 (BH wv s) λr=>WK p A (K+1) r.2:=by
 have hd:=h.dl;have n:=h.t;have m:=f.a;have F:=f.s;have G:=f.t;obtain rfl:=f.p;have W:WK wv.p A (K+1) wv:=f.mono (by omega);have I:=λa b s=>oV (wv:=wv) (by omega) a b s;have E:=fW h wv.Be o.e;have j:∀(b:Bool) e,B7 (BH.sM s (b,wv) wv e) λr=>WK wv.p A (K+1) r.2:=by intro b e;unfold BH.sM;exact tC (Bh (by grind)) (Iq E λ_=>Iq (OT _ _) λ_=>tR ⟨rfl,m,W.s,by simp;omega⟩)
 have g:∀(b c:Bool) e,B7 (BH.Z9 e s (b,wv) wv c) λr=>WK wv.p A (K+1) r.2:=by intro b c e;unfold BH.Z9;exact tI (λ_=>j _ _) λ_=>j _ _
 have q:∀(b:Bool) e,B7 (BH.QZ s (b,wv) wv e) λr=>WK wv.p A (K+1) r.2:=by intro b e;unfold BH.QZ;exact tI (λ_=>tB (N6 _ _ (by grind)) λ_ _=>g _ _ _) λ_=>g _ _ _
 have D:∀(b c:Bool),B7 (BH.J8 s (b,wv) c) λr=>WK wv.p A (K+1) r.2:=by intro b c;unfold BH.J8;exact tI (λ_=>tR W) λ_=>tB (N6 _ _ (by grind)) λ_ _=>tI (λ_=>tR W) λ_=>tC (Bh (by grind)) (tR ⟨rfl,m,by simp;omega,W.t⟩)
 have z:s.Op∈[(9:Int),10,11]->B7 (Cw wv.p.Decls s.Name) λr=>0<=r/\r<9:=by
  intro B;rw[o.2.2.2.1 B];have key:Ew.bind (λl=>Cw l cN)=some 7:=by decide +kernel
  rw[h.d]at key;exact⟨7,key,by omega⟩
 have C:∀(b c d t:Bool),(t=true->s.Op∈[(9:Int),10,11])->B7 (BH.J6 s (b,wv) (c,wv) (d,wv) wv t) λr=>WK wv.p A (K+1) r.2:=by
  intro b c d t v;unfold BH.J6 BH.J7 BH.J9;refine tI (λn=>Iq (LQ h _ _ _ _) λ_=>tI (λ_=>tR W) λ_=>tB (z (v n)) λ_ _=>tG (by omega) λx _=>tB (I _ _ _) ?_) λ_=> ?_
  . rintro⟨e,_⟩ rfl
    repeat' first|exact tR W|refine Iq (Ih _) λ_=> ?_|refine tI (λ_=> ?_) λ_=> ?_
  . repeat' first|exact tR W|refine Iq (LQ h _ _ _ _) λ_=> ?_|refine Iq (Ih _) λ_=> ?_|refine Iq (OT _ _) λ_=> ?_|exact D _ _|exact q _ _|refine tB (Le _ _ (by omega)) λ_ _=> ?_|refine tI (λ_=> ?_) λ_=> ?_
 have u:∀(b c d t:Bool),B7 (BH.J3 s (b,wv) (c,wv) (d,wv) wv t) λr=>WK wv.p A (K+1) r.2:=by
  intro b c d t;unfold BH.J3 BH.J4 BH.J5;refine tI (λn=>Iq (LQ h _ _ _ _) λ_=>tI (λ_=>Iq (Ih _) λ_=>Iq (OT _ _) λ_=>tR W) λ_=>tB (I _ _ _) ?_) λ_=> ?_
  . rintro⟨e,_⟩ rfl;exact Iq (Ih _) λ_=>Iq (OT _ _) λ_=>tR W
  . repeat' first|exact tR W|refine Iq (Ih _) λ_=> ?_|exact C _ _ _ _ (λh=>by simp_all)|refine tI (λ_=> ?_) λ_=> ?_
 have j1:∀(b c d t:Bool),B7 (BH.J1 s (b,wv) (c,wv) (d,wv) wv t) λr=>WK wv.p A (K+1) r.2:=by intro b c d t;unfold BH.J1 BH.J2;refine tI (λn=>Iq E λ_=>tR W) λ_=>tI (λ_=>Iq (LQ h _ _ _ _) λ_=>tI (λ_=>Iq (Ih _) λ_=>Iq (OT _ _) λ_=>tR W) λ_=>tB (I _ _ _) ?_) λ_=>tI (λ_=>u _ _ _ _) λ_=>u _ _ _ _;rintro⟨e,_⟩ rfl;exact Iq (Ih _) λ_=>Iq (OT _ _) λ_=>tR W
 unfold BH;refine tB (I _ _ _) ?_;rintro⟨b,w⟩ e;obtain rfl:wv=w:=e.symm;refine tB (I _ _ _) ?_;rintro⟨c,w⟩ e;obtain rfl:wv=w:=e.symm;refine tB (I _ _ _) ?_;rintro⟨d,w⟩ e;obtain rfl:wv=w:=e.symm;refine tI (λ_=> ?_) λ_=>tI (λ_=>j1 _ _ _ _) λ_=>j1 _ _ _ _;refine tI (λ_=>Iq (LQ h _ _ _ _) λ_=>Iq E λ_=>Iq (OT _ _) λ_=>tR W) λhi=>Iq (LQ h _ _ _ _) λ_=> ?_;rcases o.i with e|⟨a,e,m⟩
 . simp_all
 . rw[e];exact tE (y:=a) rfl (Iq (fW h wv.Be m) λ_=>Iq E λ_=>Iq (OT _ _) λ_=>Iq (OT _ _) λ_=>tR W)
def Hh:Nat->Nat
 |0=>0
 |d+1=>1+20*Hh d
theorem qH{p:AR}(h:MP p)(d:Nat):∀(n A K:Nat)(wv:BJ)(l:List AQ),d+1<=n->A+d<=50->K+10*Hh d<=900000->WK p A K wv->Tq T d l->B7 (Eo n wv l) λr=>WK p A (K+10*Hh d) r.2.2:=by
 induction d with
 |zero=>intro n A K wv l hn B C b ⟨_,h⟩;obtain⟨n,rfl⟩:∃k,n=k+1:=⟨n-1,by omega⟩;have:l=[]:=ABP.2 λx j=>(h x j).elim;subst this;show B7 (B4 (Eo n) wv []) _;exact tR b
 |succ d ih=>
  intro n A K wv l hn B C b ⟨h1,h2⟩;obtain⟨n,rfl⟩:∃k,n=k+1:=⟨n-1,by omega⟩;show B7 (B4 (Eo n) wv l) _;unfold B4;have H:Hh (d+1)=1+20*Hh d:=rfl;refine QO l.length (λi wv=>WK p A (K+i*Hh (d+1)) wv) (F:=λn s i=>B4.AZ _ l n s i) (by omega) (by simp_all) λm i s hi q k=> ?_;have J:i*Hh (d+1)<=10*Hh (d+1):=ABQ _ (by omega);have o:∀{w},WK p A (K+i*Hh (d+1)) w->WK p A (K+10*Hh (d+1)) w:=λh=>h.mono (by omega);unfold B4.AZ B4.L1 B4.J3;refine tD (λE=>tG (by omega) λx j=>tB (one_tot h q (by omega) (by omega) (h2 x j)) λv f=> ?_) λ_=>tR (o q);have G:(i+1)*Hh (d+1)<=10*Hh (d+1):=ABQ _ (by omega);have I:(i+1)*Hh (d+1)=i*Hh (d+1)+Hh (d+1):=ABl _ _;have u:∀(w:BJ)(e c:Int),WK p (A+1) (K+(i+1)*Hh (d+1)) w->B7 (B4.J2 (B4.AZ (Eo n) l m) i w e c) λr=>WK p A (K+10*Hh (d+1)) r.2.2:=by intro w e c b;have D:=b.a;unfold B4.J2;rw[CH (n:=(w.Ga.length:Int)-1) (by omega) (by omega)];have y:WK p A (K+(i+1)*Hh (d+1)) (BJ.mk w.p w.Be (w.Ga.take ((w.Ga.length:Int)-1).toNat) w.MR w.ZC):=⟨b.p,by simp;omega,b.s,b.t⟩;exact tC (by omega) (tI (λ_=>tR (y.mono (by omega))) λ_=>k _ (by omega) y)
  have j1:∀e,B7 (B4.J1 (B4.AZ (Eo n) l m) (Eo n) i v x e) λr=>WK p A (K+10*Hh (d+1)) r.2.2:=by intro e;have D:=f.a;unfold B4.J1;refine tI (λ_=>tR (f.mono (by omega))) λ_=>tC (Bh (by omega)) (tG (by simp;omega) λ_ _=> ?_);refine tB (ih n (A+1) (K+i*Hh (d+1)+1) _ _ (by omega) (by omega) (by omega) ⟨f.p,by simp;omega,f.s,f.t⟩ (h2 x j).body) λL g=> ?_;refine tI (λ_=> ?_) λ_=>u _ _ _ (g.mono (by omega));exact tB (ih n (A+1) _ _ _ (by omega) (by omega) (by omega) g (h2 x j).els) λM z=>u _ _ _ (z.mono (by omega))
  grind
theorem aQ{p:AR}(h:MP p):TT (A5 p):=by have hd:=h.dl;have j:=h.t;have g:Hh 4=8421:=rfl;unfold A5;refine Iq (XO h) λ_=>tI (λ_=>tR trivial) λ_=>Iq (aU h) λ_=>tI (λ_=>tR trivial) λ_=>tI (λ_=>tR trivial) λ_=>Iq (Vn h) λ_=>tI (λ_=>tR trivial) λ_=> ?_;refine QO p.AA.length (λ_ _=>True) (F:=λn s i=>A5.AZ p n s i) (by omega) trivial λm i s hi _ k=> ?_;unfold A5.AZ A5.L1 A5.J1;refine tD (λ_=>tG (by omega) λx d=>Iq (sN 4 _ _ (Mf (by omega)) (h.b x d)) λ_=>k _ (by omega) trivial) λ_=>tI (λ_=>tR trivial) λ_=> ?_;refine QO p.AA.length (λi w=>WK p 0 (i*84210) w) (F:=λn s i=>A5.Cr p n s i) (by omega) ⟨rfl,rfl,by simp,by simp⟩ λm i s hi c k=> ?_;unfold A5.Cr A5.L2 A5.J2;refine tD (λf=>tG (by omega) λx d=> ?_) λ_=>tR trivial;refine tB (qH h 4 _ 0 (i*84210) _ _ (Mf (by omega)) (by omega) (by omega) ⟨c.p,c.a,c.s,c.t⟩ (h.b x d)) λv e=>tI (λ_=>tR trivial) λ_=>k _ (by omega) (e.mono (by omega))
end
section
variable{T:AB9->Prop}
structure MK1 (N i:Nat) (m:AN) (p:AR):Prop where
 t:EW m.t
 h:m.held=[]
 d:Ew=some p.Decls
 n:p.AA.length=i
 b:∀t∈p.AA,Tq (λs=>s∈PN.take N) 4 t.Body
 nm:p.AA.map (·.Name)=PN.take i
 lo:∀t∈p.AA,t.GZ=Zs
abbrev MPO(p:AR):Prop:=MP p/\∃l,A5 p=some (0,l)
theorem fZ{l:List Int}(R:l.length<=4000000000000000000)(S:∀x∈l,0<=x/\x<256):B7 (Bu l) MPO:=by
 have hd:∃D,Ew=some D:=⟨_,rfl⟩;obtain⟨D,r⟩:=hd;have I:PN.length=4:=rfl;unfold Bu;refine tE r (tB (G8 (t:=⟨l,0⟩) ⟨R,by simp,S⟩ (by omega)) ?_);rintro⟨v,G⟩ ⟨U,u⟩;simp only at U u;have M:A1 (2+v)=2+v:=CH (by omega) (by omega);refine QO (2+v).toNat (λi (s:AN×AR)=>MK1 (2+v).toNat i s.1 s.2) (F:=λn s i=>Bu.AZ (v,G) n s.1 s.2 i) (by omega) (s0:=(_,_)) ⟨u,rfl,r,rfl,by simp,rfl,by simp⟩ λn i s hi f k=> ?_;unfold Bu.AZ Bu.L1;simp only[M]
 -- the end
 have V:¬(i:Int)<2+v->B7 (Bu.J5 s.2) MPO:=by
  intro lS;have hi:i=(2+v).toNat:=by omega
  have L:MP s.2:=⟨f.d,by have:=f.n;omega,λt C=>by rw[f.lo t C];simp[Zs],by rw[f.nm,hi];exact f.b,⟨i,by omega,by omega,f.nm⟩,f.lo⟩;unfold Bu.J5 KJ E2;obtain⟨q,B,_⟩:=aQ L;refine tE B (tI (λ_=>tE r ?_) λh=>tR ⟨L,q.2,B.trans (AB6 some (Prod.ext (by grind) rfl))⟩);simp only[AAg];have key:Ew.bind (λD=>A5 ⟨D,[⟨⟨#[109,97,105,110]⟩,0,[⟨#[97]⟩,⟨#[98]⟩],[⟨1,0,⟨#[120]⟩,⟨#[]⟩,[],⟨1,1,⟨#[]⟩,[]⟩,[],[]⟩]⟩]⟩)=some (0,0):=by decide +kernel
  rw[r,AAg]at key;refine tR ⟨⟨r,by simp,by simp,?_,⟨1,by omega,by omega,rfl⟩,by simp[Zs]⟩,0,key⟩;simp only[ABG,forall_eq];refine⟨by simp,?_⟩;simp only[ABG,forall_eq];exact Lq (.inl ⟨rfl,rfl⟩) (YR (by decide)) _
 have E:∀m t,(hi:i<(2+v).toNat)->EW m.t->m.held=[]->(t.GZ=Zs/\t.Name=PN[i]'(by omega))->Tq (λs=>s∈PN.take (2+v).toNat) 4 t.Body->B7 (Bu.J3 (λm p i=>Bu.AZ (v,G) n m p i) i s.2 m t) MPO:=by
  intro m t j o H y I;unfold Bu.J3 Bu.J4;have hn:=f.n;refine tC (Bh (by omega)) (k (m,_) j ⟨o,H,f.d,by simp;omega,?_,?_,?_⟩)
  . simp only[AAz,ABG];rintro x (e|rfl)
    . exact f.b x e
    . exact I
  . simp only[ABL,f.nm,AAy,ABF,y.2];simp_all
  . simp only[AAz,ABG];rintro x (e|rfl)
    . exact f.lo x e
    grind
 have j1:∀t,(hi:i<(2+v).toNat)->(t.GZ=Zs/\t.Name=PN[i]'(by omega))->t.Body.length<=3->(∀x∈t.Body,IY (λs=>s∈PN.take (2+v).toNat) 4 x)->B7 (Bu.J1 (λm p i=>Bu.AZ (v,G) n m p i) i s.1 s.2 t) MPO:=by
  intro t j o H y;have Q:s.1.held=[]:=f.h;unfold Bu.J1;refine tB (G8 f.t (by omega)) λa P=> ?_;rw[CH (n:=1+a.1) (by omega) (by omega)];have J:=BU;obtain⟨O,z⟩:∃n,BP=n+1:=⟨BP-1,by omega⟩;rw[z];refine tB ((made_tot (T:=λs=>s∈PN.take (2+v).toNat) 2 0 O (by omega) (by omega) (by omega)).2 (AN.mk a.2 i s.1.left s.1.Ho s.1.tx s.1.atomic s.1.loop s.1.held) (1+a.1) ⟨P.2,by simp_all⟩ (by omega)) λb J=> ?_;obtain⟨⟨Z,g2⟩,w⟩:=J;have g:b.2.held=[]:=w.h.trans Q;have g0:∀x∈t.Body++b.1,IY (λs=>s∈PN.take (2+v).toNat) 4 x:=λx e=>(AAz.1 e).elim (y x) (g2 x);refine tC (Bh (by omega)) (tI (λ_=>tB (G8 w.t (by omega)) λc K=> ?_) λ_=> ?_)<;>unfold Bu.J2
  . refine tI (λ_=>tC (Bh (by simp;omega)) (E _ _ j K.2 g o ⟨by simp;omega,?_⟩)) λ_=>E _ _ j K.2 g o ⟨by simp;omega,g0⟩;intro x e;rcases AAz.1 e with e|e
    . grind
    . rw[ABG.1 e];refine P0 (by decide) (by decide) (by decide) ⟨by simp,by simp,by simp,λ_=> ?_,by simp,by simp⟩;exact List.mem_take_iff_getElem.2 ⟨1,by omega,rfl⟩
  . exact tI (λh=>by cases h) λ_=>E _ _ j w.t g o ⟨by simp;omega,g0⟩
 refine tD (λh=>cL (l:=PN) (by omega) (tI (λ_=> ?_) λ_=>j1 _ (by omega) ⟨rfl,rfl⟩ (by simp) (by simp))) V;refine tLk (2+v).toNat 1 (λk (t:Co)=>(t.GZ=Zs/\t.Name=PN[i]'(by omega))/\t.Body.length+1<=k/\∀x∈t.Body,IY (λs=>s∈PN.take (2+v).toNat) 4 x) (F:=λn t k=>Bu.Cr _ _ _ _ _ n t k) (by omega) (by omega) ⟨⟨rfl,rfl⟩,by simp,by simp⟩ λm q t B C W=> ?_;obtain⟨N,t2,X⟩:=C;unfold Bu.Cr Bu.L2;simp only[M];refine tD (λ_=>cL (l:=PN) (by omega) (tC (Bh (by omega)) (W _ (by omega) ⟨N,by simp;omega,?_⟩))) λ_=>j1 _ (by omega) N (by omega) X;intro x e;rcases AAz.1 e with e|e
 . grind
 . rw[ABG.1 e];refine P0 (by decide) (by decide) (by simp) ⟨by simp,by simp,by simp,λ_=> ?_,by simp,by simp⟩;exact List.mem_take_iff_getElem.2 ⟨q,by omega,rfl⟩
theorem fT{l:List Int}(a:l.length<=1000):B7 (Em l) λr=>r.length<=l.length:=by unfold Em;refine QO l.length (λi (s:List C6)=>s.length<=i) (F:=λn s i=>Em.AZ l n s i) (by omega) (by simp) λn i s hi b k=> ?_;unfold Em.AZ Em.L1 Em.J1;exact tD (λ_=>tG (by omega) λx _=>tC (Bh (by omega)) (k _ (by omega) (by simp;omega))) λ_=>tR (by omega)
theorem xU(d:Nat):∀(n K:Nat)(o:List Da)(t a:Int)(l:List AQ),d+1<=n->K+10*Hh d<=900000->o.length<=K->Tq T d l->B7 (Gu n o t a l) λr=>r.1.length<=K+10*Hh d:=by
 induction d with
 |zero=>intro n K o t a l hn e c ⟨_,h⟩;obtain⟨n,rfl⟩:∃k,n=k+1:=⟨n-1,by omega⟩;have:l=[]:=ABP.2 λx b=>(h x b).elim;subst this;show B7 (C0 (Gu n) o t a []) _;exact tR c
 |succ d ih=>intro n K o t a l hn e c ⟨h1,h2⟩;obtain⟨n,rfl⟩:∃k,n=k+1:=⟨n-1,by omega⟩;show B7 (C0 (Gu n) o t a l) _;unfold C0;have p:Hh (d+1)=1+20*Hh d:=rfl;refine QO l.length (λi (s:List Da×Int)=>s.1.length<=K+i*Hh (d+1)) (F:=λm s i=>C0.AZ _ l t m s.1 s.2 i) (s0:=(o,a)) (by omega) (by simp_all) λm i s hi y k=> ?_;have u:i*Hh (d+1)<=10*Hh (d+1):=ABQ _ (by omega);unfold C0.AZ C0.L1 C0.J1;refine tD (λg=>tG (by omega) λx b=>tC (Bh (by omega)) ?_) λ_=>tR (by grind);have j:(i+1)*Hh (d+1)<=10*Hh (d+1):=ABQ _ (by omega);have q:(i+1)*Hh (d+1)=i*Hh (d+1)+Hh (d+1):=ABl _ _;refine tB (ih n (K+i*Hh (d+1)+1) _ _ _ _ (by omega) (by omega) (by simp;omega) (h2 x b).body) λv f=> ?_;refine tB (ih n _ _ _ _ _ (by omega) (by omega) f (h2 x b).els) λw c=>k (_,_) (by omega) (by grind)
structure MW (w:AD):Prop where
 q:B7 (Bj w qS) λr=>0<=r/\r<w.Cells.length
 c:w.Cells.length<=100
 l:w.AE.length<=100
 d:w.Af.length<=100
 f:w.AK.length<=100
 t:w.AA.length<=4
def LU:List DL:=[⟨⟨#[120]⟩,0,0,false,0⟩,⟨⟨#[121]⟩,0,0,false,1⟩,⟨⟨#[118]⟩,0,0,true,0⟩,⟨⟨#[113]⟩,0,2,false,0⟩,⟨⟨#[113]⟩,1,2,false,0⟩]
theorem aH{p:AR}(h:MP p)(j:∃l,A5 p=some (0,l)):B7 (Bs p) MW:=by
 obtain⟨l,j⟩:=j;have B:=h.t;have z:Hh 4=8421:=rfl;unfold Bs;refine tE j (tI (λh=>by cases h) λ_=> ?_);have key:∀D T,Ew=some D->Bs.AZ ⟨D,T⟩ BP (AD.mk [] [] [] [] [] []) 0=Bs.J4 ⟨D,T⟩ ⟨LU,[⟨⟨#[109]⟩,false⟩,⟨⟨#[110]⟩,false⟩,⟨⟨#[114]⟩,true⟩],[⟨⟨#[99]⟩,0⟩],[⟨#[102]⟩],[],[]⟩:=by
  intro D T m;unfold Ew at m;obtain rfl:=AAl m
  kernel_rfl
 rw[show Bs.AZ p BP (AD.mk [] [] [] [] [] []) 0=_ from key p.Decls p.AA h.d];unfold Bs.J4;rw[show AR.mk p.Decls p.AA=p from rfl];refine QO p.AA.length (λi w=>w.BL.length<=i*84210/\w.AA.length=i/\w.Cells=LU/\w.AE.length=3/\w.Af.length=1/\w.AK.length=1) (F:=λn s i=>Bs.Gq _ n s i) (by omega) ⟨by simp,rfl,rfl,rfl,rfl,rfl⟩ λn i w hi e k=> ?_;obtain⟨q,E,g,r,u,y⟩:=e;unfold Bs.Gq Bs.L3 Bs.J5;refine tD (λ_=>tG (by omega) λx o=>tC (Bh (by omega)) (tB (xU 4 _ (i*84210) _ _ _ _ (Mf (by omega)) (by omega) q (h.b x o)) λv C=>k _ (by omega) ⟨by grind,by simp;omega,g,r,u,y⟩)) λ_=>tR ⟨?_,by rw[g];decide,by omega,by omega,by omega,by omega⟩;rw[g];have a:∀w:AD,w.Cells=LU->Bj w qS=some 3:=by
  intro w e;obtain⟨c,l,d,f,t,s⟩:=w;simp only at e;subst e
  kernel_rfl
 exact⟨3,a w g,by omega,by decide⟩
end
end Go.Abs
