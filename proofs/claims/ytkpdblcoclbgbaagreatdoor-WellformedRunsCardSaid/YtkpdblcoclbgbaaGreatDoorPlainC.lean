/- What the typed programs give, in plain Lean. -/
import Derived.Test.YtkpdblcoclbgbaaGreatDoorPlainB
import Derived.Test.YtkpdblcoclbgbaaGreatDoorWalkF
import Derived.Test.YtkpdblcoclbgbaaGreatDoorWalkG
import Derived.Test.YtkpdblcoclbgbaaGreatDoorWalkH
import Derived.Test.YtkpdblcoclbgbaaGreatDoorWalkC
import Derived.Test.YtkpdblcoclbgbaaGreatDoorWalkD
import Derived.Test.YtkpdblcoclbgbaaGreatDoorWalkE
import Derived.Test.YtkpdblcoclbgbaaGreatDoorWalkA
import Derived.Test.YtkpdblcoclbgbaaGreatDoorWalkB
import Derived.Test.YtkpdblcoclbgbaaGreatDoorWalkJ
import Derived.Test.YtkpdblcoclbgbaaGreatDoorCoreD
import Derived.Test.YtkpdblcoclbgbaaGreatDoorBaseA
import Derived.Test.YtkpdblcoclbgbaaGreatDoorRows
import Derived.Test.YtkpdblcoclbgbaaGreatDoorTie
import Derived.ProofKit
import Derived.LaidMore
import Derived.OpenShut
import Derived.Shelf.Slices.SearchI
set_option linter.unusedSimpArgs false
set_option linter.unusedVariables false
namespace Go.Abs
set_option maxHeartbeats 4000000
def SI (N:Nat) (s:AZ):Prop:=RB N s.Sync/\∀t∈s.AA,TH N t
theorem TH.mono {E F:Nat} {t:AE} (h:TH E t) (hf:E≤F):TH F t:=⟨h.r,h.t,h.b,h.e.1,by have:=h.e.2;omega⟩
theorem Z5 {E:Nat} {s:AZ} (h:∀t∈s.AA,TH E t) (hE:E≤100000) (hf:P4 s.Sync) (hc:s.Cells.length≤1000) (hu:s.AH.length≤1000) (ht:s.AA.length≤1000):D7 s=some s:=by
 have key:B2 (D7 s) λr=>r=s:=by
  unfold D7
  refine tE (XU _ hf) (tC (Ba (by omega)) (tC (Ba (by omega)) (My s.AA.length (λi o=>o=⟨s.Sync,s.Cells,s.AH,s.AA.take i⟩) (F:=λn o i=>D7.Ac s n o i) (by omega) rfl λn i o hi ho k=> ?_)))
  subst ho
  unfold D7.Ac D7.L1 D7.J1
  refine tD (λ_=>XS (by omega) ?_) λ_=>tR (by rw[List.take_of_length_le (by omega)])
  exact tE (UU (h _ (List.getElem_mem (by omega))) hE) (tC (Ba (by simp;omega)) (k _ (by omega) (by rw[List.take_append_getElem])))
 obtain⟨r,h1,rfl⟩:=key
 exact h1
structure SR (c:BB) (s:AZ) (ch:CC) (s':AZ) (e:AN):Prop where
 p:PE c s ch.Thread e
 en:Di c.World s.Sync ch.Thread e.Kind e.Obj=true
 sy:s'.Sync=(FR c.World s.Sync ch.Thread e.Kind e.Obj ch.QG).1
 va:(e.Kind=3->gt s.Cells e.Obj=some e.Value)/\(e.Kind=23->gt s.AH e.Obj=some e.Value)/\(e.Kind=5->e.Value=0∨e.Value=1)/\(e.Kind≠3->e.Kind≠23->e.Kind≠5->e.Kind≠4->e.Kind≠22->e.Value=(FR c.World s.Sync ch.Thread e.Kind e.Obj ch.QG).2)
 ce:s'.Cells=if e.Kind=4 then s.Cells.set e.Obj.toNat e.Value else s.Cells
 fu:s'.AH=if e.Kind=22 then s.AH.set e.Obj.toNat e.Value else s.AH
 th:∃x x',s.AA[ch.Thread.toNat]? =some x/\s'.AA=s.AA.set ch.Thread.toNat x'/\(e.Kind=16->x'.PC=x.PC)/\(x'=MA∨x'.AX=x.AX+1/\∀l∈x'.Bt,∀k∈l,(∃m∈x.Bt,k∈m)∨k=x.AX/\(e.Kind=3∨e.Kind=23))
theorem YE {E:Nat} {c:BB} (hc:CK c) {s:AZ} (hs:SI E s) (hE:E≤10000) (ch:CC):B2 (CL c s ch) λr=>r.2.2=true->(SI (E+1) r.1/\Vz r.2.1)/\SR c s ch r.1 r.2.1:=by
 obtain⟨hr,hs⟩:=hs
 have N:∀{x y} {P:AZ×AN×Bool->Prop},B2 (some (x,y,false)) λr:AZ×AN×Bool=>r.2.2=true->P r:=tR λh=>by cases h
 unfold CL
 refine tB (UY hc hs (by omega) ch.Thread) λv hv=>tI (λ_=>N) λh=> ?_
 have hv:=hv (by simpa using h)
 obtain⟨hf,ht,hl,hh,hi⟩:=hv
 have hw:=Fm hf.v.w
 have w1:=hw.c;have w2:=hw.f;have w3:=hw.t;have c1:=hf.c';have c2:=hf.u;have c3:=hf.n;have c4:=hf.v.n
 refine tE (O2 _ hw _ (hr.mono (by omega)) _ _ _ _) (tI (λ_=>N) λh2=> ?_)
 have hen:Di c.World s.Sync ch.Thread v.1.Kind v.1.Obj=true:=by
  cases he:Di c.World s.Sync ch.Thread v.1.Kind v.1.Obj with
  |true=>rfl
  |false=>simp[KC,he]at h2
 have ha:DT c.World v.1.Kind v.1.Obj=true:=by
  have hen:=hen
  unfold Di at hen
  simp only[Bool.and_eq_true]at hen
  exact hen.2.2.1
 have hap:KC c.World s.Sync ch.Thread v.1.Kind v.1.Obj ch.QG=((FR c.World s.Sync ch.Thread v.1.Kind v.1.Obj ch.QG).1,(FR c.World s.Sync ch.Thread v.1.Kind v.1.Obj ch.QG).2,true):=by simp[KC,hen]
 rw[hap]
 have hR:=hr.apply c.World ch.Thread v.1.Kind v.1.Obj ch.QG
 refine tE (Z5 hs (by omega) (P4.of hw hf.f (hr.mono (by omega))) (by omega) (by omega) (by omega)) ?_
 obtain⟨x,x1,x2,x3⟩:=Fl (l:=s.AA) (i:=ch.Thread) (by omega)
 obtain⟨y,y1,y2,y3⟩:=Fl (l:=c.AA) (i:=ch.Thread) (by omega)
 obtain⟨p1,p2,p3⟩:=hf.t _ x y x2 y2
 obtain⟨z,z1,z2,z3⟩:=Fl (l:=y.B3) (i:=x.PC) (by omega)
 obtain⟨q,q1,q2,q3⟩:=Fl (l:=s.Sync.AA) (i:=ch.Thread) (by have:=(Gq hf.f).2.2;omega)
 have iA:=(hi x y z q x2 y2 z2 q2).a;have iB:=(hi x y z q x2 y2 z2 q2).b
 have hx:=hs x x3
 refine tE x1 (tE y1 (tE z1 ?_))
 have hpe:∀val,PE c s ch.Thread ⟨v.1.Thread,v.1.Kind,v.1.Obj,val,v.1.Site,v.1.Dy,v.1.Db⟩:=λval=>⟨hf,ht,hl,hh,λx y z q a b c d=>by
  have h:=hi x y z q a b c d
  exact⟨h.a,h.b,h.d,h.r,h.s⟩⟩
 generalize hapv:FR c.World s.Sync ch.Thread v.1.Kind v.1.Obj ch.QG=ap at hR ⊢
 let VAC:Int->List Int->List Int->Prop:=λval C F=>((v.1.Kind=3->gt s.Cells v.1.Obj=some val)/\(v.1.Kind=23->gt s.AH v.1.Obj=some val)/\(v.1.Kind=5->val=0∨val=1)/\(v.1.Kind≠3->v.1.Kind≠23->v.1.Kind≠5->v.1.Kind≠4->v.1.Kind≠22->val=ap.2))/\C=(if v.1.Kind=4 then s.Cells.set v.1.Obj.toNat val else s.Cells)/\F=(if v.1.Kind=22 then s.AH.set v.1.Obj.toNat val else s.AH)
 let TX:AE->Prop:=λt=>t=MA∨t.AX=x.AX+1/\∀l∈t.Bt,∀k∈l,(∃m∈x.Bt,k∈m)∨k=x.AX/\(v.1.Kind=3∨v.1.Kind=23)
 have j6:∀val C F t,VAC val C F->TX t->(v.1.Kind=16->t.PC=x.PC)->TH (E+1) t->B2 (CL.J6 ch ⟨v.1.Thread,v.1.Kind,v.1.Obj,val,v.1.Site,v.1.Dy,v.1.Db⟩ C F (ap.1,ap.2,true) s t) λr=>r.2.2=true->(SI (E+1) r.1/\Vz r.2.1)/\SR c s ch r.1 r.2.1:=by
  intro val C F t h1 h2 h3 h4;unfold CL.J6
  refine tE x1 (tR λ_=>⟨⟨⟨hR,?_⟩,hl⟩,hpe val,hen,by rw[hapv],?_,h1.2.1,h1.2.2,x,t,x2,rfl,h3,h2⟩)
  . intro q hq
    rcases List.mem_or_eq_of_mem_set hq with hq|rfl
    . exact(hs q hq).mono (by omega)
    . exact h4
  . rw[hapv];exact h1.1
 have e1:BE (x.AX+1)=x.AX+1:=by have:=hx.e;exact Ct (by omega) (by omega)
 have j5:∀val n C F t b,VAC val C F->(v.1.Kind=16->n=x.PC/\b=false)->t.AX=x.AX->(∀l∈t.Bt,∀k∈l,(∃m∈x.Bt,k∈m)∨k=x.AX/\(v.1.Kind=3∨v.1.Kind=23))->TH (E+1) ⟨0,t.CN,t.Bt,BE (t.AX+1)⟩->
  B2 (CL.J5 c ch ⟨v.1.Thread,v.1.Kind,v.1.Obj,val,v.1.Site,v.1.Dy,v.1.Db⟩ n C F t (ap.1,ap.2,true) s b) λr=>r.2.2=true->(SI (E+1) r.1/\Vz r.2.1)/\SR c s ch r.1 r.2.1:=by
  intro val n C F t b h1 hn he hP h2;unfold CL.J5
  have h3:∀n,TH (E+1) ⟨n,t.CN,t.Bt,BE (t.AX+1)⟩:=λn=>⟨h2.r,h2.t,h2.b,h2.e⟩
  refine tI (λhb=>tE y1 (tB (V6 (h3 n) hP (by omega) (hc.i y y3)) λu hu=>j6 _ _ _ _ h1 ?_ (λh=>by rw[(hn h).2]at hb;cases hb) hu.1)) λ_=>j6 _ _ _ _ h1 (.inr ⟨by rw[he,e1],hP⟩) (λh=>(hn h).1) (h3 n)
  exact hu.2.imp id λh=>⟨by rw[h.1,he,e1],h.2⟩
 have j3:∀val n C F b,VAC val C F->(v.1.Kind=16->n=x.PC)->(b=true->(v.1.Kind=3∨v.1.Kind=23))->B2 (CL.J3 c ch ⟨v.1.Thread,v.1.Kind,v.1.Obj,val,v.1.Site,v.1.Dy,v.1.Db⟩ n C F (ap.1,ap.2,true) s x z b) λr=>r.2.2=true->(SI (E+1) r.1/\Vz r.2.1)/\SR c s ch r.1 r.2.1:=by
  intro val n C F b h1 hn h2;unfold CL.J3 CL.J4
  have he:=hx.e
  have k16:∀{t},(∀l∈t.Bt,∀k∈l,(∃m∈x.Bt,k∈m)∨k=x.AX/\(v.1.Kind=3∨v.1.Kind=23))->t.AX=x.AX->TH (E+1) ⟨0,t.CN,t.Bt,BE (t.AX+1)⟩->B2 (if(v.1.Kind != 16)=true then CL.J5 c ch ⟨v.1.Thread,v.1.Kind,v.1.Obj,val,v.1.Site,v.1.Dy,v.1.Db⟩ n C F t (ap.1,ap.2,true) s (v.1.Kind != 2)else CL.J5 c ch ⟨v.1.Thread,v.1.Kind,v.1.Obj,val,v.1.Site,v.1.Dy,v.1.Db⟩ n C F t (ap.1,ap.2,true) s false) λr=>r.2.2=true->(SI (E+1) r.1/\Vz r.2.1)/\SR c s ch r.1 r.2.1:=λhP he hT=>
   tI (λh=>j5 _ _ _ _ _ _ h1 (λh'=>by rw[h']at h;cases h) he hP hT) λ_=>j5 _ _ _ _ _ _ h1 (λh=>⟨hn h,rfl⟩) he hP hT
  refine tI (λhb=> ?_) λ_=> ?_
  . have h2:=h2 hb
    have hA:=iA (by omega)
    refine tG (by omega) λ_ _=>tG (by omega) λ_ _=>k16 ?_ rfl ?_
    . intro l hl k hk
      rcases List.mem_or_eq_of_mem_set hl with hl|rfl
      . exact .inl ⟨l,hl,hk⟩
      . exact .inr ⟨List.mem_singleton.1 hk,h2⟩
    . simp only[e1]
      refine⟨by simpa using hx.r,by simpa using hx.t,?_,by simp only;omega⟩
      intro q hq
      rcases List.mem_or_eq_of_mem_set hq with hq|rfl
      . exact(hx.b q hq).mono (by simp only;omega)
      . exact⟨by simp,by simp;omega⟩
  . refine k16 (λl hl k hk=>.inl ⟨l,hl,hk⟩) rfl ?_
    simp only[e1]
    exact⟨hx.r,hx.t,λq hq=>(hx.b q hq).mono (by simp only;omega),by simp only;omega⟩
 have j2:∀C F val n,VAC val C F->(v.1.Kind=16->n=x.PC)->B2 (CL.J2 c ch (ap.1,ap.2,true) s x z C F ⟨v.1.Thread,v.1.Kind,v.1.Obj,val,v.1.Site,v.1.Dy,v.1.Db⟩ n) λr=>r.2.2=true->(SI (E+1) r.1/\Vz r.2.1)/\SR c s ch r.1 r.2.1:=by
  intro C F val n h1 hn;unfold CL.J2
  exact tI (λh=>j3 _ _ _ _ _ h1 hn λ_=>.inl (eq_of_beq h)) λ_=>j3 _ _ _ _ _ h1 hn λh=>.inr (eq_of_beq h)
 have j1:∀b,(b=true->v.1.Kind=1∨v.1.Kind=16∨v.1.Kind=2)->(b=false->v.1.Kind≠16)->B2 (CL.J1 c ch v (ap.1,ap.2,true) s x z b) λr=>r.2.2=true->(SI (E+1) r.1/\Vz r.2.1)/\SR c s ch r.1 r.2.1:=by
  intro b hb hb2;unfold CL.J1
  refine tI (λh=>j2 _ _ _ _ ⟨⟨by have:=hb h;omega,by have:=hb h;omega,by have:=hb h;omega,λ_ _ _ _ _=>rfl⟩,by rw[if_neg (by have:=hb h;omega)],by rw[if_neg (by have:=hb h;omega)]⟩ λ_=>rfl) λh0=>tI (λh=> ?_) λn3=>tI (λh=> ?_) λn23=>tI (λh=> ?_) λn4=>tI (λh=> ?_) λn22=>tI (λh=> ?_) λn5=> ?_
  . have h:=eq_of_beq h
    have:=EX.1 (show Fe v.1.Obj c.World.Cells.length=true by simpa[DT,h]using ha)
    obtain⟨d,d1,_⟩:=Fl (l:=s.Cells) (i:=v.1.Obj) (by omega)
    exact tE d1 (j2 _ _ _ _ ⟨⟨λ_=>d1,by omega,by omega,by omega⟩,by rw[if_neg (by omega)],by rw[if_neg (by omega)]⟩ (by omega))
  . have h:=eq_of_beq h
    have:=EX.1 (show Fe v.1.Obj c.World.AH.length=true by simpa[DT,h]using ha)
    obtain⟨d,d1,_⟩:=Fl (l:=s.AH) (i:=v.1.Obj) (by omega)
    exact tE d1 (j2 _ _ _ _ ⟨⟨by omega,λ_=>d1,by omega,by omega⟩,by rw[if_neg (by omega)],by rw[if_neg (by omega)]⟩ (by omega))
  . have h:=eq_of_beq h
    have:=EX.1 (show Fe v.1.Obj c.World.Cells.length=true by simpa[DT,h]using ha)
    have hb:=iB (.inl h)
    exact tG (by omega) λ_ _=>tG (by omega) λ_ _=>j2 _ _ _ _ ⟨⟨by omega,by omega,by omega,by omega⟩,by rw[if_pos h],by rw[if_neg (by omega)]⟩ (by omega)
  . have h:=eq_of_beq h
    have:=EX.1 (show Fe v.1.Obj c.World.AH.length=true by simpa[DT,h]using ha)
    have hb:=iB (.inr h)
    exact tG (by omega) λ_ _=>tG (by omega) λ_ _=>j2 _ _ _ _ ⟨⟨by omega,by omega,by omega,by omega⟩,by rw[if_neg (by omega)],by rw[if_pos h]⟩ (by omega)
  . have h:=eq_of_beq h
    have hb:=iA (.inr (.inr h))
    exact tG (by omega) λ_ _=>tI (λ_=>j2 _ _ _ _ ⟨⟨by omega,by omega,λ_=>.inl rfl,by omega⟩,by rw[if_neg (by omega)],by rw[if_neg (by omega)]⟩ (by omega)) λ_=>j2 _ _ _ _ ⟨⟨by omega,by omega,λ_=>.inr rfl,by omega⟩,by rw[if_neg (by omega)],by rw[if_neg (by omega)]⟩ (by omega)
  . simp only[beq_eq_false_iff_ne,ne_eq]at n3 n23 n4 n22 n5
    exact j2 _ _ _ _ ⟨⟨λh=>absurd h n3,λh=>absurd h n23,λh=>absurd h n5,λ_ _ _ _ _=>rfl⟩,by rw[if_neg n4],by rw[if_neg n22]⟩ λh=>absurd h (hb2 h0)
 exact tI (λh=>j1 _ (λ_=>.inl (eq_of_beq h)) λh'=>by rw[h']at h;cases h) λ_=>tI (λh=>j1 _ (λ_=>.inr (.inl (eq_of_beq h))) λh'=>by rw[h']at h;cases h) λn16=>j1 _ (λh=>.inr (.inr (eq_of_beq h))) λ_=>by simpa using n16
structure TM (n:Nat) (t:EJ):Prop where
 n:t.AX.length≤n
 e:∀e∈t.AX,Vz e
 w:t.AX≠[]->DZ t.World=true
theorem Vz.ok {e:AN} (h:Vz e):UP e:=⟨by have:=h.1;omega,by have:=h.2;omega⟩
theorem getT {s:AO} {i:Int} {f:AD->AD} {u:Nat} {q:AD} (hi:0≤i/\i<s.AA.length) (h:(SV s i f).AA[u]? =some q):(u:Int)=i/\q=f (ix s.AA i)∨(u:Int)≠i/\s.AA[u]? =some q:=by
 unfold SV at h
 by_cases e:(u:Int)=i
 . have e':i.toNat=u:=by omega
   rw[e',List.getElem?_set_self (by omega)]at h
   exact .inl ⟨e,(Option.some.inj h).symm⟩
 . rw[List.getElem?_set_ne (by omega)]at h
   exact .inr ⟨e,h⟩
theorem s7 {α:Type} [Inhabited α] {l:List α} {u:Nat} {i:Int} {x:α} (h:l[u]? =some x) (hi:(u:Int)=i):ix l i=x:=by
 subst hi;unfold ix;simp[h]
theorem uM {wv:AB} {s:AO} {t k o:Int} (h:Di wv s t k o=true) (h1:k≠1) (h2:k≠17):(ix s.AA t).Status=2:=by
 unfold Di Q3 at h
 simp only[Bool.and_eq_true,if_neg h1,if_neg h2]at h
 exact eq_of_beq h.2.2.2.1
theorem Tl {wake:Int} {W:List Int} (h:W≠[]):Eu wake W∈W:=by
 unfold Eu
 rw[if_neg h]
 split
 . rename_i h;simpa using h
 . cases W with
   |nil=>exact absurd rfl h
   |cons a r=>simp
theorem sW (o:Int) (T:List AD):∀(i:Nat) (u:Int),u∈CP o i T->∃x,T[(u-i).toNat]? =some x/\x.Status=3:=by
 induction T with
 |nil=>intro i u h;cases h
 |cons x r ih=>
  intro i u h
  unfold CP at h
  have key:u∈CP o (i+1) r->∃y,(x::r)[(u-i).toNat]? =some y/\y.Status=3:=by
   intro h
   have hr:=(Iw o r (i+1) u h).1
   obtain⟨y,y1,y2⟩:=ih (i+1) u h
   refine⟨y,?_,y2⟩
   rw[show(u-(i:Int)).toNat=(u-((i+1:Nat):Int)).toNat+1 from by omega,List.getElem?_cons_succ]
   exact y1
  split at h
  . rename_i hw
    rcases List.mem_cons.1 h with rfl|h
    . refine⟨x,by simp,?_⟩
      unfold Hx at hw
      simp only[Bool.and_eq_true]at hw
      exact eq_of_beq hw.1
    . exact key h
  . exact key h
theorem sT {wv:AB} {s:AO} {t k o wake:Int} (h:Di wv s t k o=true) {u:Nat} {q':AD} (hq:(FR wv s t k o wake).1.AA[u]? =some q'):
 ((u:Int)=t->k=16∨q'.Status=2∨q'.Status=5)/\((u:Int)≠t->q'.Status=1∨∃q,s.AA[u]? =some q/\(q'=q∨q.Status=3/\q'.Status=4)):=by
 have h2:=λa b=>uM h (k:=k) a b
 have h':=h
 unfold Di at h'
 simp only[Bool.and_eq_true]at h'
 obtain⟨hf,ht,ha,hrd⟩:=h'
 obtain⟨_,_,l3⟩:=Gq hf
 have ht:=EX.1 ht
 rw[← l3]at ht
 -- a thread's own place
 have own:∀(s2:AO) (f:AD->AD),s2.AA=s.AA->(SV s2 t f).AA[u]? =some q'->(k=16∨(f (ix s.AA t)).Status=2∨(f (ix s.AA t)).Status=5)->
  ((u:Int)=t->k=16∨q'.Status=2∨q'.Status=5)/\((u:Int)≠t->q'.Status=1∨∃q,s.AA[u]? =some q/\(q'=q∨q.Status=3/\q'.Status=4)):=by
  intro s2 f hs h1 h3
  rcases getT (by rw[hs];exact ht) h1 with⟨e,rfl⟩|⟨e,h4⟩
  . rw[hs];exact⟨λ_=>h3,λh=>absurd e h⟩
  . rw[hs]at h4;exact⟨λh=>absurd h e,λ_=>.inr ⟨q',h4,.inl rfl⟩⟩
 -- nobody's place
 have none_:∀(T:List AD),T=s.AA->T[u]? =some q'->(ix s.AA t).Status=2->((u:Int)=t->k=16∨q'.Status=2∨q'.Status=5)/\((u:Int)≠t->q'.Status=1∨∃q,s.AA[u]? =some q/\(q'=q∨q.Status=3/\q'.Status=4)):=by
  rintro _ rfl h1 h3
  exact⟨λe=>.inr (.inl (by rw[s7 h1 e]at h3;exact h3)),λ_=>.inr ⟨q',h1,.inl rfl⟩⟩
 unfold FR at hq
 by_cases n1:k=1
 . rw[if_pos n1]at hq;exact own s _ rfl hq (.inr (.inl rfl))
 rw[if_neg n1]at hq
 by_cases n2:k=2
 . rw[if_pos n2]at hq;exact own s _ rfl hq (.inr (.inr rfl))
 rw[if_neg n2]at hq
 by_cases e:k=6∨k=10
 . rw[if_pos e]at hq;exact none_ _ rfl hq (h2 n1 (by omega))
 rw[if_neg e]at hq
 by_cases e:k=7∨k=11
 . rw[if_pos e]at hq;exact none_ _ rfl hq (h2 n1 (by omega))
 rw[if_neg e]at hq
 by_cases e:k=8
 . rw[if_pos e]at hq;exact none_ _ rfl hq (h2 n1 (by omega))
 rw[if_neg e]at hq
 by_cases e:k=9
 . rw[if_pos e]at hq;exact none_ _ rfl hq (h2 n1 (by omega))
 rw[if_neg e]at hq
 by_cases e:k=12
 . rw[if_pos e]at hq;exact none_ _ rfl hq (h2 n1 (by omega))
 rw[if_neg e]at hq
 by_cases e:k=13
 . rw[if_pos e]at hq;exact none_ _ rfl hq (h2 n1 (by omega))
 rw[if_neg e]at hq
 by_cases e:k=14
 . rw[if_pos e]at hq;exact own s _ rfl hq (.inr (.inl (h2 n1 (by omega))))
 rw[if_neg e]at hq
 by_cases e:k=15
 . rw[if_pos e]at hq;exact own s _ rfl hq (.inr (.inl (h2 n1 (by omega))))
 rw[if_neg e]at hq
 by_cases e16:k=16
 . rw[if_pos e16]at hq;exact own (N9 s (ix wv.Au o).Mutex λx=>⟨-1,x.BW⟩) _ rfl hq (.inl e16)
 rw[if_neg e16]at hq
 by_cases n17:k=17
 . rw[if_pos n17]at hq;exact own (N9 s (ix wv.Au o).Mutex λx=>⟨t,x.BW⟩) _ rfl hq (.inr (.inl rfl))
 rw[if_neg n17]at hq
 have s2:=h2 n1 n17
 by_cases e:k=18
 . rw[if_pos e]at hq
   by_cases hW:CP o 0 s.AA=[]
   . rw[if_pos hW]at hq;exact none_ _ rfl hq s2
   . rw[if_neg hW]at hq
     obtain⟨x,x1,x2⟩:=sW o s.AA 0 _ (Tl (wake:=wake) hW)
     have hm:=Iw o s.AA 0 _ (Tl (wake:=wake) hW)
     generalize Eu wake (CP o 0 s.AA)=d at hq x1 hm
     have x1:s.AA[d.toNat]? =some x:=by simpa using x1
     have hd:ix s.AA d=x:=s7 x1 (by omega)
     rcases getT (by simp at hm;omega) hq with⟨e,rfl⟩|⟨e,h4⟩
     . refine⟨λh=> ?_,λ_=>.inr ⟨x,?_,.inr ⟨x2,rfl⟩⟩⟩
       . rw[← h,e,hd]at s2;omega
       . rw[show u=d.toNat from by omega];exact x1
     . exact none_ _ rfl h4 s2
 rw[if_neg e]at hq
 by_cases e:k=19
 . rw[if_pos e]at hq
   have hq:(s.AA.map (HE o))[u]? =some q':=hq
   rw[List.getElem?_map]at hq
   cases hx:s.AA[u]? with
   |none=>rw[hx]at hq;cases hq
   |some x=>
    rw[hx]at hq
    obtain rfl:=Option.some.inj hq
    unfold HE
    by_cases hw:Hx x o=true
    . have:x.Status=3:=by
       unfold Hx at hw
       simp only[Bool.and_eq_true]at hw
       exact eq_of_beq hw.1
      rw[if_pos hw]
      refine⟨λe=> ?_,λ_=>.inr ⟨x,rfl,.inr ⟨this,rfl⟩⟩⟩
      rw[s7 hx e]at s2;omega
    . rw[if_neg hw]
      exact⟨λe=>.inr (.inl (by rw[s7 hx e]at s2;exact s2)),λ_=>.inr ⟨x,rfl,.inl rfl⟩⟩
 rw[if_neg e]at hq
 by_cases e20:k=20
 . rw[if_pos e20]at hq
   have ho:Fe o wv.AA.length=true:=by simpa[DT,e20]using ha
   have hot:o≠t:=by
    simp[Q3,e20]at hrd
    exact hrd.2.1
   have ho:=EX.1 ho
   rcases getT (by omega) hq with⟨e,rfl⟩|⟨e,h4⟩
   . exact⟨λh=>absurd (e.symm.trans h) hot,λ_=>.inl rfl⟩
   . exact none_ _ rfl h4 s2
 rw[if_neg e20]at hq
 by_cases e:k=22
 . rw[if_pos e]at hq;exact none_ _ rfl hq s2
 . rw[if_neg e]at hq;exact none_ _ rfl hq s2
theorem aL (wv:AB) (s:AO) (t k o wake:Int):(FR wv s t k o (if k=18 then(FR wv s t k o wake).2 else -1)).1=(FR wv s t k o wake).1:=by
 by_cases h:k=18
 . rw[if_pos h,h]
   have key:∀w,(FR wv s t 18 o w)=(if CP o 0 s.AA=[]then s else SV s (Eu w (CP o 0 s.AA)) OI,Eu w (CP o 0 s.AA)):=λw=>by simp[FR]
   rw[key,key]
   by_cases hW:CP o 0 s.AA=[]
   . simp[hW]
   . have:=Tl (wake:=wake) hW
     simp only[hW,if_false]
     rw[show Eu (Eu wake (CP o 0 s.AA)) (CP o 0 s.AA)=Eu wake (CP o 0 s.AA)from ?_]
     generalize Eu wake (CP o 0 s.AA)=d at this ⊢
     unfold Eu
     rw[if_neg hW,if_pos (by simpa using this)]
 . rw[if_neg h]
   unfold FR
   simp only[if_neg h]
theorem nums_of {c:Int} (D:List Int):∀last:Int,D.Pairwise (· < ·)->(∀k∈D,last<k/\k<c)->HG c last D=true:=by
 induction D with
 |nil=>exactλ_ _ _=>rfl
 |cons x r ih=>
  intro last h1 h2
  obtain⟨p1,p2⟩:=List.pairwise_cons.1 h1
  have hx:=h2 x List.mem_cons_self
  unfold HG
  simp only[Bool.and_eq_true,decide_eq_true_eq]
  exact⟨hx.1,hx.2,ih x p2 λk hk=>⟨p1 k hk,(h2 k (List.mem_cons_of_mem _ hk)).2⟩⟩
theorem isIn_app {l:List Bool} {b:Bool} {k:Int} (h:LB l k=true):LB (l++[b]) k=true:=by
 unfold LB at h ⊢
 simp only[Bool.and_eq_true]at h ⊢
 have hi:=EX.1 h.1
 refine⟨EX.2 (by simp;omega),?_⟩
 have:=h.2
 unfold ix at this ⊢
 rw[List.getElem?_append_left (by omega)]
 exact this
theorem uB {l:List Bool}:LB (l++[true]) (l.length:Int)=true:=by
 unfold LB
 simp only[Bool.and_eq_true]
 exact⟨EX.2 (by simp;omega),by unfold ix;simp⟩
structure GT (pre:List AN) (u:Int) (cnt:Int) (x:AE):Prop where
 c:cnt=x.AX
 n:x.AX=((SX pre u).length:Int)
 k:∀l∈x.Bt,∀k∈l,LB (SX pre u) k=true/\1≤k
structure LK (c:BB) (pre:List AN) (S:AM) (s:AZ):Prop where
 y:S.Sync=s.Sync
 ce:S.Cells=s.Cells
 f:S.AH=s.AH
 n:S.Count.length=c.World.AA.length
 t:∀(u:Nat) x y,s.AA[u]? =some x->c.AA[u]? =some y->y.CN=0∨x=MA∨GT pre u (ix S.Count u) x
 w:∀(u:Nat) x y q,s.AA[u]? =some x->c.AA[u]? =some y->s.Sync.AA[u]? =some q->q.Status=3∨q.Status=4->∃z,gt y.B3 x.PC=some z/\z.Op=21
 e:∀(u:Nat) x q,s.AA[u]? =some x->s.Sync.AA[u]? =some q->2≤q.Status->x=MA∨1≤x.AX
theorem u6 {wv:AB} {s:AO} {t k o wake:Int} (h18:k≠18) (h19:k≠19):(FR wv s t k o wake).2=0:=by
 have key:∀(P:Prop) [Decidable P] (a b:AO×Int),a.2=0->b.2=0->(if P then a else b).2=0:=λP _ a b ha hb=>by
  by_cases h:P
  . rw[if_pos h];exact ha
  . rw[if_neg h];exact hb
 unfold FR
 rw[if_neg h18,if_neg h19]
 repeat' first|rfl|apply key
theorem sim {E:Nat} {c:BB} {s s':AZ} {ch:CC} {e:AN} {pre:List AN} {S:AM} (hE:E≤10000) (hs:SI E s) (hl:LK c pre S s) (hr:SR c s ch s' e):
 MD c.World S e=true/\Ob pre e=true/\LK c (pre++[e]) (KY c.World S e) s':=by
 obtain⟨hp,hen,hsy,hva,hce,hfu,x,x',x2,hth,h16,hx'⟩:=hr
 obtain⟨hf,ht,_,hh,hi⟩:=hp
 have c1:=hf.c';have c2:=hf.u;have c3:=hf.n;have c4:=hf.v.n
 have l3:=(Gq hf.f).2.2
 obtain⟨y,_,y2,_⟩:=Fl (l:=c.AA) (i:=ch.Thread) (by omega)
 obtain⟨p1,p2,p3⟩:=hf.t _ x y x2 y2
 obtain⟨z,z1,z2,z3⟩:=Fl (l:=y.B3) (i:=x.PC) (by omega)
 obtain⟨q,_,q2,_⟩:=Fl (l:=s.Sync.AA) (i:=ch.Thread) (by omega)
 have hpi:=hi x y z q x2 y2 z2 q2
 have hz:=(hf.v.t _ y y2).i z z3
 have hx:=hs.2 x (List.mem_of_getElem? x2)
 have hcast:((ch.Thread.toNat:Nat):Int)=ch.Thread:=by omega
 -- a thread with registers shows what its trace shows
 have hgt:y.CN=0∨GT pre ch.Thread (ix S.Count ch.Thread) x:=by
  rcases hl.t _ x y x2 y2 with h|h|h
  . exact .inl h
  . rw[h]at p2;exact .inl p2.symm
  . rw[hcast]at h;exact .inr h
 have hD:∀D,D=[]∨D∈x.Bt->HG (ix S.Count e.Thread) 0 D=true/\D.all (LB (SX pre e.Thread))=true:=by
  rintro D (rfl|hD)
  . exact⟨rfl,rfl⟩
  . rcases hgt with h|h
    . have:x.Bt.length=0:=by omega
      rw[List.length_eq_zero_iff.1 this]at hD;cases hD
    . rw[hh]
      refine⟨nums_of D 0 (hx.b D hD).1 λk hk=>⟨by have:=(h.k D hD k hk).2;omega,?_⟩,List.all_eq_true.2 λk hk=>(h.k D hD k hk).1⟩
      rw[h.c];exact((hx.b D hD).2 k hk).2
 have hdp:=hD e.Dy (hpi.d.imp id λh=>h.1)
 have hfr:=hD e.Db (hpi.r.imp id λh=>h.1)
 have ha:DT c.World e.Kind e.Obj=true:=by
  have hen:=hen
  unfold Di at hen
  simp only[Bool.and_eq_true]at hen
  exact hen.2.2.1
 have hpl:MB c.World e=true:=by
  unfold MB
  have site:z.Op≠28->e.Site=z.Site->(Fe e.Site c.World.BA.length&&(ix c.World.BA e.Site).Thread==e.Thread)=true:=by
   intro h1 h2
   have hs:=hz.s
   unfold TP at hs
   rw[if_neg h1,hcast]at hs
   obtain⟨b,b1,b2⟩:=hs
   have hb:=b1
   unfold gt at hb
   split at hb
   . have:=(List.getElem?_eq_some_iff.1 hb).1
     rw[h2,fO b1,b2,hh]
     simp only[Bool.and_eq_true,beq_self_eq_true,and_true]
     exact EX.2 (by omega)
   . cases hb
  rcases hpi.s with⟨k1,k2⟩|⟨⟨q4,k17⟩|⟨q2',k2,n1,n17,k16⟩,hsite⟩
  . rw[if_pos (.inl k1),k2];rfl
  . obtain⟨z',b1,b2⟩:=hl.w _ x y q x2 y2 q2 (.inr q4)
    rw[z1]at b1
    obtain rfl:=Option.some.inj b1
    rw[if_neg (by omega)]
    exact site (by omega) hsite
  . by_cases h2:e.Kind=2
    . have hs:=hz.s
      unfold TP at hs
      rw[if_pos (k2.1 h2)]at hs
      rw[if_pos (.inr h2),hsite,hs];rfl
    . rw[if_neg (by omega)]
      exact site (λh=>h2 (k2.2 h)) hsite
 have hdet:Fk c.World S e=true:=by
  unfold Fk
  rw[hdp.1,hfr.1]
  simp only[Bool.and_true,Bool.and_eq_true,Bool.or_eq_true]
  refine⟨hpi.d.imp (λh=>by rw[h];rfl) λh=>h.2.imp (λh=>by rw[h];rfl) λh=> ?_,hpi.r.imp (λh=>by rw[h];rfl) λh=>h.2.imp (λh=>by rw[h];rfl) λh=>by rw[h];rfl⟩
  unfold QY
  rw[if_pos h.1]
  simpa using h.2
 have hval:IV S e=true:=by
  unfold IV
  rw[hl.ce,hl.f,hl.y]
  obtain⟨v1,v2,v3,v4⟩:=hva
  by_cases k3:e.Kind=3
  . rw[if_pos k3,fO (v1 k3)];simp
  rw[if_neg k3]
  by_cases k23:e.Kind=23
  . rw[if_pos k23,fO (v2 k23)];simp
  rw[if_neg k23]
  by_cases k5:e.Kind=5
  . rw[if_pos k5]
    rcases v3 k5 with h|h<;>rw[h]<;>rfl
  rw[if_neg k5]
  by_cases k4:e.Kind=4∨e.Kind=22
  . rw[if_pos k4]
  rw[if_neg k4]
  have hv:=v4 k3 k23 k5 (by omega) (by omega)
  by_cases k18:e.Kind=18
  . rw[if_pos k18]
    have:e.Value=Eu ch.QG (CP e.Obj 0 s.Sync.AA):=by rw[hv,k18];simp[FR]
    by_cases hW:CP e.Obj 0 s.Sync.AA=[]
    . rw[this,hW];rfl
    . have hm:=Tl (wake:=ch.QG) hW
      rw[← this]at hm
      simp only[Bool.or_eq_true]
      exact .inl (by simpa using hm)
  rw[if_neg k18]
  by_cases k19:e.Kind=19
  . rw[if_pos k19,hv,k19];simp[FR]
  rw[if_neg k19,hv]
  simp[u6 k18 k19]
 have hposs:MD c.World S e=true:=by
  unfold MD P3
  rw[hl.y,hl.ce,hl.f,hf.f,hh,hen,hpl,hdet,hval,hl.n,c1,c2]
  simp only[beq_self_eq_true,Bool.and_true,Bool.true_and]
  exact EX.2 (by omega)
 have hreads:Ob pre e=true:=by unfold Ob;rw[hdp.2,hfr.2];rfl
 refine⟨hposs,hreads,?_⟩
 have hsy':(KY c.World S e).Sync=s'.Sync:=by
  show(FR c.World S.Sync e.Thread e.Kind e.Obj (if e.Kind=18 then e.Value else -1)).1=_
  rw[hl.y,hsy,hh]
  by_cases k18:e.Kind=18
  . have hv:=hva.2.2.2 (by omega) (by omega) (by omega) (by omega) (by omega)
    have:=aL c.World s.Sync ch.Thread e.Kind e.Obj ch.QG
    rw[if_pos k18]at this ⊢
    rw[hv];exact this
  . have:=aL c.World s.Sync ch.Thread e.Kind e.Obj ch.QG
    rw[if_neg k18]at this ⊢
    exact this
 have hthr:∀(u:Nat) a,s'.AA[u]? =some a->(u:Int)=ch.Thread/\a=x'∨(u:Int)≠ch.Thread/\s.AA[u]? =some a:=by
  intro u a ha
  rw[hth]at ha
  by_cases hu:(u:Int)=ch.Thread
  . rw[show ch.Thread.toNat=u from by omega,List.getElem?_set_self (by omega)]at ha
    exact .inl ⟨hu,(Option.some.inj ha).symm⟩
  . rw[List.getElem?_set_ne (by omega)]at ha
    exact .inr ⟨hu,ha⟩
 have hcnt:∀u:Nat,ix (KY c.World S e).Count (u:Int)=if(u:Int)=ch.Thread then BE (ix S.Count ch.Thread+1)else ix S.Count u:=by
  intro u
  show ix (S.Count.set e.Thread.toNat (BE (ix S.Count e.Thread+1))) u=_
  rw[hh]
  by_cases hu:(u:Int)=ch.Thread
  . rw[if_pos hu]
    have hlt:u<S.Count.length:=by rw[hl.n];omega
    rw[show ch.Thread.toNat=u from by omega]
    unfold ix
    simp[hlt]
  . rw[if_neg hu]
    unfold ix
    rw[List.getElem?_set_ne (by omega)]
 have hrd:∀u:Int,SX (pre++[e]) u=if ch.Thread=u then SX pre u++[fK e]else SX pre u:=λu=>by rw[T4,hh]
 have hst:∀(u:Nat) b,s'.Sync.AA[u]? =some b->((u:Int)=ch.Thread->e.Kind=16∨b.Status=2∨b.Status=5)/\((u:Int)≠ch.Thread->b.Status=1∨∃q,s.Sync.AA[u]? =some q/\(b=q∨q.Status=3/\b.Status=4)):=by
  intro u b hb
  rw[hsy]at hb
  exact sT hen hb
 refine⟨hsy',?_,?_,?_,?_,?_,?_⟩
 . rw[hce,← hl.ce];rfl
 . rw[hfu,← hl.f];rfl
 . show(S.Count.set _ _).length=_
   rw[List.length_set];exact hl.n
 . intro u a b ha hb
   rcases hthr u a ha with⟨hu,rfl⟩|⟨hu,ha⟩
   . rw[show u=ch.Thread.toNat from by omega,y2]at hb
     obtain rfl:=Option.some.inj hb
     rcases hgt with h|h
     . exact .inl h
     . rcases hx' with hx'|⟨e1,e2⟩
       . exact .inr (.inl hx')
       . by_cases hR:y.CN=0
         . exact .inl hR
         . refine .inr (.inr ⟨?_,?_,?_⟩)
           . rw[hcnt,if_pos hu,h.c,e1]
             have:=hx.e
             exact Ct (by omega) (by omega)
           . rw[hrd,hu,if_pos rfl,e1,h.n];simp
           . intro l hl' k hk
             rw[hrd,hu,if_pos rfl]
             rcases e2 l hl' k hk with⟨m,m1,m2⟩|⟨rfl,hk3⟩
             . exact⟨isIn_app (h.k m m1 k m2).1,(h.k m m1 k m2).2⟩
             . have hr:fK e=true:=by unfold fK;rcases hk3 with h|h<;>simp[h]
               rw[hr]
               have:=uB (l:=SX pre ch.Thread)
               rw[← h.n]at this
               refine⟨this,?_⟩
               have hq:2≤q.Status:=by
                rcases hpi.s with⟨k1,_⟩|⟨⟨_,k17⟩|⟨q2',_⟩,_⟩<;>omega
               rcases hl.e _ x q x2 q2 hq with h0|h0
               . rw[h0]at p2;exact absurd p2.symm hR
               . exact h0
   . rcases hl.t u a b ha hb with h|h|h
     . exact .inl h
     . exact .inr (.inl h)
     . refine .inr (.inr ⟨?_,?_,?_⟩)
       . rw[hcnt,if_neg hu];exact h.c
       . rw[hrd,if_neg (λh=>hu h.symm)];exact h.n
       . rw[hrd,if_neg (λh=>hu h.symm)];exact h.k
 . intro u a b d ha hb hd hs34
   rcases hthr u a ha with⟨hu,rfl⟩|⟨hu,ha⟩
   . rw[show u=ch.Thread.toNat from by omega,y2]at hb
     obtain rfl:=Option.some.inj hb
     have k16:e.Kind=16:=by
      rcases(hst u d hd).1 hu with h|h|h<;>omega
     rw[h16 k16]
     refine⟨z,z1,?_⟩
     rcases hpi.s with⟨k1,_⟩|⟨⟨_,k17⟩|⟨_,_,_,_,h⟩,_⟩
     . omega
     . omega
     . exact h k16
   . rcases(hst u d hd).2 hu with h|⟨q',h1,h2⟩
     . omega
     . refine hl.w u a b q' ha hb h1 ?_
       rcases h2 with rfl|h2
       . exact hs34
       . exact .inl h2.1
 . intro u a d ha hd h2
   rcases hthr u a ha with⟨hu,rfl⟩|⟨hu,ha⟩
   . rcases hx' with h|⟨e1,_⟩
     . exact .inl h
     . have:=hx.e;exact .inr (by omega)
   . rcases(hst u d hd).2 hu with h|⟨q',h1,h3⟩
     . omega
     . refine hl.e u a q' ha h1 ?_
       rcases h3 with rfl|h3<;>omega
theorem X6 {wv:AB} {j:Nat} {q:AD} (h:(IA wv).AA[j]? =some q):q.Status=0∨q.Status=1:=by
 have h:=List.mem_of_getElem? h
 unfold IA at h
 rcases List.mem_or_eq_of_mem_set h with h|rfl
 . rw[List.eq_of_mem_replicate h];exact .inl rfl
 . exact .inr rfl
theorem tJ {c:BB} (hc:CK c) (hv:CH c=some true):B2 (B6 c) λs=>SI 0 s/\LK c [] (Kt c.World) s:=by
 unfold B6
 obtain⟨v,h1,h2⟩:=OJ hc
 rw[hv]at h1
 have hv2:=h2 (Option.some.inj h1).symm
 rw[hv,Option.bind_some]
 refine tI (λh=>by cases h) λ_=> ?_
 have hv:=hv2
 have hw:=Fm hv.w
 have w1:=hw.c;have w2:=hw.f;have w3:=hc.n
 refine tE (O4 _ hw) (My c.World.Cells.length (λi s=>s.Sync=IA c.World/\s.Cells=(c.World.Cells.take i).map (·.Init)/\s.AH=[]/\s.AA=[]) (F:=λn s i=>B6.Ac c n s i) (by omega) ⟨rfl,rfl,rfl,rfl⟩ λn i s hi hs k=> ?_)
 obtain⟨s1,s2,s3,s4⟩:=hs
 have l2:s.Cells.length=i:=by rw[s2];simp;omega
 unfold B6.Ac B6.L1 B6.J1
 refine tD (λ_=>XS (by omega) (tC (Ba (by omega)) (k _ (by omega) ⟨s1,by simp only;rw[s2,← List.take_append_getElem (by omega),List.map_append];rfl,s3,s4⟩))) λ_=> ?_
 have s2:s.Cells=c.World.Cells.map (·.Init):=by rw[s2,List.take_of_length_le (by omega)]
 refine My c.World.AH.length (λi t=>t.Sync=IA c.World/\t.AH=List.replicate i 0/\t.AA=[]/\t.Cells=s.Cells) (F:=λn s i=>B6.Da c n s i) (by omega) ⟨s1,by simp[s3],s4,rfl⟩ λn i t hi hs k=> ?_
 obtain⟨t1,t2,t3,t4⟩:=hs
 have l2:t.AH.length=i:=by rw[t2];simp
 unfold B6.Da B6.L2 B6.J2
 refine tD (λ_=>tC (Ba (by omega)) (k _ (by omega) ⟨t1,by simp only;rw[t2,← List.replicate_succ'],t3,t4⟩)) λ_=> ?_
 have t2:t.AH=List.replicate c.World.AH.length 0:=by rw[t2,show i=c.World.AH.length by omega]
 refine My c.AA.length (λi u=>u.Sync=IA c.World/\u.AA.length=i/\(∀x∈u.AA,TH 0 x/\x.AX=0/\∀l∈x.Bt,l=[])/\u.Cells=s.Cells/\u.AH=t.AH) (F:=λn s i=>B6.Gx c n s i) (by omega) ⟨t1,by simp[t3],by simp[t3],t4,rfl⟩ λn i u hi hs k=> ?_
 obtain⟨u1,u2,u3,u4,u5⟩:=hs
 unfold B6.Gx B6.L3 B6.J3
 refine tD (λ_=>XS (by omega) ?_) λ_=>tR ⟨⟨by rw[u1];exact RB.start _,λx hx=>(u3 x hx).1⟩,by rw[u1];rfl,by rw[u4,s2];rfl,by rw[u5,t2];rfl,by have:=hv.n;simp[Kt],?_,?_,?_⟩
 . have hr:=(hv.t i _ (List.getElem?_eq_getElem (by omega))).r
   refine tC ⟨by omega,by omega,Ba (by omega)⟩ (tC ⟨by omega,by omega,Ba (by omega)⟩ (tC (Ba (by omega)) (k _ (by omega) ⟨u1,by simp;omega,?_,u4,u5⟩)))
   intro x hx
   rcases List.mem_append.1 hx with hx|hx
   . exact u3 x hx
   . rw[List.mem_singleton.1 hx]
     refine⟨⟨by simp;omega,by simp;omega,?_,by simp⟩,rfl,λl hl=>List.eq_of_mem_replicate hl⟩
     intro y hy
     have hy:=List.eq_of_mem_replicate hy
     rw[hy]
     exact⟨List.Pairwise.nil,by simp⟩
 . intro j x y hx _
   have hx:=u3 x (List.mem_of_getElem? hx)
   refine .inr (.inr ⟨?_,by rw[hx.2.1];rfl,λl hl k hk=>by rw[hx.2.2 l hl]at hk;cases hk⟩)
   rw[hx.2.1]
   show ix (List.replicate c.World.AA.length 0) (j:Int)=0
   unfold ix
   simp only[Int.toNat_natCast]
   by_cases hj:j<c.World.AA.length
   . rw[List.getElem?_eq_getElem (by simpa using hj)];simp
   . rw[List.getElem?_eq_none (by simp;omega)];rfl
 . intro j x y q _ _ hq h34
   rw[u1]at hq
   have:=X6 hq
   omega
 . intro j x q _ hq h2
   rw[u1]at hq
   have:=X6 hq
   omega
def Acc (wv:AB) (l:List AN) (S:AM):Prop:=∀r,Gf wv [] (Kt wv) (l++r)=Gf wv l S r
theorem Acc.step {wv:AB} {l:List AN} {S:AM} (h:Acc wv l S) {e:AN} (h1:MD wv S e=true) (h2:Ob l e=true):Acc wv (l++[e]) (KY wv S e):=by
 intro r
 rw[List.append_assoc,h,List.singleton_append,Gf,h1,h2]
 rfl
theorem from_ok {c:BB} (hc:CK c) {s:AZ} (hs:SI 0 s) (hk:LK c [] (Kt c.World) s) {l:List CC} (hl:l.length≤1000):B2 (Dr c s [] l) λr=>(r.1.length≤l.length/\∀e∈r.1,Vz e)/\∃S,Acc c.World r.1 S/\LK c r.1 S r.2:=by
 unfold Dr
 refine My l.length (λi (s:List AN×AZ)=>(SI i s.2/\s.1.length≤i/\∀e∈s.1,Vz e)/\∃S,Acc c.World s.1 S/\LK c s.1 S s.2) (F:=λn s i=>Dr.Ac c l n s.1 s.2 i) (s0:=([],s)) (by omega) ⟨⟨hs,by simp,by simp⟩,_,λ_=>rfl,hk⟩ λn i s hi hs k=> ?_
 obtain⟨⟨s1,s2,s3⟩,S,a1,a2⟩:=hs
 have up:SI (i+1) s.2:=⟨s1.1.mono (by omega),λt ht=>(s1.2 t ht).mono (by omega)⟩
 unfold Dr.Ac Dr.L1 Dr.J1 Dr.J2 Dr.J3
 refine tD (λ_=>tI (λ_=>tG (by omega) λx _=> ?_) λ_=>tR ⟨⟨by simp only;omega,s3⟩,S,a1,a2⟩) λ_=>tI (λh=>by cases h) λ_=>tR ⟨⟨by simp only;omega,s3⟩,S,a1,a2⟩
 refine tB (YE hc s1 (by omega) x) λv hv=>tI (λh=> ?_) λ_=>k (_,_) (by omega) ⟨⟨up,by simp only;omega,s3⟩,S,a1,a2⟩
 obtain⟨⟨v1,v2⟩,v3⟩:=hv h
 obtain⟨b1,b2,b3⟩:=sim (by omega) s1 a2 v3
 refine tC (Ba (by omega)) (k (_,_) (by omega) ⟨⟨v1,by simp;omega,?_⟩,_,a1.step b1 b2,b3⟩)
 intro e he
 rcases List.mem_append.1 he with he|he
 . exact s3 e he
 . rw[List.mem_singleton.1 he];exact v2
structure TA (n:Nat) (t:EJ):Prop where
 m:TM n t
 c:Gf t.World [] (Kt t.World) t.AX=(0,0)
theorem Run_ok {c:BB} (hc:CK c) {l:List CC} (hl:l.length≤1000):B2 (Ix c l) λr=>TA l.length r.1:=by
 unfold Ix
 obtain⟨v,h1,h2⟩:=OJ hc
 rw[h1,Option.bind_some]
 refine tI (λ_=>tR ⟨⟨by simp,by simp,λh=>absurd rfl h⟩,rfl⟩) λh=> ?_
 have ht:v=true:=by simpa using h
 refine tB (tJ hc (by rw[h1,ht])) λs hs=>tB (from_ok hc hs.1 hs.2 hl) λr hr=>tR ⟨⟨hr.1.1,hr.1.2,λ_=>(h2 ht).w⟩,?_⟩
 obtain⟨S,a1,_⟩:=hr.2
 have:=a1 []
 rw[List.append_nil]at this
 exact this
section
variable {T:ByteArray->Prop}
def Zr:Nat->List AK->Nat
 |0,_=>0
 |d+1,l=>(l.map λs=>1+Zr d s.Body+Zr d s.Else).sum
theorem sum_le {l:List Nat} {k:Nat} (h:∀x∈l,x≤k):l.sum≤l.length*k:=by
 induction l with
 |nil=>simp
 |cons x r ih=>
  have h1:=h x List.mem_cons_self
  have h2:=ih λy hy=>h y (List.mem_cons_of_mem _ hy)
  rw[List.sum_cons,List.length_cons,Nat.succ_mul];omega
theorem szs_le (d:Nat):∀l,Qw T d l->Zr d l≤10*KB d:=by
 induction d with
 |zero=>exactλ_ _=>Nat.zero_le _
 |succ d ih=>
  intro l ⟨h1,h2⟩
  have hc:KB (d+1)=1+20*KB d:=rfl
  refine Nat.le_trans (sum_le (k:=KB (d+1)) ?_) (by rw[List.length_map];exact Nat.mul_le_mul_right _ h1)
  intro x hx
  obtain⟨s,hs,rfl⟩:=List.mem_map.1 hx
  have a1:=ih _ (h2 s hs).body
  have a2:=ih _ (h2 s hs).tX
  omega
theorem sum_take {l:List AK} {i:Nat} (h:i<l.length) (f:AK->Nat):((l.take (i+1)).map f).sum=((l.take i).map f).sum+f l[i]:=by
 rw[← List.take_append_getElem h,List.map_append,List.sum_append];simp
theorem fI (l:List AK) (i:Nat) (f:AK->Nat):((l.take i).map f).sum≤(l.map f).sum:=by
 conv=>rhs;rw[← List.take_append_drop i l,List.map_append,List.sum_append]
 omega
theorem cst_le {d:Nat} (h:d≤4):KB d≤8421:=by
 have:d=0∨d=1∨d=2∨d=3∨d=4:=by omega
 rcases this with rfl|rfl|rfl|rfl|rfl<;>decide
theorem Count_eq (d:Nat):∀(n:Nat) (l:List AK),d≤4->d+1≤n->Qw T d l->B2 (FW n l) λr=>r=(Zr d l:Int):=by
 induction d with
 |zero=>
  intro n l _ hn ⟨_,h⟩
  obtain⟨n,rfl⟩:∃k,n=k+1:=⟨n-1,by omega⟩
  have:l=[]:=List.eq_nil_iff_forall_not_mem.2 λx hx=>(h x hx).elim
  subst this
  show B2 (C1 (FW n) []) _
  exact tR rfl
 |succ d ih=>
  intro n l hd hn ⟨h1,h2⟩
  obtain⟨n,rfl⟩:∃k,n=k+1:=⟨n-1,by omega⟩
  show B2 (C1 (FW n) l) _
  unfold C1
  have hc:=cst_le (d:=d) (by omega)
  have hle:=szs_le (T:=T) (d+1) l ⟨h1,h2⟩
  have hc2:=cst_le hd
  let f:AK->Nat:=λs=>1+Zr d s.Body+Zr d s.Else
  refine My l.length (λi (s:Int)=>s+i=((l.take i).map f).sum+l.length) (F:=λn s i=>C1.Ac _ l n s i) (by omega) (by simp) λm i s hi hs k=> ?_
  unfold C1.Ac C1.L1 C1.J1
  have hl:=fI l i f
  have hz:Zr (d+1) l=(l.map f).sum:=rfl
  refine tD (λhlt=>XS (by omega) ?_) λ_=>tR ?_
  . have hx:l[i]∈l:=List.getElem_mem (by omega)
    have b1:=(h2 _ hx).body;have b2:=(h2 _ hx).tX
    have a1:=szs_le d _ b1;have a2:=szs_le d _ b2
    have hl2:=fI l (i+1) f
    have st:=sum_take (by omega) f (i:=i) (l:=l)
    refine tB (ih n _ (by omega) (by omega) b1) λv hv=>tB (ih n _ (by omega) (by omega) b2) λu hu=>k _ (by omega) ?_
    rw[Ct (n:=s+v) (by omega) (by omega),Ct (by omega) (by omega),st]
    show _=((((l.take i).map f).sum+(1+Zr d l[i].Body+Zr d l[i].Else):Nat):Int)+_
    omega
  . rw[hz]
    have:i=l.length:=by omega
    subst this
    rw[List.take_length]at hs
    omega
theorem sum_takeT {l:List CA} {i:Nat} (h:i<l.length) (f:CA->Nat):((l.take (i+1)).map f).sum=((l.take i).map f).sum+f l[i]:=by
 rw[← List.take_append_getElem h,List.map_append,List.sum_append];simp
theorem check60 {p:AL} (h:MP p):B2 (BH p) λr=>r.1=0->(p.AA.map λt=>Zr 4 t.Body).sum≤60:=by
 have hd:=h.dl;have ht:=h.t
 have hc:KB 4=8421:=rfl
 have N:∀{a b:Int} {P:Prop},(a != 0)=true->B2 (some (a,b)) λr:Int×Int=>r.1=0->P:=λh=>tR λh2=>by
  simp only at h2
  rw[h2]at h
  cases h
 unfold BH
 refine GN (Ub h) λ_=>tI (λ_=>N rfl) λ_=>GN (XQ h) λ_=>tI (λh=>N h) λ_=>tI (λ_=>N rfl) λ_=>GN (Ta h) λ_=>tI (λh=>N h) λ_=> ?_
 let f:CA->Nat:=λt=>Zr 4 t.Body
 have hs:∀t∈p.AA,f t≤84210:=λt ht=>by have:=szs_le 4 _ (h.b t ht);show Zr 4 t.Body≤_;omega
 refine My p.AA.length (λi (s:Int)=>s=((p.AA.take i).map f).sum/\s≤i*84210) (F:=λn s i=>BH.Ac p n s i) (by omega) (by simp) λm i s hi hs1 k=> ?_
 unfold BH.Ac BH.L1 BH.J1
 refine tD (λ_=>XS (by omega) (tB (Count_eq 4 _ _ (by omega) (Lm (by omega)) (h.b _ (List.getElem_mem (by omega)))) λv hv=>k _ (by omega) ?_)) λhge=>tD (λ_=>N rfl) λh60=> ?_
 . have st:=sum_takeT (l:=p.AA) (i:=i) (by omega) f
   have hb:=hs _ (List.getElem_mem (show i<p.AA.length by omega))
   have e:f p.AA[i]=Zr 4 p.AA[i].Body:=rfl
   rw[Ct (by omega) (by omega),st]
   omega
 have hi2:i=p.AA.length:=by omega
 rw[hi2,List.take_length]at hs1
 have h6:(p.AA.map f).sum≤60:=by omega
 refine My p.AA.length (λi w=>WK p 0 (i*84210) w) (F:=λn s i=>BH.Da p n s i) (by omega) ⟨rfl,rfl,by simp,by simp⟩ λm i s hi hs k=> ?_
 unfold BH.Da BH.L2 BH.J2
 refine tD (λhlt=>tG (by omega) λx hx=> ?_) λ_=>tR λ_=>h6
 refine tB (fH h 4 _ 0 (i*84210) _ _ (Lm (by omega)) (by omega) (by omega) ⟨hs.p,hs.a,hs.s,hs.t⟩ (h.b x hx)) λv hv=>tI (λh=>N h) λ_=>k _ (by omega) (hv.mono (by omega))
def SN (t nv:Int) (l:List DO):Prop:=∀(j:Nat) x,l[j]? =some x->x.Thread=t/\x.Stmt=nv+j
theorem SN.app {t nv:Int} {a b:List DO} (h:SN t nv a) (g:SN t (nv+a.length) b):SN t nv (a++b):=by
 intro j x hx
 by_cases hj:j<a.length
 . rw[List.getElem?_append_left hj]at hx;exact h j x hx
 . rw[List.getElem?_append_right (by omega)]at hx
   have:=g _ x hx
   exact⟨this.1,by rw[this.2];omega⟩
theorem SN.one {t nv l:Int}:SN t nv [⟨t,nv,l⟩]:=by
 intro j x hx
 cases j with
 |zero=>simp at hx;subst hx;exact⟨rfl,by simp⟩
 |succ j=>simp at hx
theorem sites_ok (d:Nat):∀(n:Nat) (o:List DO) (t nv:Int) (l:List AK),d+1≤n->o.length+Zr d l≤900000->(0≤nv/\nv+Zr d l≤900000)->Qw T d l->B2 (FY n o t nv l) λr=>∃S,r.1=o++S/\S.length=Zr d l/\SN t nv S/\r.2=nv+Zr d l:=by
 induction d with
 |zero=>
  intro n o t nv l hn _ _ ⟨_,h⟩
  obtain⟨n,rfl⟩:∃k,n=k+1:=⟨n-1,by omega⟩
  have:l=[]:=List.eq_nil_iff_forall_not_mem.2 λx hx=>(h x hx).elim
  subst this
  show B2 (C2 (FY n) o t nv []) _
  exact tR ⟨[],by simp,rfl,λj x hx=>by simp at hx,by simp[Zr]⟩
 |succ d ih=>
  intro n o t nv l hn ho hv ⟨h1,h2⟩
  obtain⟨n,rfl⟩:∃k,n=k+1:=⟨n-1,by omega⟩
  show B2 (C2 (FY n) o t nv l) _
  unfold C2
  let f:AK->Nat:=λs=>1+Zr d s.Body+Zr d s.Else
  have hz:Zr (d+1) l=(l.map f).sum:=rfl
  refine My l.length (λi (s:List DO×Int)=>∃S,s.1=o++S/\S.length=((l.take i).map f).sum/\SN t nv S/\s.2=nv+((l.take i).map f).sum) (F:=λm s i=>C2.Ac _ l t m s.1 s.2 i) (s0:=(o,nv)) (by omega) ⟨[],by simp,rfl,λj x hx=>by simp at hx,by simp⟩ λm i s hi hs k=> ?_
  obtain⟨S,s1,s2,s3,s4⟩:=hs
  unfold C2.Ac C2.L1 C2.J1
  refine tD (λhlt=>XS (by omega) ?_) λhge=> ?_
  . have st:=sum_take (l:=l) (i:=i) (by omega) f
    have hl2:=fI l (i+1) f
    have hx:l[i]∈l:=List.getElem_mem (by omega)
    have hf:f l[i]=1+Zr d l[i].Body+Zr d l[i].Else:=rfl
    have hlen:s.1.length=o.length+((l.take i).map f).sum:=by rw[s1,List.length_append,s2]
    refine tC (Ba (by omega)) ?_
    rw[s4,Ct (n:=nv+((l.take i).map f).sum+1) (by omega) (by omega)]
    refine tB (ih n _ t _ _ (by omega) (by simp;omega) (by omega) (h2 _ hx).body) λv hv2=> ?_
    obtain⟨S2,v1,v2,v3,v4⟩:=hv2
    refine tB (ih n _ t _ _ (by omega) (by rw[v1];simp;omega) (by rw[v4];omega) (h2 _ hx).tX) λu hu=> ?_
    obtain⟨S3,u1,u2,u3,u4⟩:=hu
    refine k (_,_) (by omega) ⟨S++([⟨t,nv+((l.take i).map f).sum,l[i].D4⟩]++(S2++S3)),?_,?_,?_,?_⟩
    . simp only[u1,v1,s1,List.append_assoc]
    . simp only[List.length_append,List.length_cons,List.length_nil];omega
    . refine s3.app ?_
      rw[s2]
      refine SN.one.app ?_
      rw[show nv+((l.take i).map f).sum+(([⟨t,nv+((l.take i).map f).sum,l[i].D4⟩]:List DO).length:Int)=nv+((l.take i).map f).sum+1 from by simp]
      refine v3.app ?_
      rw[v2,← v4];exact u3
    . simp only;rw[u4,v4,st,hf];omega
  . have hi2:i=l.length:=by omega
    subst hi2
    rw[List.take_length]at s2 s4
    exact tR ⟨S,s1,s2,s3,s4⟩
end
section
variable {T:ByteArray->Prop} {g h r:Aw} {lo hi lo' hi':Int}
def BS (T:ByteArray->Prop) (R:Aw->List AK->Option Aw) (l:List AK) (n:Nat):Prop:=
 ∀g,GW T g->(0≤g.next/\g.next+n≤1000000)->fE (R g l) λr=>GV g r g.next (g.next+n)/\r.next=g.next+n
theorem Z2 {l k:List AW} {i:Nat} (h:i<l.length):(l++k)[i]? =l[i]? :=List.getElem?_append_left h
theorem sZ {l:List AW} {x:AW}:(l++[x])[l.length]? =some x:=by simp
theorem around_par {R:Aw->List AK->Option Aw} {s:AK} {n:Nat} (hg:GW T g) (hs:lo≤g.site/\g.site<hi) (hn:0≤g.next/\g.next+n≤1000000) (hl:lo≤g.next) (hh:g.next+n≤hi) (hR:BS T R s.Body n) {a b c:Int}
 (ha:11≤a/\a≤25) (hb:11≤b/\b≤25) (ho:∀p S,p=a∨p=b->Ad g.w ⟨p,c,0,0,0,S⟩=some true):fE (Du R g s a b c) λr=>GV g r lo hi/\r.next=g.next+n:=by
 unfold Du
 refine pB (put_par (lo:=lo) (hi:=hi) ⟨by simp only;omega,ho _ _ (.inl rfl),by rw[rg0 (by simp only;omega)];simp,hs,by simp only;omega,by simp only;omega⟩ (by simp only;omega)) λv hv=> ?_
 have h1:=hR v (hg.next hv.1) (by rw[hv.2.2];exact hn)
 rw[hv.2.2]at h1
 refine pB h1 λu hu=> ?_
 have h2:=hv.1.trans (hu.1.mono hl hh)
 have h3:=h2.site g.site u.next
 refine pM (VU (lo:=lo) (hi:=hi) ⟨by simp only;omega,?_,by rw[rg0 (by simp only;omega)];simp,hs,by simp only;omega,by simp only;omega⟩ (by simp only;omega)) λ_ h=>⟨h3.trans h.1,h.2.2.trans hu.2⟩
 simp only;rw[h2.w];exact ho _ _ (.inr rfl)
theorem branches_par {R:Aw->List AK->Option Aw} {s:AK} {n m:Nat} (hg:GW T g) (hs:lo≤g.site/\g.site<hi) (hn:0≤g.next/\g.next+n+m≤1000000) (hl:lo≤g.next) (hh:g.next+n+m≤hi) (he:Pr 2 s.Expr) (hR:BS T R s.Body n) (hE:BS T R s.Else m)
 (h3:s.Op=3->m=0) (h0:s.Else=[]->m=0):fE (DM R g s) λr=>GV g r lo hi/\r.next=g.next+n+m:=by
 have hL:(g.locals.length:Int)=2:=by rw[hg.l];rfl
 unfold DM
 rw[hL]
 refine pB (tA he hg hs (by omega)) λd hd=> ?_
 have dL:(d.locals.length:Int)=2:=by rw[hd.1.l];exact hL
 rw[dL]
 refine pB (put_eq _) λq hq=> ?_
 have hds:d.site=g.site:=hd.2.1
 have hdn:d.next=g.next:=hd.2.2
 subst hq
 have hgd:=hg.next hd.1
 have h1:=hR ⟨d.w,d.locals,d.out++[⟨10,2,0,0,0,d.site⟩],d.site,d.next⟩ ⟨hgd.w,hgd.l⟩ (by simp only;rw[hdn];omega)
 refine pB h1 λb hb=> ?_
 obtain⟨hb,hbn⟩:=hb
 simp only at hbn
 rw[hdn]at hbn
 have hb:=hb.mono (lo':=lo) (hi':=hi) (by simp only;rw[hdn];exact hl) (by simp only;rw[hdn];omega)
 have q1:=hd.1.n
 have b1:d.out.length+1≤b.out.length:=by have:=hb.n;simpa using this
 have bp:∀i,i<d.out.length+1->b.out[i]? =(d.out++[(⟨10,2,0,0,0,d.site⟩:AW)])[i]? :=λi hi=>hb.p i (by simpa using hi)
 have bs:SG d.w lo hi b.out (d.out.length+1) b.out.length b.out.length:=by have:=hb.s;simpa using this
 have bw:b.w=g.w:=hb.w.trans hd.1.w
 have bl:b.locals=g.locals:=hb.l.trans hd.1.l
 have dw:=hd.1.w
 rw[dw]at bs
 -- a list that goes on as these do, but for the branch
 have val:∀(F:List AW),b.out.length≤F.length->(∀i,i<d.out.length->F[i]? =b.out[i]?)->SG g.w lo hi F g.out.length d.out.length F.length:=λF f1 f2=>
  hd.1.s.frame (λi _ hi=>by rw[f2 i hi,bp i (by omega),Z2 hi]) (by omega) (by omega) (by omega) (by omega)
 have pre:∀(F:List AW),(∀i,i<d.out.length->F[i]? =b.out[i]?)->∀i,i<g.out.length->F[i]? =g.out[i]? :=λF f2 i hi=>by
  rw[f2 i (by omega),bp i (by omega),Z2 (by omega),hd.1.p i hi]
 have bod:∀(F:List AW) (c:Nat),b.out.length≤F.length->b.out.length≤c->(∀i,d.out.length<i->i<b.out.length->F[i]? =b.out[i]?)->SG g.w lo hi F (d.out.length+1) b.out.length c:=λF c f1 f3 f2=>
  bs.frame (λi h1 h2=>(f2 i (by omega) h2).symm) f1 (by omega) (by omega) f3
 have br:∀(c:Nat) (B:Nat),B≤c->LV g.w lo hi c ⟨10,2,(B:Int),0,0,d.site⟩:=λc B hB=>⟨by simp,obj0 (by simp),by rw[rg10 rfl];exact rB (x:=0) (by simp),by simp only;rw[hds];exact hs,by simp,λ_=>by simp only;omega⟩
 have ju:∀(c:Nat) (A:Nat),A≤c->LV g.w lo hi c ⟨5,(A:Int),0,0,0,g.site⟩:=λc A hA=>⟨by simp,obj0 (by simp),by rw[rg0 (.inl rfl)];simp,hs,λ_=>by simp only;omega,by simp⟩
 have bd:b.out[d.out.length]? =some ⟨10,2,0,0,0,d.site⟩:=by rw[bp _ (by omega)];exact sZ
 refine pI (λh=> ?_) λhne=>pI (λh=> ?_) λhne2=> ?_
 . -- a loop
   have hm:=h3 (eq_of_beq h)
   refine pB (put_eq _) λe he=> ?_
   subst he
   refine pE (y:=⟨10,2,0,0,0,d.site⟩) (by rw[JM];simp only;rw[Z2 (by omega)];exact bd) (pR ⟨?_,by simp only;omega⟩)
   simp only
   generalize hF:(b.out++[(⟨5,(g.out.length:Int),0,0,0,g.site⟩:AW)]).set d.out.length ⟨10,2,((b.out++[(⟨5,(g.out.length:Int),0,0,0,g.site⟩:AW)]).length:Int),0,0,d.site⟩=F
   have fl:F.length=b.out.length+1:=by rw[← hF];simp
   have f1:∀i,i≠d.out.length->i<b.out.length->F[i]? =b.out[i]? :=λi h1 h2=>by rw[← hF,List.getElem?_set_ne (by omega),Z2 h2]
   have f2:F[d.out.length]? =some ⟨10,2,((b.out.length+1:Nat):Int),0,0,d.site⟩:=by rw[← hF,List.getElem?_set_self (by simp;omega)];simp
   have f3:F[b.out.length]? =some ⟨5,(g.out.length:Int),0,0,0,g.site⟩:=by rw[← hF,List.getElem?_set_ne (by omega)];exact sZ
   refine⟨bw,bl,by simp only;omega,pre F λi hi=>f1 i (by omega) (by omega),?_⟩
   simp only
   have:=SG.back (val F (by omega) λi hi=>f1 i (by omega) (by omega)) f2 (br _ _ (by omega)) rfl (bod F F.length (by omega) (by omega) λi h1 h2=>f1 i (by omega) h2) f3 (ju _ _ (by omega)) rfl rfl
   rw[fl]at this ⊢
   exact this
 . -- without another part
   have hm:m=0:=h0 (by have:=eq_of_beq h;exact List.length_eq_zero_iff.1 (by omega))
   refine pE (y:=⟨10,2,0,0,0,d.site⟩) (by rw[JM];exact bd) (pR ⟨?_,by simp only;omega⟩)
   simp only
   generalize hF:b.out.set d.out.length ⟨10,2,(b.out.length:Int),0,0,d.site⟩=F
   have fl:F.length=b.out.length:=by rw[← hF];simp
   have f1:∀i,i≠d.out.length->F[i]? =b.out[i]? :=λi h1=>by rw[← hF,List.getElem?_set_ne (by omega)]
   have f2:F[d.out.length]? =some ⟨10,2,(b.out.length:Int),0,0,d.site⟩:=by rw[← hF,List.getElem?_set_self (by omega)]
   refine⟨bw,bl,by simp only;omega,pre F λi hi=>f1 i (by omega),?_⟩
   simp only
   have:=((val F (by omega) λi hi=>f1 i (by omega)).app (SG.one f2 (br _ _ (by omega)) (by simp))).app (bod F F.length (by omega) (by omega) λi h1 h2=>f1 i (by omega))
   rw[fl]at this ⊢
   exact this
 . -- with another part
   refine pB (put_eq _) λf hf=> ?_
   subst hf
   refine pE (y:=⟨10,2,0,0,0,d.site⟩) (by rw[JM];simp only;rw[Z2 (by omega)];exact bd) ?_
   simp only
   generalize hF:(b.out++[(⟨5,0,0,0,0,g.site⟩:AW)]).set d.out.length ⟨10,2,((b.out++[(⟨5,0,0,0,0,g.site⟩:AW)]).length:Int),0,0,d.site⟩=F
   have fl:F.length=b.out.length+1:=by rw[← hF];simp
   have f1:∀i,i≠d.out.length->i<b.out.length->F[i]? =b.out[i]? :=λi h1 h2=>by rw[← hF,List.getElem?_set_ne (by omega),Z2 h2]
   have f2:F[d.out.length]? =some ⟨10,2,((b.out.length+1:Nat):Int),0,0,d.site⟩:=by rw[← hF,List.getElem?_set_self (by simp;omega)];simp
   have f3:F[b.out.length]? =some ⟨5,0,0,0,0,g.site⟩:=by rw[← hF,List.getElem?_set_ne (by omega)];exact sZ
   have h4:=hE ⟨b.w,b.locals,F,g.site,b.next⟩ ⟨by simp only;rw[bw];exact hg.w,bl.trans hg.l⟩ (by simp only;omega)
   refine pB h4 λi hi=> ?_
   obtain⟨hj,hin⟩:=hi
   simp only at hin
   have hj:=hj.mono (lo':=lo) (hi':=hi) (by simp only;omega) (by simp only;omega)
   have i1:b.out.length+1≤i.out.length:=by have:=hj.n;simp only[fl]at this;exact this
   have ip:∀k,k<b.out.length+1->i.out[k]? =F[k]? :=λk hk=>hj.p k (by simp only[fl];exact hk)
   have is:SG g.w lo hi i.out (b.out.length+1) i.out.length i.out.length:=by have:=hj.s;simp only[fl,bw]at this;exact this
   refine pE (y:=⟨5,0,0,0,0,g.site⟩) (by rw[JM,ip _ (by omega)];exact f3) (pR ⟨?_,by simp only;omega⟩)
   simp only
   generalize hK:i.out.set b.out.length ⟨5,(i.out.length:Int),0,0,0,g.site⟩=K
   have kl:K.length=i.out.length:=by rw[← hK];simp
   have k1:∀k,k≠b.out.length->K[k]? =i.out[k]? :=λk h1=>by rw[← hK,List.getElem?_set_ne (by omega)]
   have k2:∀k,k≠d.out.length->k<b.out.length->K[k]? =b.out[k]? :=λk h1 h2=>by rw[k1 k (by omega),ip k (by omega),f1 k h1 h2]
   have k3:K[d.out.length]? =some ⟨10,2,((b.out.length+1:Nat):Int),0,0,d.site⟩:=by rw[k1 _ (by omega),ip _ (by omega)];exact f2
   have k4:K[b.out.length]? =some ⟨5,(i.out.length:Int),0,0,0,g.site⟩:=by rw[← hK,List.getElem?_set_self (by omega)]
   refine⟨hj.w.trans bw,hj.l.trans bl,by simp only;omega,pre K λi hi=>k2 i (by omega) (by omega),?_⟩
   simp only
   have hA:=((val K (by omega) λi hi=>k2 i (by omega) (by omega)).app (SG.one k3 (br _ _ (by omega)) (by simp))).app (bod K K.length (by omega) (by omega) λi h1 h2=>k2 i (by omega) h2)
   have hB:SG g.w lo hi K (b.out.length+1) i.out.length K.length:=is.frame (λk h1 _=>(k1 k (by omega)).symm) (by omega) (by omega) (by omega) (by omega)
   have:=hA.jump k4 (ju _ _ (by omega)) rfl rfl hB
   rw[kl]at this ⊢
   exact this
theorem szs_nil (d:Nat):Zr d []=0:=by cases d<;>rfl
end
section
variable {T:ByteArray->Prop} {g h r:Aw} {lo hi lo' hi':Int}
theorem cond_eq (h:g.w.Au=[⟨cN,0⟩]):CG g cN=some (0,g):=by
 unfold CG
 have hb:=Bx
 obtain⟨n,hn⟩:∃n,Bo=n+1:=⟨Bo-1,by omega⟩
 rw[hn]
 unfold CG.Ac CG.L1
 rw[h]
 simp[gt]
theorem At_par {l:List ByteArray} {s:ByteArray} (hl:l.length<1000000):fE (CF l s) λr=>s∈l->0≤r/\r<l.length:=by
 unfold CF
 refine pLs l.length (λi (_:Unit)=>∀j:Nat,j<i->l[j]? ≠some s) (s0:=()) (F:=λn _ i=>CF.Ac l s n i) (λ_ _=>rfl) (by omega) (λj hj=>by omega) λn i _ hi hs k=> ?_
 unfold CF.Ac CF.L1 CF.J1
 refine pD (λhlt=>pE (DG (by omega)) (pI (λ_=>pR λ_=>by omega) λhne=>k () (by omega) ?_)) λhge=>pR λhm=> ?_
 . intro j hj e
   by_cases h:j<i
   . exact hs j h e
   . obtain rfl:j=i:=by omega
     rw[List.getElem?_eq_getElem (by omega)]at e
     rw[Option.some.inj e]at hne
     simp at hne
 . obtain⟨j,j1,j2⟩:=List.getElem_of_mem hm
   exact absurd (by rw[List.getElem?_eq_getElem j1,j2]) (hs j (by omega))
theorem stmt_par {R:Aw->List AK->Option Aw} {s:AK} {k B E:Nat} (hg:GW T g) (hs:KD T (k+1) s) (hn:0≤g.next/\g.next+(1+B+E)≤1000000) (hB:BS T R s.Body B) (hE:BS T R s.Else E) (b0:s.Body=[]->B=0) (e0:s.Else=[]->E=0):
 fE (Cc (DM R) (Du R) g s) λr=>GV g r g.next (g.next+(1+B+E))/\r.next=g.next+(1+B+E):=by
 have hw:BE (g.next+1)=g.next+1:=Ct (by omega) (by omega)
 have bd:=hs.2.2.2.2.2.2.2.2.1
 have nm:=hs.2.2.2.2.2.2.2.2.2
 have nB:s.Op∉[(2:Int),3,4,5,6,7,8]->B=0:=λh=>b0 (bd.1 h)
 have nE:s.Op≠2->E=0:=λh=>e0 (bd.2 h)
 unfold Cc
 rw[hw]
 generalize hg1:Aw.mk g.w g.locals g.out g.next (g.next+1)=g1
 have gw:GW T g1:=by rw[← hg1];exact⟨hg.w,hg.l⟩
 have gs:g1.site=g.next:=by rw[← hg1]
 have gn:g1.next=g.next+1:=by rw[← hg1]
 have gww:g1.w=g.w:=by rw[← hg1]
 have gl:(g1.locals.length:Int)=2:=by rw[gw.l];rfl
 have up:∀{r lo hi},GV g1 r lo hi->GV g r lo hi:=λh=>by rw[← hg1]at h;exact⟨h.w,h.l,h.n,h.p,h.s⟩
 have si:g.next≤g1.site/\g1.site<g.next+(1+B+E):=by rw[gs];omega
 -- one instruction
 have P:∀i:AW,s.Op∉[(2:Int),3,4,5,6,7,8]->LV g1.w g.next (g.next+(1+B+E)) (g1.out.length+1) ⟨i.Op,i.A,i.B,i.C,i.N,g1.site⟩->i.Op≠5->fE ((Az g1 i).bind λv=>some v) λr=>GV g r g.next (g.next+(1+B+E))/\r.next=g.next+(1+B+E):=by
  intro i h1 h2 h3
  have z1:=nB h1;have z2:=nE (by intro h;rw[h]at h1;simp at h1)
  exact pM (VU h2 h3) λr h=>⟨up h.1,by rw[h.2.2,gn];omega⟩
 have A:∀{a b c:Int},s.Op≠2->11≤a/\a≤25->11≤b/\b≤25->(∀p S,p=a∨p=b->Ad g1.w ⟨p,c,0,0,0,S⟩=some true)->fE ((Du R g1 s a b c).bind λv=>some v) λr=>GV g r g.next (g.next+(1+B+E))/\r.next=g.next+(1+B+E):=by
  intro a b c h2 ha hb ho
  have z2:=nE h2
  exact pB (around_par (lo:=g.next) (hi:=g.next+(1+B+E)) gw si (by omega) (by omega) (by omega) hB ha hb ho) λr h=>pR ⟨up h.1,by rw[h.2,gn];omega⟩
 have lk:g.w.AG=Xt:=hg.w.l
 have j1:∀b,(b=true->s.Op=2∨s.Op=3)->(b=false->s.Op≠1/\s.Op≠2/\s.Op≠3)->fE (Cc.J1 (DM R) (Du R) g s b) λr=>GV g r g.next (g.next+(1+B+E))/\r.next=g.next+(1+B+E):=by
  intro b hb hb0;unfold Cc.J1
  rw[hw,hg1]
  refine pI (λh=> ?_) λh0=> ?_
  . have ho:=hb h
    have he:Pr 2 s.Expr:=hs.2.2.1.resolve_right λh=>h.1 (by rcases ho with h|h<;>simp[h])
    exact pB (branches_par (lo:=g.next) (hi:=g.next+(1+B+E)) gw si (by omega) (by omega) (by omega) he hB hE (λh=>nE (by omega)) e0) λr h=>pR ⟨up h.1,by rw[h.2,gn];omega⟩
  have n0:=hb0 h0
  refine pI (λh=> ?_) λn4=>pI (λh=> ?_) λn5=>pI (λh=> ?_) λn6=>pI (λh=> ?_) λn7=>pI (λh=> ?_) λn8=> ?_
  . have h:=eq_of_beq h
    rw[lk]
    rcases nm.2.1 h with h1|h1<;>rw[h1]
    . exact pE (y:=0) (by decide +kernel) (A (by omega) (by omega) (by omega) λp S hp=>objM (by simp only;omega) (y:=⟨⟨#[109]⟩,false⟩) (by rw[gww,lk];rfl) rfl)
    . exact pE (y:=1) (by decide +kernel) (A (by omega) (by omega) (by omega) λp S hp=>objM (by simp only;omega) (y:=⟨⟨#[110]⟩,false⟩) (by rw[gww,lk];rfl) rfl)
  . have h:=eq_of_beq h
    rw[lk,nm.2.2.1 (.inl h)]
    exact pE (y:=2) (by decide +kernel) (A (by omega) (by omega) (by omega) λp S hp=>objR (by simp only;omega) (y:=⟨⟨#[114]⟩,true⟩) (by rw[gww,lk];rfl) rfl)
  . have h:=eq_of_beq h
    rw[lk,nm.2.2.1 (.inr h)]
    exact pE (y:=2) (by decide +kernel) (A (by omega) (by omega) (by omega) λp S hp=>objR (by simp only;omega) (y:=⟨⟨#[114]⟩,true⟩) (by rw[gww,lk];rfl) rfl)
  . have h:=eq_of_beq h
    exact A (by omega) (by omega) (by omega) λp S hp=>obj0 (by rcases hp with h|h<;>simp[h])
  . have h:=eq_of_beq h
    exact A (by omega) (by omega) (by omega) λp S hp=>obj0 (by rcases hp with h|h<;>simp[h])
  simp only[beq_eq_false_iff_ne,ne_eq]at n4 n5 n6 n7 n8
  have hno:s.Op∉[(2:Int),3,4,5,6,7,8]:=by simp;omega
  have nl:∀{p c e:Int},11≤p/\p≤25->Ad g1.w ⟨p,c,0,0,0,g1.site⟩=some true->LV g1.w g.next (g.next+(1+B+E)) (g1.out.length+1) ⟨p,c,0,0,0,g1.site⟩:=λh1 h2=>
   ⟨by simp only;omega,h2,by rw[rg0 (by simp only;omega)];simp,si,by simp only;omega,by simp only;omega⟩
  have hc:g1.w.Au=[⟨cN,0⟩]:=by rw[gww];exact hg.w.d
  have hcl:(g1.w.Au.length:Int)=1:=by rw[hc];rfl
  refine pI (λh=> ?_) λn9=>pI (λh=> ?_) λn10=>pI (λh=> ?_) λn11=>pI (λh=> ?_) λn12=>pI (λh=> ?_) λn13=>pI (λh=> ?_) λn14=>pI (λh=> ?_) λn15=> ?_
  . rw[hs.2.2.2.1 (by simp[eq_of_beq h])]
    exact pE (cond_eq hc) (P ⟨21,0,0,0,0,0⟩ hno (nl (e:=0) (by simp) (objC (.inl rfl) (by simp only;omega))) (by simp))
  . rw[hs.2.2.2.1 (by simp[eq_of_beq h])]
    exact pE (cond_eq hc) (P ⟨22,0,0,0,0,0⟩ hno (nl (e:=0) (by simp) (objC (.inr (.inl rfl)) (by simp only;omega))) (by simp))
  . rw[hs.2.2.2.1 (by simp[eq_of_beq h])]
    exact pE (cond_eq hc) (P ⟨23,0,0,0,0,0⟩ hno (nl (e:=0) (by simp) (objC (.inr (.inr rfl)) (by simp only;omega))) (by simp))
  . refine pB (At_par (by have:=hg.w.n;omega)) λv hv=> ?_
    have:=hv (hg.w.t _ (nm.2.2.2.1 (.inl (eq_of_beq h))))
    exact P ⟨24,v,0,0,0,0⟩ hno (nl (e:=0) (by simp) (objT (.inl rfl) (by simp only;rw[gww];exact this))) (by simp)
  . refine pB (At_par (by have:=hg.w.n;omega)) λv hv=> ?_
    have:=hv (hg.w.t _ (nm.2.2.2.1 (.inr (eq_of_beq h))))
    exact P ⟨25,v,0,0,0,0⟩ hno (nl (e:=0) (by simp) (objT (.inr rfl) (by simp only;rw[gww];exact this))) (by simp)
  . have h:=eq_of_beq h
    have he:Pr 2 s.Expr:=hs.2.2.1.resolve_right λq=>q.1 (by simp[h])
    have z1:=nB hno;have z2:=nE (by omega)
    rw[show(g.locals.length:Int)=2 from by rw[hg.l];rfl]
    refine pB (tA (lo:=g.next) (hi:=g.next+(1+B+E)) he gw si (by omega)) λv hv=> ?_
    have hf:v.w.AH=[⟨#[102]⟩]:=by rw[hv.1.w,gww];exact hg.w.f
    rw[hf,nm.2.2.2.2.1 h]
    refine pE (y:=0) (by decide +kernel) (pM (VU ⟨by simp,obj26 rfl (by rw[hf];simp),by rw[rg26 rfl];exact rB (x:=0) (by simp),by rw[hv.2.1];exact si,by simp,by simp⟩ (by simp)) λr h=>⟨up (hv.trans h).1,by rw[h.2.2,hv.2.2,gn];omega⟩)
  . have h:=eq_of_beq h
    have hn:=nm.2.2.2.2.2 h
    rw[hg.l,hg.w.f,hn.1,hn.2]
    refine pE (y:=0) (by decide +kernel) (pE (y:=0) (by decide +kernel) (P ⟨27,0,0,0,0,0⟩ hno ⟨by simp,obj27 rfl (by rw[gww,hg.w.f];simp),by rw[rg27 rfl];exact rB (x:=0) (by simp),si,by simp,by simp⟩ (by simp)))
  . have:=hs.1
    simp only[beq_eq_false_iff_ne,ne_eq]at n9 n10 n11 n12 n13 n14 n15
    omega
 refine pI (λh=> ?_) λn1=>pI (λh=>j1 _ (λ_=>.inl (eq_of_beq h)) λh'=>by rw[h']at h;cases h) λn2=>j1 _ (λh=>.inr (eq_of_beq h)) λh=>⟨by simpa using n1,by simpa using n2,by simpa using h⟩
 have h:=eq_of_beq h
 have z1:=nB (by rw[h];decide);have z2:=nE (by omega)
 exact pB (assign_par (lo:=g.next) (hi:=g.next+(1+B+E)) gw si hs h) λr h=>pR ⟨up h.1,by rw[h.2.2,gn];omega⟩
theorem stmts_par (d:Nat):∀(n:Nat) (l:List AK),3*d+1≤n->Qw T d l->BS T (DD n) l (Zr d l):=by
 induction d with
 |zero=>
  intro n l hn ⟨_,h⟩ g hg hx
  obtain⟨n,rfl⟩:∃k,n=k+1:=⟨n-1,by omega⟩
  have:l=[]:=List.eq_nil_iff_forall_not_mem.2 λx hx=>(h x hx).elim
  subst this
  show fE (some g) _
  exact pR ⟨GV.refl,by simp[Zr]⟩
 |succ d ih=>
  intro n l hn ⟨h1,h2⟩ g hg hx
  obtain⟨n,rfl⟩:∃k,n=k+3:=⟨n-3,by omega⟩
  show fE (B8 (Cc (DM (DD n)) (Du (DD n))) g l) _
  unfold B8
  let f:AK->Nat:=λs=>1+Zr d s.Body+Zr d s.Else
  have hz:Zr (d+1) l=(l.map f).sum:=rfl
  refine pLs l.length (λi s=>GV g s g.next (g.next+((l.take i).map f).sum)/\s.next=g.next+((l.take i).map f).sum) (F:=λm s i=>B8.Ac _ l m s i) (λ_ _=>rfl) (by omega) ⟨GV.refl,by simp⟩ λm i s hi hs k=> ?_
  obtain⟨s1,s2⟩:=hs
  unfold B8.Ac B8.L1
  refine pD (λhlt=>pE (DG (by omega)) ?_) λhge=> ?_
  . have st:=sum_take (l:=l) (i:=i) (by omega) f
    have hl2:=fI l (i+1) f
    have hx2:l[i]∈l:=List.getElem_mem (by omega)
    have hf:f l[i]=1+Zr d l[i].Body+Zr d l[i].Else:=rfl
    refine pB (stmt_par (hg.next s1) (h2 _ hx2) (by rw[s2];omega) (ih n _ (by omega) (h2 _ hx2).body) (ih n _ (by omega) (h2 _ hx2).tX) (λh=>by rw[h];exact szs_nil d) λh=>by rw[h];exact szs_nil d) λv hv=>k _ (by omega) ?_
    rw[s2]at hv
    refine⟨(s1.mono (by omega) (by omega)).trans (hv.1.mono (by omega) (by omega)),by rw[hv.2];omega⟩
  . have:i=l.length:=by omega
    subst this
    rw[List.take_length]at s1 s2
    exact pR ⟨s1,s2⟩
theorem rY {l:List AW} {a b:Nat} (hl:l.length≤8000000) (hb:b≤l.length):∀(n fuel i k m:Nat),Rr l a b n k m->Ev l m->n+i≤l.length->l.length+1<fuel+i->Ca.Ac l fuel k i=some true:=by
 intro n
 induction n with
 |zero=>
  intro fuel i k m r ⟨x,x1,x2⟩ h1 h2
  cases r
  obtain⟨fuel,rfl⟩:∃f,fuel=f+1:=⟨fuel-1,by omega⟩
  have hk:=(List.getElem?_eq_some_iff.1 x1).1
  unfold Ca.Ac Ca.L1 Ca.J1
  rw[BI (by omega),Ab (by omega),if_neg (by simp;omega),JM,x1,Option.bind_some,P5,x2]
  rfl
 |succ n ih=>
  intro fuel i k m ⟨hk,j,⟨x,x1,x2,x3⟩,r⟩ ev h1 h2
  obtain⟨fuel,rfl⟩:∃f,fuel=f+1:=⟨fuel-1,by omega⟩
  unfold Ca.Ac Ca.L1 Ca.J1 Ca.J2
  have hk:=(List.getElem?_eq_some_iff.1 x1).1
  rw[BI (by omega),Ab (by omega),if_neg (by simp;omega),JM,x1,Option.bind_some,P5,x2,Option.bind_some,A0 (by omega)]
  have:=ih fuel (i+1) j m r ev (by omega) (by omega)
  rcases x3 with⟨h5,hA⟩|⟨h5,rfl⟩
  . rw[if_neg (by simp),if_pos (by simpa using h5),hA];exact this
  . rw[if_neg (by simp),if_neg (by simpa using h5),A0 (by omega)];exact this
structure VO (w:AB) (t:Int) (c:Ak):Prop where
 r:2≤c.CN/\c.CN≤32
 n:∃out lo hi,c.B3=out++[⟨28,0,0,0,0, -1⟩]/\SG w lo hi out 0 out.length out.length/\(∀k,lo≤k->k<hi->∃y,gt w.BA k=some y/\y.Thread=t)
 g:∀x∈c.B3,∀y∈rg x,y<c.CN
theorem objE {w:AB} {x:AW} (h:x.Op=28):Ad w x=some true:=by
 simp[Ad,Ad.J3,Ad.J5,Ad.J7,Ad.J8,h]
theorem uP {w:AB} {t:Int} {c:Ak} (hc:c.B3.length≤8000000) (hv:VO w t c):AU w t c=some true:=by
 obtain⟨⟨r1,r2⟩,⟨out,lo,hi,o1,o2,o3⟩,hg⟩:=hv
 have hl:c.B3.length=out.length+1:=by rw[o1];simp
 have hb:=Bx
 -- an instruction
 have hi2:∀(i:Nat) x,c.B3[i]? =some x->(i<out.length/\out[i]? =some x)∨i=out.length/\x=⟨28,0,0,0,0, -1⟩:=by
  intro i x hx
  rw[o1]at hx
  by_cases h:i<out.length
  . rw[Z2 h]at hx;exact .inl ⟨h,hx⟩
  . have:=(List.getElem?_eq_some_iff.1 hx).1
    simp at this
    obtain rfl:i=out.length:=by omega
    rw[sZ]at hx;cases hx;exact .inr ⟨rfl,rfl⟩
 have hend:c.B3[out.length]? =some ⟨28,0,0,0,0, -1⟩:=by rw[o1];exact sZ
 have land:∀i:Nat,i<c.B3.length->Ca c.B3 (i:Int)=some true:=by
  intro i hi
  have fr:∀{n k m},Rr out 0 out.length n k m->Rr c.B3 0 out.length n k m:=λr=>r.frame (λj _ hj=>by rw[o1,Z2 hj]) (by omega) (by omega)
  have ee:Ev c.B3 out.length:=⟨_,hend,rfl⟩
  unfold Ca
  by_cases h:i<out.length
  . rcases o2.f i (by omega) h with⟨n,m,r,m1,⟨x,x1,x2⟩,hn⟩|⟨n,r,hn⟩
    . exact rY hc (by omega) n Bo 0 i m (fr r) ⟨x,by rw[o1,Z2 m1.2];exact x1,x2⟩ (by omega) (by omega)
    . exact rY hc (by omega) n Bo 0 i _ (fr r) ee (by omega) (by omega)
  . obtain rfl:i=out.length:=by omega
    exact rY (a:=0) (b:=0) hc (by omega) 0 Bo 0 _ _ rfl ee (by omega) (by omega)
 have key:B2 (AU w t c) λb=>b=true:=by
  unfold AU
  refine tD (λh=>by omega) λ_=>tD (λh=>by omega) λ_=> ?_
  rw[show((c.B3.length:Int)==0)=false from beq_eq_false_iff_ne.2 (by omega)]
  unfold AU.J1
  refine tI (λh=>by cases h) λ_=>My c.B3.length (λ_ (_:Unit)=>True) (s0:=()) (F:=λn _ i=>AU.Ac c t w n i) (by omega) trivial λn i _ hi _ k=> ?_
  unfold AU.Ac AU.L1 AU.J6
  refine tD (λhlt=>XS (by omega) ?_) λ_=>tR rfl
  have hx:c.B3[i]? =some c.B3[i]:=List.getElem?_eq_getElem (by omega)
  have hxm:c.B3[i]∈c.B3:=List.getElem_mem (by omega)
  generalize c.B3[i]=x at hx hxm
  have ln:Ca c.B3 (i:Int)=some true:=land i (by omega)
  have wl:BE ((c.B3.length:Int)-1)=out.length:=by rw[Ct (by omega) (by omega)];omega
  -- the registers
  have j4:B2 (AU.J4 (AU.Ac c t w n) c i x false) λb=>b=true:=by
   unfold AU.J4
   refine tI (λh=>by cases h) λ_=>tE (F8 x).1 (My (rg x).length (λ_ (_:Unit)=>True) (s0:=()) (F:=λn _ i=>AU.Da _ c _ (rg x) n i) (by have:=(F8 x).2;omega) trivial λm j _ hj _ k2=> ?_)
   unfold AU.Da AU.L2 AU.J5
   refine tD (λ_=>XS (by omega) ?_) λ_=>k () (by omega) trivial
   have hy:(rg x)[j]∈rg x:=List.getElem_mem (by omega)
   have h0:0≤(rg x)[j]:=by
    rcases hi2 i x hx with⟨h,h'⟩|⟨_,rfl⟩
    . exact((o2.i i x (by omega) h h').g _ hy).1
    . have:=List.length_pos_of_mem hy
      rw[rg0 (.inr (.inr rfl))]at this
      cases this
   exact tE (Vr ⟨h0,hg x hxm _ hy⟩) (tI (λh=>by cases h) λ_=>k2 () (by omega) trivial)
  rcases hi2 i x hx with⟨hlt2,h'⟩|⟨he,rfl⟩
  . have lv:=o2.i i x (by omega) hlt2 h'
    have lo':=lv.o
    have n28:x.Op≠28:=by omega
    refine tD (λh=>by omega) λ_=>tD (λh=>by omega) λ_=> ?_
    rw[wl,show(x.Op==28)=false from by simpa using n28,show((i:Int)==(out.length:Int))=false from by simp;omega]
    refine tI (λh=>by cases h) λ_=>tE lv.ob (tI (λh=>by cases h) λ_=>tE ln ?_)
    unfold AU.J2
    obtain⟨y,y1,y2⟩:=o3 _ lv.s.1 lv.s.2
    refine tI (λh=>by cases h) λ_=>tI (λh=>absurd (eq_of_beq h) n28) λ_=>tI (λ_=> ?_) λh=>by simp at h;omega
    refine tE (Vr (gt_in y1)) (tI (λh=>by cases h) λ_=>tE y1 ?_)
    rw[y2,show(t != t)=false from by simp]
    unfold AU.J3
    refine tI (λh=>by cases h) λ_=>tI (λh5=> ?_) λ_=>tI (λh10=> ?_) λ_=>j4
    . have:=lv.j (eq_of_beq h5)
      refine tE (Vr (by omega)) (tI (λh=>by cases h) λ_=>tI (λh10=> ?_) λ_=>j4)
      rw[eq_of_beq h5]at h10;cases h10
    . have:=lv.b (eq_of_beq h10)
      exact tE (Vr (by omega)) j4
  . refine tD (λh=>by simp at h) λ_=>tD (λh=>by simp at h) λ_=> ?_
    rw[wl,he]
    simp only[beq_self_eq_true,Bool.not_true]
    refine tI (λh=>by cases h) λ_=>tE (objE rfl) (tI (λh=>by cases h) λ_=>tE (he▸ln) ?_)
    rw[he]at j4
    unfold AU.J2 AU.J3
    refine tI (λh=>by cases h) λ_=>tI (λ_=>tI (λh=>by cases h) λ_=>tI (λh=>by cases h) λ_=>tI (λh=>by cases h) λ_=>tI (λh=>by cases h) λ_=>tI (λh=>by cases h) λ_=>j4) λh=>by cases h
 obtain⟨b,hb,rfl⟩:=key
 exact hb
end
section
theorem sitesS_in {nt:Nat} {i:Int} (hi:i<nt):∀(S:List DO) (m:Int) (R:List DO),SN i m S->Fj nt i m (S++R)=Fj nt i (m+S.length) R:=by
 intro S
 induction S with
 |nil=>intro m R _;simp
 |cons x r ih=>
  intro m R h
  obtain⟨h1,h2⟩:=h 0 x rfl
  have h3:SN i (m+1) r:=λj y hy=>by
   have:=h (j+1) y (by simpa using hy)
   exact⟨this.1,by rw[this.2];omega⟩
  rw[List.cons_append,Fj,if_neg (by omega),if_neg (by omega),ih _ _ h3,h2]
  simp only[List.length_cons]
  rw[show m+((0:Nat):Int)=m from by omega,show m+1+(r.length:Int)=m+((r.length+1:Nat):Int)from by omega]
  simp
theorem sitesS_blk {nt:Nat} {i t n:Int} (hi:i<nt) (h:t<i∨t=i/\n=0) {S:List DO} (hS:SN i 0 S):∃t' n',(t'<i+1∨t'=i+1/\n'=0)/\∀R,Fj nt t n (S++R)=Fj nt t' n' R:=by
 rcases h with h|⟨rfl,rfl⟩
 . cases S with
   |nil=>exact⟨t,n,.inl (by omega),λ_=>rfl⟩
   |cons x r=>
    obtain⟨h1,h2⟩:=hS 0 x rfl
    have h3:SN i 1 r:=λj y hy=>by
     have:=hS (j+1) y (by simpa using hy)
     exact⟨this.1,by rw[this.2];omega⟩
    refine⟨i,1+r.length,.inl (by omega),λR=> ?_⟩
    rw[List.cons_append,Fj,if_neg (by omega),if_pos (by omega),h1,sitesS_in hi _ _ _ h3,h2]
    simp
 . exact⟨t,0+S.length,.inl (by omega),λR=>sitesS_in hi _ _ _ hS⟩
def Zp (p:AL) (i:Nat):Nat:=((p.AA.take i).map λt=>Zr 4 t.Body).sum
theorem offP_succ {p:AL} {i:Nat} (h:i<p.AA.length):Zp p (i+1)=Zp p i+Zr 4 p.AA[i].Body:=sum_takeT h _
theorem offP_le {p:AL} (h:(p.AA.map λt=>Zr 4 t.Body).sum≤60) (i:Nat):Zp p i≤60:=by
 have:((p.AA.map λt=>Zr 4 t.Body)).sum=Zp p i+((p.AA.drop i).map λt=>Zr 4 t.Body).sum:=by
  conv=>lhs;rw[← List.take_append_drop i p.AA,List.map_append,List.sum_append]
  rfl
 omega
theorem offP_mono {p:AL} {i j:Nat} (h:i≤j):Zp p i≤Zp p j:=by
 have:Zp p j=Zp p i+(((p.AA.take j).drop i).map λt=>Zr 4 t.Body).sum:=by
  unfold Zp
  conv=>lhs;rw[← List.take_append_drop i (p.AA.take j),List.take_take,Nat.min_eq_left h,List.map_append,List.sum_append]
 omega
structure WV (p:AL) (N:Nat) (w:AB):Prop where
 c:w.Cells=Mx
 l:w.AG=Xt
 d:w.Au=[⟨cN,0⟩]
 f:w.AH=[⟨#[102]⟩]
 t:w.AA=(p.AA.take N).map (·.Name)
 n:w.BA.length=Zp p N
 o:∀j k,j<N->Zp p j≤k->k<Zp p (j+1)->∃y,w.BA[k]? =some y/\y.Thread=(j:Int)
 s:∃t n:Int,(t<N∨t=N/\n=0)/\∀R,Fj p.AA.length 0 0 (w.BA++R)=Fj p.AA.length t n R
theorem World_ok {p:AL} (h:MP p) (ho:∃l,BH p=some (0,l)) (h6:(p.AA.map λt=>Zr 4 t.Body).sum≤60):B2 (CI p) (WV p p.AA.length):=by
 obtain⟨l,ho⟩:=ho
 have ht:=h.t
 unfold CI
 refine tE ho (tI (λh=>by cases h) λ_=> ?_)
 have key:∀D T,Dz=some D->CI.Ac ⟨D,T⟩ Bo (AB.mk [] [] [] [] [] []) 0=CI.J4 ⟨D,T⟩ ⟨Mx,Xt,[⟨cN,0⟩],[⟨#[102]⟩],[],[]⟩:=by
  intro D T hD
  unfold Dz at hD
  obtain rfl:=Option.some.inj hD
  kernel_rfl
 rw[show CI.Ac p Bo (AB.mk [] [] [] [] [] []) 0=_ from key p.Decls p.AA h.d]
 unfold CI.J4
 show B2 (CI.Gx p Bo ⟨Mx,Xt,[⟨cN,0⟩],[⟨#[102]⟩],[],[]⟩ 0) _
 refine My p.AA.length (λi w=>WV p i w) (F:=λn s i=>CI.Gx _ n s i) (by omega) ⟨rfl,rfl,rfl,rfl,rfl,rfl,λj k h=>by omega,0,0,.inr ⟨rfl,rfl⟩,λ_=>rfl⟩ λn i w hi hw k=> ?_
 unfold CI.Gx CI.L3 CI.J5
 refine tD (λhlt=>XS (by omega) ?_) λhge=>tR ?_
 . have hlt:i<p.AA.length:=by omega
   have ho1:=offP_succ hlt
   have ho2:=offP_le h6 (i+1)
   have hn:=hw.n
   refine tC (Ba (by rw[hw.t];simp;omega)) (tB (sites_ok 4 _ _ _ _ _ (Lm (by omega)) (by omega) (by omega) (h.b _ (List.getElem_mem hlt))) λv hv=>k _ (by omega) ?_)
   obtain⟨S,v1,v2,v3,v4⟩:=hv
   obtain⟨t,m,t1,t2⟩:=hw.s
   obtain⟨t',m',u1,u2⟩:=sitesS_blk (nt:=p.AA.length) (i:=i) (by omega) t1 v3
   refine⟨hw.c,hw.l,hw.d,hw.f,?_,?_,?_,t',m',by omega,λR=> ?_⟩
   . simp only;rw[hw.t,← List.take_append_getElem hlt,List.map_append];rfl
   . simp only;rw[v1,List.length_append];omega
   . intro j q hj hk1 hk2
     simp only
     rw[v1]
     by_cases e:j<i
     . have:=offP_mono (p:=p) (show j+1≤i by omega)
       rw[List.getElem?_append_left (by omega)]
       exact hw.o j q e hk1 hk2
     . obtain rfl:j=i:=by omega
       rw[List.getElem?_append_right (by omega)]
       have hk:q-w.BA.length<S.length:=by omega
       exact⟨S[q-w.BA.length],List.getElem?_eq_getElem hk,(v3 _ _ (List.getElem?_eq_getElem hk)).1⟩
   . simp only
     rw[v1,List.append_assoc,t2,u2]
 . have:i=p.AA.length:=by omega
   rw[this]at hw;exact hw
theorem WV.names {p:AL} {w:AB} (hw:WV p p.AA.length w):w.AA=p.AA.map (·.Name):=by rw[hw.t,List.take_length]
theorem worldS_ok {p:AL} {w:AB} (h:MP p) (h6:(p.AA.map λt=>Zr 4 t.Body).sum≤60) (hw:WV p p.AA.length w):DZ w=true:=by
 obtain⟨n,n1,n2,nm⟩:=h.nm
 have e:=hw.names
 rw[nm]at e
 obtain⟨t,m,t1,t2⟩:=hw.s
 have hs:=t2 []
 rw[List.append_nil]at hs
 have hl:p.AA.length=w.AA.length:=by rw[hw.names,List.length_map]
 rw[hl]at hs
 have hn:=hw.n;have h60:=offP_le h6 p.AA.length
 have h1:=hw.c;have h2:=hw.l;have h3:=hw.d;have h4:=hw.f
 obtain⟨c,l,d,f,T,S⟩:=w
 simp only at h1 h2 h3 h4 e hn hs
 subst h1 h2 h3 h4
 have hc:AP Mx=some ([⟨#[120]⟩,⟨#[121]⟩,⟨#[118]⟩,qS],true):=by decide +kernel
 have hS:Fj T.length 0 0 S=true:=hs
 have hT:T=JW.take 1∨T=JW.take 2∨T=JW.take 3∨T=JW.take 4:=by
  have:n=1∨n=2∨n=3∨n=4:=by omega
  rcases this with rfl|rfl|rfl|rfl<;>simp[e]
 unfold DZ
 simp only[hc,hS]
 have hd:decide (S.length≤60)=true:=decide_eq_true (by omega)
 rw[hd]
 rcases hT with rfl|rfl|rfl|rfl<;>(show @Eq Bool _ true;kernel_rfl)
theorem compile_ok {p:AL} (h:MP p) (ho:∃l,BH p=some (0,l)):B2 (BC p) λr=>CK r.1/\CH r.1=some true:=by
 obtain⟨q,hq,h60⟩:=check60 h
 have h6:(p.AA.map λt=>Zr 4 t.Body).sum≤60:=by
  obtain⟨l,ho⟩:=ho
  rw[ho]at hq;cases hq;exact h60 rfl
 have ht:=h.t
 let Q:BB->Prop:=λc=>WV p p.AA.length c.World/\c.AA.length=p.AA.length/\∀(j:Nat) t,c.AA[j]? =some t->VO c.World j t
 have par:fE (BC p) λr=>Q r.1:=by
  obtain⟨l,ho'⟩:=ho
  unfold BC
  refine pE ho' (pI (λh=>by cases h) λ_=>pB (pA (pT (XP h ⟨l,ho'⟩)) (pT (World_ok h ⟨l,ho'⟩ h6))) λw hw=> ?_)
  obtain⟨mw,hw⟩:=hw
  have wf:WF (λs=>s∈p.AA.map (·.Name)) w:=⟨hw.c,hw.l,hw.d,hw.f,λs hs=>by rw[hw.names];exact hs,by rw[hw.names,List.length_map];exact ht⟩
  refine pLs p.AA.length (λi (s:BB×Int)=>s.1.World=w/\s.1.AA.length=i/\s.2=Zp p i/\∀(j:Nat) t,s.1.AA[j]? =some t->VO w j t) (F:=λn s i=>BC.Ac p n s.1 s.2 i) (s0:=(_,_)) (λ_ _=>rfl) (by omega) ⟨rfl,rfl,rfl,by simp⟩ λn i s hi hs k=> ?_
  obtain⟨s1,s2,s3,s4⟩:=hs
  unfold BC.Ac BC.L1 BC.J4
  refine pD (λhlt=>pE (DG (by omega)) ?_) λhge=>pR ⟨by simp only;rw[s1];exact hw,by simp only;omega,by simp only;rw[s1];exact s4⟩
  have hlt:i<p.AA.length:=by omega
  have hx:p.AA[i]∈p.AA:=List.getElem_mem hlt
  have ho1:=offP_succ hlt
  have ho2:=offP_le h6 (i+1)
  have hc:cg 4=336840:=rfl
  have g0:GB (Aw.mk s.1.World p.AA[i].EY [] 0 s.2) 4000000:=⟨by rw[s1];exact mw,h.l _ hx,by simp⟩
  refine pB (pA (pT (VA 4 _ _ _ (Lm (by omega)) (g0.less (by omega)) (h.b _ hx))) (stmts_par 4 _ _ (Lm (by omega)) (h.b _ hx) ⟨s.1.World,p.AA[i].EY,[],0,s.2⟩ ⟨by rw[s1];exact wf,h.lo _ hx⟩ (by simp only;omega))) λv hv=>pB (put_eq _) λu hu=> ?_
  obtain⟨v0,v1,v2⟩:=hv
  have v0:=v0.b
  simp only[List.length_nil]at v0
  have hl2:(u.locals.length:Int)=2:=by rw[hu];simp only;rw[v1.l];simp only;rw[h.lo _ hx];rfl
  have hout:u.out=v.out++[⟨28,0,0,0,0, -1⟩]:=by rw[hu]
  have sg:=v1.s
  simp only[List.length_nil,s1,s3]at sg
  have v2':v.next=Zp p (i+1):=by rw[v2];simp only;omega
  have rb:∀y∈u.out,∀r∈rg y,0≤r/\r<32:=by
   intro y hy r hr
   rw[hout]at hy
   rcases List.mem_append.1 hy with hy|hy
   . obtain⟨m,m1,m2⟩:=List.getElem_of_mem hy
     exact(sg.i m y (by omega) m1 (by rw[List.getElem?_eq_getElem m1,m2])).g r hr
   . rw[List.mem_singleton.1 hy,rg0 (.inr (.inr rfl))]at hr;cases hr
  rw[hl2]
  have hbig:u.out.length<1000000000000:=by rw[hout];simp;omega
  refine pLs u.out.length (λk (t:Ak)=>t.B3=u.out/\(2≤t.CN/\t.CN≤32)/\∀y∈u.out.take k,∀r∈rg y,r<t.CN) (F:=λn t k=>BC.Da _ _ _ _ _ n t k) (λ_ _=>rfl) hbig ⟨rfl,by simp,by simp⟩ λm q t hq2 ht2 k2=> ?_
  obtain⟨t1,t2,t3⟩:=ht2
  unfold BC.Da BC.L2 BC.J2 BC.J3
  refine pD (λhlt2=>pE (DG (by omega)) ?_) λhge2=>pC λ_=>k (_,_) (by omega) ⟨s1,by simp;omega,v2',?_⟩
  . have hy:u.out[q]∈u.out:=List.getElem_mem (by omega)
    have ry:=rb _ hy
    have hql:q<u.out.length:=by omega
    have tk:=List.take_append_getElem hql
    generalize u.out[q]=y at hy ry tk
    refine pE (F8 y).1 (pLs (rg y).length (λl (t:Ak)=>t.B3=u.out/\(2≤t.CN/\t.CN≤32)/\(∀y∈u.out.take q,∀r∈rg y,r<t.CN)/\∀r∈(rg y).take l,r<t.CN) (F:=λn t k=>BC.Gx _ _ _ n t k) (λ_ _=>rfl) (by have:=(F8 y).2;omega) ⟨t1,t2,t3,by simp⟩ λm3 q3 t' hq3 ht3 k3=> ?_)
    obtain⟨x1,x2,x3,x4⟩:=ht3
    unfold BC.Gx BC.L3 BC.J1
    refine pD (λhlt3=>pE (DG (by omega)) ?_) λhge3=>k2 _ hql ⟨x1,x2,λz hz r hr=> ?_⟩
    . have hr:(rg y)[q3]'(by omega)∈rg y:=List.getElem_mem (by omega)
      have hb:=ry _ hr
      have tk3:=List.take_append_getElem (show q3<(rg y).length by omega)
      generalize (rg y)[q3]'(by omega)=r at hr hb tk3
      rw[Ct (by omega) (by omega)]
      have hmax:∀z,(if r+1>t'.CN then r+1 else t'.CN)=z->t'.CN≤z/\r<z/\z≤32:=by
       intro z hz
       split at hz<;>omega
      generalize hz:(if r+1>t'.CN then r+1 else t'.CN)=z
      obtain⟨z1,z2,z3⟩:=hmax z hz
      refine k3 _ (by omega) ⟨x1,by simp only;omega,λy hy r hr=>by have:=x3 y hy r hr;simp only;omega,?_⟩
      rw[← tk3]
      intro a ha
      rcases List.mem_append.1 ha with ha|ha
      . have:=x4 a ha;simp only;omega
      . rw[List.mem_singleton.1 ha];exact z2
    . rw[← tk]at hz
      rcases List.mem_append.1 hz with hz|hz
      . exact x3 z hz r hr
      . rw[List.mem_singleton.1 hz]at hr
        rw[List.take_of_length_le (by omega)]at x4
        exact x4 r hr
  . intro j t' ht'
    simp only at ht'
    by_cases hj:j<s.1.AA.length
    . rw[List.getElem?_append_left hj]at ht';exact s4 j t' ht'
    . have:=(List.getElem?_eq_some_iff.1 ht').1
      simp at this
      obtain rfl:j=s.1.AA.length:=by omega
      rw[show(s.1.AA++[t])[s.1.AA.length]? =some t from by simp]at ht'
      obtain rfl:=Option.some.inj ht'
      rw[s2]
      rw[List.take_of_length_le (by omega)]at t3
      refine⟨t2,⟨v.out,_,_,by rw[t1,hout],sg,λk k1 k2=> ?_⟩,by rw[t1];exact t3⟩
      obtain⟨k,rfl⟩:∃m:Nat,k=m:=⟨k.toNat,by omega⟩
      rw[JM]
      exact hw.o i k hlt (by omega) (by omega)
 obtain⟨r,hr,hck⟩:=Uz h
 refine⟨r,hr,hck,?_⟩
 obtain⟨q1,q2,q3⟩:=par r hr
 have hl:r.1.AA.length=r.1.World.AA.length:=by rw[q2,q1.names,List.length_map]
 have hn:=hck.n
 have key:B2 (CH r.1) λb=>b=true:=by
  unfold CH
  refine tE (Nh _) ?_
  rw[worldS_ok h h6 q1]
  refine tI (λh=>by cases h) λ_=> ?_
  rw[hl,show((r.1.World.AA.length:Int) != r.1.World.AA.length)=false from by simp]
  unfold CH.J1
  refine tI (λh=>by cases h) λ_=>My r.1.AA.length (λ_ (_:Unit)=>True) (s0:=()) (F:=λn _ i=>CH.Ac r.1 n i) (by omega) trivial λn i _ hi _ k=> ?_
  unfold CH.Ac CH.L1 CH.J2
  refine tD (λhlt=>XS (by omega) ?_) λ_=>tR rfl
  refine tE (uP (hck.i _ (List.getElem_mem (by omega))) (q3 i _ (List.getElem?_eq_getElem (by omega)))) (tI (λh=>by cases h) λ_=>k () (by omega) trivial)
 obtain⟨b,hb,rfl⟩:=key
 exact hb
end
theorem Code_ok {l:List Int} (hl:l.length≤1000) (hu:∀x∈l,0≤x/\x<256):B2 (I4 l) λc=>CK c/\CH c=some true:=by
 unfold I4
 exact tB (UZ hl hu) λp hp=>tB (compile_ok hp.1 hp.2) λc hc=>tR hc
theorem Trace_wf {p s:List Int} (hp:p.length≤1000) (hu:∀x∈p,0≤x/\x<256) (hs:s.length≤1000):B2 (IL p s) λt=>TA s.length t/\DZ t.World=true:=by
 unfold IL
 refine tB (Code_ok hp hu) λc hc=>tB (US hs) λl hl=>tB (tP (Run_ok hc.1 (by omega)) (Q:=λr=>DZ r.1.World=true) ?_) λr hr=>tR ⟨⟨⟨by have:=hr.1.m.n;omega,hr.1.m.e,hr.1.m.w⟩,hr.1.c⟩,hr.2⟩
 obtain⟨v,h1,h2⟩:=OJ hc.1
 rw[hc.2]at h1
 have hv:=h2 (Option.some.inj h1).symm
 unfold Ix
 exact pE hc.2 (pI (λh=>by cases h) λ_=>pB' λ_=>pB' λ_=>pR hv.w)
theorem Check_ok {n:Nat} {t:EJ} (ht:TA n t) (hn:n≤400) (hw:DZ t.World=true):Rw t=(0,0):=by
 have:=ht.m.n
 unfold Rw
 rw[if_neg (by omega),if_pos hw,ht.c]
theorem Runs_tot {p s:List Int} (hp:∀x∈p,0≤x/\x<256):B2 (Hc p s) λb=>b=true:=by
 have j1:∀b,(b=false->p.length≤200/\s.length≤200)->B2 (Hc.J1 p s b) λb=>b=true:=by
  intro b hb;unfold Hc.J1 Hc.J2
  refine tI (λ_=>tR rfl) λh0=> ?_
  obtain⟨h1,h2⟩:=hb h0
  refine tB (Trace_wf (by omega) hp (by omega)) λt ht=>tE ((Zo t λe he=>(ht.1.m.e e he).ok).trans (congrArg some (Check_ok ht.1 (by omega) ht.2))) ?_
  exact tI (λ_=>tI (λ_=>tE Um (tR rfl)) λh=>by cases h) λh=>by cases h
 unfold Hc
 exact tD (λ_=>j1 _ λh=>by cases h) λh=>j1 _ λh2=>by have:=of_decide_eq_false h2;omega
end Go.Abs
namespace Go.Abs
open Go.Proofs Go.RowKit
set_option maxRecDepth 100000
set_option maxHeartbeats 4000000
theorem Vb {α:Type} {e:α->List AV} {ok:α->Prop}:∀(rows:List (List AV)),(∀row∈rows,∃x:α,row=e x/\ok x)->∃l:List α,rows=l.map e/\∀x∈l,ok x
 |[],_=>⟨[],rfl,λ_ h=>by simp at h⟩
 |r::rs,h=>by
  obtain⟨l,hl,ho⟩:=Vb rs (λrow hr=>h row (by simp[hr]))
  obtain⟨x,hx,hxo⟩:=h r (by simp)
  refine⟨x::l,by rw[hx,hl];rfl,λy hy=> ?_⟩
  rcases List.mem_cons.1 hy with rfl|hy
  . exact hxo
  . exact ho y hy
def JB (x:Int):Prop:=(Lit.int .u8 x).wf=true
structure Kc (x:List Int):Prop where
 len:x.length*1≤reachBytes
 all:∀y∈x,JB y
theorem op5:Jp Tryz.prog 5 (λavs=>∃x:Int,avs=[.sc (.int .u8 x)]/\JB x):=(UO Tryz.underlying5).mono λ_ ⟨n,h,hw⟩=>⟨n,h,hw⟩
theorem uK:Jp Tryz.prog 22 (λavs=>∃x:List Int,avs=[.sl false 1 (x.map UN)]/\Kc x):=by
 refine(VR (k:=1) Tryz.underlying22 (by kernel_rfl) (by omega) op5).mono ?_
 rintro avs ⟨rows,rfl,hr,hb⟩
 obtain⟨l,rfl,hl⟩:=Vb (e:=UN) (ok:=JB) rows λrow h=>(hr row h).1
 have hby:Tryz.prog.bytesOf 5=1:=by kernel_rfl
 rw[hby,List.length_map]at hb
 exact⟨l,rfl,hb,hl⟩
theorem kR (a:AV):OM Tryz.prog 22 [a]=a:=by unfold OM;rw[Tryz.underlying22];rfl
theorem laid:laidOutB Tryz.prog=true:=by kernel_rfl
theorem own0:ownKnob Tryz.prog.godebug=none:=by kernel_rfl
abbrev VM:List (String×DataW Unit):=[("interleave/token.keywords",Go.Proofs.YtkpdblcoclbgbaaGreatDoor.Rows.laid_interleave_token_keywords)]
theorem qZ:Tryz.prog.globalNamed "interleave/token.keywords" =some 0:=by kernel_rfl
theorem gType:(Tryz.prog.globals[0]?).map (·.type)=some 204:=by kernel_rfl
theorem ZD:(Go.Proofs.YtkpdblcoclbgbaaGreatDoor.Rows.laid_interleave_token_keywords:DataW Unit)= .agg (Ho.map λs=>.lit (.string s.data.toList)):=rfl
theorem Wp {W:World} (h:laidMetH Tryz.prog VM W):GI W (Old W):=by
 rw[MakeChecks.laidMetH_plain _ _ _ (by kernel_rfl)]at h
 obtain⟨ps,⟨g0,t0,cs0,f0,p0,q0,hg0,ht0,hv0,hd0,_,_⟩,_,_⟩:=h
 obtain rfl:=Option.some.inj (qZ.symm.trans hg0)
 obtain rfl:=Option.some.inj (gType.symm.trans ht0)
 obtain⟨xs,m,rfl,hx,hlen,hn,hel⟩:=DataW.trod_array Tryz.underlying204 hd0
 have ce:Tryz.prog.cellsOf 9=1:=by kernel_rfl
 rw[ZD]at hx
 simp only[Prod.mk.injEq,DataW.agg.injEq]at hx
 have hcell:∀(j:Nat) s,Ho[j]? =some s->W.cell? ⟨0,j,none⟩=some (.string s):=by
  intro j s hj
  have hjn:j<22:=by
   have:=(List.getElem?_eq_some_iff.1 hj).1
   exact this
  have hxj:(xs.map (·.1))[j]? =some (.lit (.string s.data.toList)):=by rw[← hx.1,List.getElem?_map,hj];rfl
  rw[List.getElem?_map]at hxj
  cases hxs:xs[j]? with
  |none=>rw[hxs]at hxj;cases hxj
  |some y=>
   have ht:=hel j hjn
   rw[hxs,ce]at ht
   obtain⟨s',hs',hy,_⟩:=DataW.trod_string Tryz.underlying9 ht
   rw[hxs]at hxj
   simp only[Option.map_some,Option.some.injEq]at hxj
   rw[hy]at hxj
   simp only[DataW.lit.injEq,Lit.string.injEq]at hxj
   have hss:s'=s:=ByteArray.ext (Array.toList_inj.1 hxj)
   subst hss
   rw[World.var?_cell qZ hv0 j]
   have:(cs0.toList.drop (j*1)).take 1=[.string s']:=hs'
   rw[Nat.mul_one]at this
   have h0:cs0.toList[j]? =some (.string s'):=by
    have h1:((cs0.toList.drop j).take 1)[0]? =some (.string s'):=by rw[this];rfl
    simpa using h1
   simpa using h0
 intro x hxm
 have:x=(0,Ho.map Value.string):=by simpa[Gam]using hxm
 subst this
 have h0:=hcell 0 _ rfl
 obtain⟨_,hlt⟩:=Xe h0
 refine⟨hlt,?_⟩
 unfold World.cell? at h0
 cases hb:W.heap[0]? with
 |none=>simp[hb]at h0
 |some blk=>
  cases blk with
  |cells arr E fz=>
   refine⟨arr,E,fz,rfl,λj v hj=> ?_⟩
   rw[List.getElem?_map]at hj
   cases hs:Ho[j]? with
   |none=>rw[hs]at hj;cases hj
   |some s=>
    rw[hs]at hj
    simp only[Option.map_some,Option.some.injEq]at hj
    subst hj
    have:=hcell j s hs
    unfold World.cell? at this
    simpa[hb]using this
  |_=>simp[hb]at h0
end Go.Abs
namespace Go.Abs
theorem fB {o:Option Bool} (h:B2 o λb=>b=true):o=some true:=by
 obtain⟨b,h,rfl⟩:=h;exact h
theorem rC {x:Int} (h:JB x):0≤x/\x<256:=by
 unfold JB Lit.wf at h
 simp only[Bool.and_eq_true,decide_eq_true_eq]at h
 have h1:=h.1;have h2:=h.2
 have e1:IntKind.u8.min=0:=rfl
 have e2:IntKind.u8.max=255:=rfl
 omega
theorem Runs_law {p s:List Int} (hp:Kc p):Hc p s=some true:=fB (Runs_tot λx hx=>rC (hp.all x hx))
end Go.Abs
