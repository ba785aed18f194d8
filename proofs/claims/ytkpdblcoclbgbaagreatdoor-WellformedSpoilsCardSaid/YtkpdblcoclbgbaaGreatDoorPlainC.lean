/- What the typed programs give, in plain Lean. -/
import Derived.Test.YtkpdblcoclbgbaaGreatDoorPlainB
import Derived.Test.YtkpdblcoclbgbaaGreatDoorWalkN
import Derived.Test.YtkpdblcoclbgbaaGreatDoorWalkS
import Derived.Test.YtkpdblcoclbgbaaGreatDoorWalkU
import Derived.Test.YtkpdblcoclbgbaaGreatDoorWalkV
import Derived.Test.YtkpdblcoclbgbaaGreatDoorWalkW
import Derived.Test.YtkpdblcoclbgbaaGreatDoorWalkE1
import Derived.Test.YtkpdblcoclbgbaaGreatDoorWalkO
import Derived.Test.YtkpdblcoclbgbaaGreatDoorWalkP
import Derived.Test.YtkpdblcoclbgbaaGreatDoorWalkG
import Derived.Test.YtkpdblcoclbgbaaGreatDoorWalkJ
import Derived.Test.YtkpdblcoclbgbaaGreatDoorWalkA
import Derived.Test.YtkpdblcoclbgbaaGreatDoorWalkK
import Derived.Test.YtkpdblcoclbgbaaGreatDoorWalkM
import Derived.Test.YtkpdblcoclbgbaaGreatDoorCoreD
import Derived.Test.YtkpdblcoclbgbaaGreatDoorBaseA
import Derived.Test.YtkpdblcoclbgbaaGreatDoorRows
import Derived.Test.YtkpdblcoclbgbaaGreatDoorTie
import Derived.ProofKit
import Derived.LaidMore
import Derived.OpenShut
import Derived.Test.YtkpdblcoclbgbaaGreatDoorWalkB1
import Derived.Test.YtkpdblcoclbgbaaGreatDoorWalkC1
import Derived.Shelf.Slices.SearchI
set_option linter.unusedSimpArgs false
set_option linter.unusedVariables false
namespace Go.Abs
set_option maxHeartbeats 4000000
def SI (N:Nat) (s:AZ):Prop:=RB N s.Sync/\∀t∈s.AA,TH N t
theorem TH.mono {E F:Nat} {t:AE} (h:TH E t) (hf:E≤F):TH F t:=⟨h.r,h.t,h.b,h.e.1,by have:=h.e.2;omega⟩
theorem Z5 {E:Nat} {s:AZ} (h:∀t∈s.AA,TH E t) (hE:E≤100000) (hf:P4 s.Sync) (hc:s.Cells.length≤1000) (hu:s.AH.length≤1000) (ht:s.AA.length≤1000):D7 s=some s:=by
 have key:B2 (D7 s) λr=>r=s:=by
  unfold D7
  refine tE (XU _ hf) (tC (Ba (by omega)) (tC (Ba (by omega)) (My s.AA.length (λi o=>o=⟨s.Sync,s.Cells,s.AH,s.AA.take i⟩) (F:=λn o i=>D7.Ac s n o i) (by omega) rfl λn i o hi ho k=> ?_)))
  subst ho
  unfold D7.Ac D7.L1 D7.J1
  refine tD (λ_=>XS (by omega) ?_) λ_=>tR (by rw[List.take_of_length_le (by omega)])
  exact tE (UU (h _ (List.getElem_mem (by omega))) hE) (tC (Ba (by simp;omega)) (k _ (by omega) (by rw[List.take_append_getElem])))
 obtain⟨r,h1,rfl⟩:=key
 exact h1
structure SR (c:BB) (s:AZ) (ch:CC) (s':AZ) (e:AN):Prop where
 p:PE c s ch.Thread e
 en:Di c.World s.Sync ch.Thread e.Kind e.Obj=true
 sy:s'.Sync=(FR c.World s.Sync ch.Thread e.Kind e.Obj ch.QG).1
 va:(e.Kind=3->gt s.Cells e.Obj=some e.Value)/\(e.Kind=23->gt s.AH e.Obj=some e.Value)/\(e.Kind=5->e.Value=0∨e.Value=1)/\(e.Kind≠3->e.Kind≠23->e.Kind≠5->e.Kind≠4->e.Kind≠22->e.Value=(FR c.World s.Sync ch.Thread e.Kind e.Obj ch.QG).2)
 ce:s'.Cells=if e.Kind=4 then s.Cells.set e.Obj.toNat e.Value else s.Cells
 fu:s'.AH=if e.Kind=22 then s.AH.set e.Obj.toNat e.Value else s.AH
 th:∃x x',s.AA[ch.Thread.toNat]? =some x/\s'.AA=s.AA.set ch.Thread.toNat x'/\(e.Kind=16->x'.PC=x.PC)/\(x'=MA∨x'.AX=x.AX+1/\∀l∈x'.Bt,∀k∈l,(∃m∈x.Bt,k∈m)∨k=x.AX/\(e.Kind=3∨e.Kind=23))
theorem YE {E:Nat} {c:BB} (hc:CK c) {s:AZ} (hs:SI E s) (hE:E≤10000) (ch:CC):B2 (CL c s ch) λr=>r.2.2=true->(SI (E+1) r.1/\Vz r.2.1)/\SR c s ch r.1 r.2.1:=by
 obtain⟨hr,hs⟩:=hs
 have N:∀{x y} {P:AZ×AN×Bool->Prop},B2 (some (x,y,false)) λr:AZ×AN×Bool=>r.2.2=true->P r:=tR λh=>by cases h
 unfold CL
 refine tB (UY hc hs (by omega) ch.Thread) λv hv=>tI (λ_=>N) λh=> ?_
 have hv:=hv (by simpa using h)
 obtain⟨hf,ht,hl,hh,hi⟩:=hv
 have hw:=Fm hf.v.w
 have w1:=hw.c;have w2:=hw.f;have w3:=hw.t;have c1:=hf.c';have c2:=hf.u;have c3:=hf.n;have c4:=hf.v.n
 refine tE (O2 _ hw _ (hr.mono (by omega)) _ _ _ _) (tI (λ_=>N) λh2=> ?_)
 have hen:Di c.World s.Sync ch.Thread v.1.Kind v.1.Obj=true:=by
  cases he:Di c.World s.Sync ch.Thread v.1.Kind v.1.Obj with
  |true=>rfl
  |false=>simp[KC,he]at h2
 have ha:DT c.World v.1.Kind v.1.Obj=true:=by
  have hen:=hen
  unfold Di at hen
  simp only[Bool.and_eq_true]at hen
  exact hen.2.2.1
 have hap:KC c.World s.Sync ch.Thread v.1.Kind v.1.Obj ch.QG=((FR c.World s.Sync ch.Thread v.1.Kind v.1.Obj ch.QG).1,(FR c.World s.Sync ch.Thread v.1.Kind v.1.Obj ch.QG).2,true):=by simp[KC,hen]
 rw[hap]
 have hR:=hr.apply c.World ch.Thread v.1.Kind v.1.Obj ch.QG
 refine tE (Z5 hs (by omega) (P4.of hw hf.f (hr.mono (by omega))) (by omega) (by omega) (by omega)) ?_
 obtain⟨x,x1,x2,x3⟩:=Fl (l:=s.AA) (i:=ch.Thread) (by omega)
 obtain⟨y,y1,y2,y3⟩:=Fl (l:=c.AA) (i:=ch.Thread) (by omega)
 obtain⟨p1,p2,p3⟩:=hf.t _ x y x2 y2
 obtain⟨z,z1,z2,z3⟩:=Fl (l:=y.B3) (i:=x.PC) (by omega)
 obtain⟨q,q1,q2,q3⟩:=Fl (l:=s.Sync.AA) (i:=ch.Thread) (by have:=(Gq hf.f).2.2;omega)
 have iA:=(hi x y z q x2 y2 z2 q2).a;have iB:=(hi x y z q x2 y2 z2 q2).b
 have hx:=hs x x3
 refine tE x1 (tE y1 (tE z1 ?_))
 have hpe:∀val,PE c s ch.Thread ⟨v.1.Thread,v.1.Kind,v.1.Obj,val,v.1.Site,v.1.Dy,v.1.Db⟩:=λval=>⟨hf,ht,hl,hh,λx y z q a b c d=>by
  have h:=hi x y z q a b c d
  exact⟨h.a,h.b,h.d,h.r,h.s⟩⟩
 generalize hapv:FR c.World s.Sync ch.Thread v.1.Kind v.1.Obj ch.QG=ap at hR ⊢
 let VAC:Int->List Int->List Int->Prop:=λval C F=>((v.1.Kind=3->gt s.Cells v.1.Obj=some val)/\(v.1.Kind=23->gt s.AH v.1.Obj=some val)/\(v.1.Kind=5->val=0∨val=1)/\(v.1.Kind≠3->v.1.Kind≠23->v.1.Kind≠5->v.1.Kind≠4->v.1.Kind≠22->val=ap.2))/\C=(if v.1.Kind=4 then s.Cells.set v.1.Obj.toNat val else s.Cells)/\F=(if v.1.Kind=22 then s.AH.set v.1.Obj.toNat val else s.AH)
 let TX:AE->Prop:=λt=>t=MA∨t.AX=x.AX+1/\∀l∈t.Bt,∀k∈l,(∃m∈x.Bt,k∈m)∨k=x.AX/\(v.1.Kind=3∨v.1.Kind=23)
 have j6:∀val C F t,VAC val C F->TX t->(v.1.Kind=16->t.PC=x.PC)->TH (E+1) t->B2 (CL.J6 ch ⟨v.1.Thread,v.1.Kind,v.1.Obj,val,v.1.Site,v.1.Dy,v.1.Db⟩ C F (ap.1,ap.2,true) s t) λr=>r.2.2=true->(SI (E+1) r.1/\Vz r.2.1)/\SR c s ch r.1 r.2.1:=by
  intro val C F t h1 h2 h3 h4;unfold CL.J6
  refine tE x1 (tR λ_=>⟨⟨⟨hR,?_⟩,hl⟩,hpe val,hen,by rw[hapv],?_,h1.2.1,h1.2.2,x,t,x2,rfl,h3,h2⟩)
  . intro q hq
    rcases List.mem_or_eq_of_mem_set hq with hq|rfl
    . exact(hs q hq).mono (by omega)
    . exact h4
  . rw[hapv];exact h1.1
 have e1:BE (x.AX+1)=x.AX+1:=by have:=hx.e;exact Ct (by omega) (by omega)
 have j5:∀val n C F t b,VAC val C F->(v.1.Kind=16->n=x.PC/\b=false)->t.AX=x.AX->(∀l∈t.Bt,∀k∈l,(∃m∈x.Bt,k∈m)∨k=x.AX/\(v.1.Kind=3∨v.1.Kind=23))->TH (E+1) ⟨0,t.CN,t.Bt,BE (t.AX+1)⟩->
  B2 (CL.J5 c ch ⟨v.1.Thread,v.1.Kind,v.1.Obj,val,v.1.Site,v.1.Dy,v.1.Db⟩ n C F t (ap.1,ap.2,true) s b) λr=>r.2.2=true->(SI (E+1) r.1/\Vz r.2.1)/\SR c s ch r.1 r.2.1:=by
  intro val n C F t b h1 hn he hP h2;unfold CL.J5
  have h3:∀n,TH (E+1) ⟨n,t.CN,t.Bt,BE (t.AX+1)⟩:=λn=>⟨h2.r,h2.t,h2.b,h2.e⟩
  refine tI (λhb=>tE y1 (tB (V6 (h3 n) hP (by omega) (hc.i y y3)) λu hu=>j6 _ _ _ _ h1 ?_ (λh=>by rw[(hn h).2]at hb;cases hb) hu.1)) λ_=>j6 _ _ _ _ h1 (.inr ⟨by rw[he,e1],hP⟩) (λh=>(hn h).1) (h3 n)
  exact hu.2.imp id λh=>⟨by rw[h.1,he,e1],h.2⟩
 have j3:∀val n C F b,VAC val C F->(v.1.Kind=16->n=x.PC)->(b=true->(v.1.Kind=3∨v.1.Kind=23))->B2 (CL.J3 c ch ⟨v.1.Thread,v.1.Kind,v.1.Obj,val,v.1.Site,v.1.Dy,v.1.Db⟩ n C F (ap.1,ap.2,true) s x z b) λr=>r.2.2=true->(SI (E+1) r.1/\Vz r.2.1)/\SR c s ch r.1 r.2.1:=by
  intro val n C F b h1 hn h2;unfold CL.J3 CL.J4
  have he:=hx.e
  have k16:∀{t},(∀l∈t.Bt,∀k∈l,(∃m∈x.Bt,k∈m)∨k=x.AX/\(v.1.Kind=3∨v.1.Kind=23))->t.AX=x.AX->TH (E+1) ⟨0,t.CN,t.Bt,BE (t.AX+1)⟩->B2 (if(v.1.Kind != 16)=true then CL.J5 c ch ⟨v.1.Thread,v.1.Kind,v.1.Obj,val,v.1.Site,v.1.Dy,v.1.Db⟩ n C F t (ap.1,ap.2,true) s (v.1.Kind != 2)else CL.J5 c ch ⟨v.1.Thread,v.1.Kind,v.1.Obj,val,v.1.Site,v.1.Dy,v.1.Db⟩ n C F t (ap.1,ap.2,true) s false) λr=>r.2.2=true->(SI (E+1) r.1/\Vz r.2.1)/\SR c s ch r.1 r.2.1:=λhP he hT=>
   tI (λh=>j5 _ _ _ _ _ _ h1 (λh'=>by rw[h']at h;cases h) he hP hT) λ_=>j5 _ _ _ _ _ _ h1 (λh=>⟨hn h,rfl⟩) he hP hT
  refine tI (λhb=> ?_) λ_=> ?_
  . have h2:=h2 hb
    have hA:=iA (by omega)
    refine tG (by omega) λ_ _=>tG (by omega) λ_ _=>k16 ?_ rfl ?_
    . intro l hl k hk
      rcases List.mem_or_eq_of_mem_set hl with hl|rfl
      . exact .inl ⟨l,hl,hk⟩
      . exact .inr ⟨List.mem_singleton.1 hk,h2⟩
    . simp only[e1]
      refine⟨by simpa using hx.r,by simpa using hx.t,?_,by simp only;omega⟩
      intro q hq
      rcases List.mem_or_eq_of_mem_set hq with hq|rfl
      . exact(hx.b q hq).mono (by simp only;omega)
      . exact⟨by simp,by simp;omega⟩
  . refine k16 (λl hl k hk=>.inl ⟨l,hl,hk⟩) rfl ?_
    simp only[e1]
    exact⟨hx.r,hx.t,λq hq=>(hx.b q hq).mono (by simp only;omega),by simp only;omega⟩
 have j2:∀C F val n,VAC val C F->(v.1.Kind=16->n=x.PC)->B2 (CL.J2 c ch (ap.1,ap.2,true) s x z C F ⟨v.1.Thread,v.1.Kind,v.1.Obj,val,v.1.Site,v.1.Dy,v.1.Db⟩ n) λr=>r.2.2=true->(SI (E+1) r.1/\Vz r.2.1)/\SR c s ch r.1 r.2.1:=by
  intro C F val n h1 hn;unfold CL.J2
  exact tI (λh=>j3 _ _ _ _ _ h1 hn λ_=>.inl (eq_of_beq h)) λ_=>j3 _ _ _ _ _ h1 hn λh=>.inr (eq_of_beq h)
 have j1:∀b,(b=true->v.1.Kind=1∨v.1.Kind=16∨v.1.Kind=2)->(b=false->v.1.Kind≠16)->B2 (CL.J1 c ch v (ap.1,ap.2,true) s x z b) λr=>r.2.2=true->(SI (E+1) r.1/\Vz r.2.1)/\SR c s ch r.1 r.2.1:=by
  intro b hb hb2;unfold CL.J1
  refine tI (λh=>j2 _ _ _ _ ⟨⟨by have:=hb h;omega,by have:=hb h;omega,by have:=hb h;omega,λ_ _ _ _ _=>rfl⟩,by rw[if_neg (by have:=hb h;omega)],by rw[if_neg (by have:=hb h;omega)]⟩ λ_=>rfl) λh0=>tI (λh=> ?_) λn3=>tI (λh=> ?_) λn23=>tI (λh=> ?_) λn4=>tI (λh=> ?_) λn22=>tI (λh=> ?_) λn5=> ?_
  . have h:=eq_of_beq h
    have:=EX.1 (show Fe v.1.Obj c.World.Cells.length=true by simpa[DT,h]using ha)
    obtain⟨d,d1,_⟩:=Fl (l:=s.Cells) (i:=v.1.Obj) (by omega)
    exact tE d1 (j2 _ _ _ _ ⟨⟨λ_=>d1,by omega,by omega,by omega⟩,by rw[if_neg (by omega)],by rw[if_neg (by omega)]⟩ (by omega))
  . have h:=eq_of_beq h
    have:=EX.1 (show Fe v.1.Obj c.World.AH.length=true by simpa[DT,h]using ha)
    obtain⟨d,d1,_⟩:=Fl (l:=s.AH) (i:=v.1.Obj) (by omega)
    exact tE d1 (j2 _ _ _ _ ⟨⟨by omega,λ_=>d1,by omega,by omega⟩,by rw[if_neg (by omega)],by rw[if_neg (by omega)]⟩ (by omega))
  . have h:=eq_of_beq h
    have:=EX.1 (show Fe v.1.Obj c.World.Cells.length=true by simpa[DT,h]using ha)
    have hb:=iB (.inl h)
    exact tG (by omega) λ_ _=>tG (by omega) λ_ _=>j2 _ _ _ _ ⟨⟨by omega,by omega,by omega,by omega⟩,by rw[if_pos h],by rw[if_neg (by omega)]⟩ (by omega)
  . have h:=eq_of_beq h
    have:=EX.1 (show Fe v.1.Obj c.World.AH.length=true by simpa[DT,h]using ha)
    have hb:=iB (.inr h)
    exact tG (by omega) λ_ _=>tG (by omega) λ_ _=>j2 _ _ _ _ ⟨⟨by omega,by omega,by omega,by omega⟩,by rw[if_neg (by omega)],by rw[if_pos h]⟩ (by omega)
  . have h:=eq_of_beq h
    have hb:=iA (.inr (.inr h))
    exact tG (by omega) λ_ _=>tI (λ_=>j2 _ _ _ _ ⟨⟨by omega,by omega,λ_=>.inl rfl,by omega⟩,by rw[if_neg (by omega)],by rw[if_neg (by omega)]⟩ (by omega)) λ_=>j2 _ _ _ _ ⟨⟨by omega,by omega,λ_=>.inr rfl,by omega⟩,by rw[if_neg (by omega)],by rw[if_neg (by omega)]⟩ (by omega)
  . simp only[beq_eq_false_iff_ne,ne_eq]at n3 n23 n4 n22 n5
    exact j2 _ _ _ _ ⟨⟨λh=>absurd h n3,λh=>absurd h n23,λh=>absurd h n5,λ_ _ _ _ _=>rfl⟩,by rw[if_neg n4],by rw[if_neg n22]⟩ λh=>absurd h (hb2 h0)
 exact tI (λh=>j1 _ (λ_=>.inl (eq_of_beq h)) λh'=>by rw[h']at h;cases h) λ_=>tI (λh=>j1 _ (λ_=>.inr (.inl (eq_of_beq h))) λh'=>by rw[h']at h;cases h) λn16=>j1 _ (λh=>.inr (.inr (eq_of_beq h))) λ_=>by simpa using n16
theorem from_tot {c:BB} (hc:CK c) {s:AZ} (hs:SI 0 s) {l:List CC} (hl:l.length≤1000):B2 (Dr c s [] l) λr=>r.1.length≤l.length/\∀e∈r.1,Vz e:=by
 unfold Dr
 refine My l.length (λi (s:List AN×AZ)=>SI i s.2/\s.1.length≤i/\∀e∈s.1,Vz e) (F:=λn s i=>Dr.Ac c l n s.1 s.2 i) (s0:=([],s)) (by omega) ⟨hs,by simp,by simp⟩ λn i s hi hs k=> ?_
 obtain⟨s1,s2,s3⟩:=hs
 have up:SI (i+1) s.2:=⟨s1.1.mono (by omega),λt ht=>(s1.2 t ht).mono (by omega)⟩
 unfold Dr.Ac Dr.L1 Dr.J1 Dr.J2 Dr.J3
 refine tD (λ_=>tI (λ_=>tG (by omega) λx _=> ?_) λ_=>tR ⟨by simp only;omega,s3⟩) λ_=>tI (λh=>by cases h) λ_=>tR ⟨by simp only;omega,s3⟩
 refine tB (YE hc s1 (by omega) x) λv hv=>tI (λh=>tC (Ba (by omega)) (k (_,_) (by omega) ⟨(hv h).1.1,by simp;omega,?_⟩)) λ_=>k (_,_) (by omega) ⟨up,by simp only;omega,s3⟩
 intro e he
 rcases List.mem_append.1 he with he|he
 . exact s3 e he
 . rw[List.mem_singleton.1 he];exact(hv h).1.2
structure TM (n:Nat) (t:EJ):Prop where
 n:t.AX.length≤n
 e:∀e∈t.AX,Vz e
 w:t.AX≠[]->DZ t.World=true
theorem Run_tot {c:BB} (hc:CK c) {l:List CC} (hl:l.length≤1000):B2 (Ix c l) λr=>TM l.length r.1:=by
 unfold Ix
 refine tB (OJ hc) λv hv=>tI (λ_=>tR ⟨by simp,by simp,λh=>absurd rfl h⟩) λh=>tB (rF hc) λs hs=>tB (from_tot hc hs hl) λr hr=>tR ⟨hr.1,hr.2,λ_=>(hv (by simpa using h)).w⟩
theorem tK {p s:List Int} (hp:p.length≤1000) (hu:∀x∈p,0≤x/\x<256) (hs:s.length≤1000):B2 (IL p s) (TM s.length):=by
 unfold IL
 exact tB (kO hp hu) λc hc=>tB (US hs) λl hl=>tB (Run_tot hc (by omega)) λr hr=>tR ⟨by have:=hr.n;omega,hr.e,hr.w⟩
theorem Vz.ok {e:AN} (h:Vz e):UP e:=⟨by have:=h.1;omega,by have:=h.2;omega⟩
theorem Spoils.J2 {t:EJ} (h:∀e∈t.AX,UP e):B2 (GG.J2 t) λb=>b=true:=by
 unfold GG.J2 GG.J3
 exact tE (Zo t h) (tE (rCheck_eq t h) (tI (λ_=>tI (λ_=>tE Um (tR rfl)) λh=>by simp at h) λh=>by simp at h))
theorem Spoils_tot {p s:List Int} {a f n:Int} (hp:∀x∈p,0≤x/\x<256) (ha:0≤a/\a<256):B2 (GG p s a f n) λb=>b=true:=by
 have j1:∀b,(b=false->p.length≤200/\s.length≤100)->B2 (GG.J1 a f n p s b) λb=>b=true:=by
  intro b hb;unfold GG.J1
  refine tI (λ_=>tR rfl) λh0=> ?_
  obtain⟨h1,h2⟩:=hb h0
  refine tB (tK (by omega) hp (by omega)) λt ht=>tI (λ_=>tE Um (tR rfl)) λhz=> ?_
  have hn:=ht.n
  have hz:0<t.AX.length:=by simp at hz;exact List.length_pos_iff.2 hz
  rw[Ct (n:=a) (by omega) (by omega)]
  have i0:=Int.tmod_nonneg (t.AX.length:Int) ha.1
  have i1:=Int.tmod_lt_of_pos a (show(0:Int)<t.AX.length by omega)
  generalize a.tmod (t.AX.length:Int)=i at i0 i1 ⊢
  rw[Ct (n:=i+1) (by omega) (by omega)]
  refine tC (by omega) (tG (by omega) λx hx=> ?_)
  have ex:=ht.e x hx
  have S:∀y,Vz y->∀e∈t.AX.set i.toNat y,UP e:=by
   intro y hy e he
   rcases List.mem_or_eq_of_mem_set he with he|rfl
   . exact(ht.e e he).ok
   . exact hy.ok
  obtain⟨x1,x2⟩:=ex
  repeat' first
   |exact Spoils.J2 (S _ ⟨x1,x2⟩)
   |refine tC (Ba (by omega)) ?_
   |refine tI (λ_=> ?_) λ_=> ?_
  . refine Spoils.J2 ?_
    intro e he
    rcases List.mem_or_eq_of_mem_set he with he|rfl
    . exact(ht.e e he).ok
    . exact⟨by simp;omega,by simp only;omega⟩
  . refine Spoils.J2 ?_
    intro e he
    rcases List.mem_or_eq_of_mem_set he with he|rfl
    . exact(ht.e e he).ok
    . exact⟨by simp only;omega,by simp;omega⟩
  . refine tC (by omega) (tC (by omega) (tC (Ba (by simp;omega)) (tC (by omega) (tC (by omega) (tC (Ba (by simp;omega)) (Spoils.J2 ?_))))))
    intro e he
    rcases List.mem_append.1 he with he|he
    . exact(ht.e e (List.mem_of_mem_take he)).ok
    . exact(ht.e e (List.mem_of_mem_drop (List.mem_of_mem_take he))).ok
 unfold GG
 exact tD (λ_=>j1 _ λh=>by cases h) λh=>j1 _ λh2=>by have:=of_decide_eq_false h2;omega
def Acc (wv:AB) (l:List AN) (S:AM):Prop:=∀r,Gf wv [] (Kt wv) (l++r)=Gf wv l S r
theorem Acc.step {wv:AB} {l:List AN} {S:AM} (h:Acc wv l S) {e:AN} (h1:MD wv S e=true) (h2:Ob l e=true):Acc wv (l++[e]) (KY wv S e):=by
 intro r
 rw[List.append_assoc,h,List.singleton_append,Gf,h1,h2]
 rfl
section
variable {T:ByteArray->Prop}
def Zr:Nat->List AK->Nat
 |0,_=>0
 |d+1,l=>(l.map λs=>1+Zr d s.Body+Zr d s.Else).sum
def SN (t nv:Int) (l:List DO):Prop:=∀(j:Nat) x,l[j]? =some x->x.Thread=t/\x.Stmt=nv+j
theorem SN.app {t nv:Int} {a b:List DO} (h:SN t nv a) (g:SN t (nv+a.length) b):SN t nv (a++b):=by
 intro j x hx
 by_cases hj:j<a.length
 . rw[List.getElem?_append_left hj]at hx;exact h j x hx
 . rw[List.getElem?_append_right (by omega)]at hx
   have:=g _ x hx
   exact⟨this.1,by rw[this.2];omega⟩
theorem SN.one {t nv l:Int}:SN t nv [⟨t,nv,l⟩]:=by
 intro j x hx
 cases j with
 |zero=>simp at hx;subst hx;exact⟨rfl,by simp⟩
 |succ j=>simp at hx
end
section
def Zp (p:AL) (i:Nat):Nat:=((p.AA.take i).map λt=>Zr 4 t.Body).sum
structure WV (p:AL) (N:Nat) (w:AB):Prop where
 c:w.Cells=Mx
 l:w.AG=Xt
 d:w.Au=[⟨cN,0⟩]
 f:w.AH=[⟨#[102]⟩]
 t:w.AA=(p.AA.take N).map (·.Name)
 n:w.BA.length=Zp p N
 o:∀j k,j<N->Zp p j≤k->k<Zp p (j+1)->∃y,w.BA[k]? =some y/\y.Thread=(j:Int)
 s:∃t n:Int,(t<N∨t=N/\n=0)/\∀R,Fj p.AA.length 0 0 (w.BA++R)=Fj p.AA.length t n R
theorem WV.names {p:AL} {w:AB} (hw:WV p p.AA.length w):w.AA=p.AA.map (·.Name):=by rw[hw.t,List.take_length]
end
end Go.Abs
namespace Go.Abs
open Go.Proofs Go.RowKit
set_option maxRecDepth 100000
set_option maxHeartbeats 4000000
theorem Vb {α:Type} {e:α->List AV} {ok:α->Prop}:∀(rows:List (List AV)),(∀row∈rows,∃x:α,row=e x/\ok x)->∃l:List α,rows=l.map e/\∀x∈l,ok x
 |[],_=>⟨[],rfl,λ_ h=>by simp at h⟩
 |r::rs,h=>by
  obtain⟨l,hl,ho⟩:=Vb rs (λrow hr=>h row (by simp[hr]))
  obtain⟨x,hx,hxo⟩:=h r (by simp)
  refine⟨x::l,by rw[hx,hl];rfl,λy hy=> ?_⟩
  rcases List.mem_cons.1 hy with rfl|hy
  . exact hxo
  . exact ho y hy
def JB (x:Int):Prop:=(Lit.int .u8 x).wf=true
structure Kc (x:List Int):Prop where
 len:x.length*1≤reachBytes
 all:∀y∈x,JB y
theorem op5:Jp Tryz.prog 5 (λavs=>∃x:Int,avs=[.sc (.int .u8 x)]/\JB x):=(UO Tryz.underlying5).mono λ_ ⟨n,h,hw⟩=>⟨n,h,hw⟩
theorem arg5 (a:AV):OM Tryz.prog 5 [a]=a:=by unfold OM;rw[Tryz.underlying5];rfl
theorem uK:Jp Tryz.prog 22 (λavs=>∃x:List Int,avs=[.sl false 1 (x.map UN)]/\Kc x):=by
 refine(VR (k:=1) Tryz.underlying22 (by kernel_rfl) (by omega) op5).mono ?_
 rintro avs ⟨rows,rfl,hr,hb⟩
 obtain⟨l,rfl,hl⟩:=Vb (e:=UN) (ok:=JB) rows λrow h=>(hr row h).1
 have hby:Tryz.prog.bytesOf 5=1:=by kernel_rfl
 rw[hby,List.length_map]at hb
 exact⟨l,rfl,hb,hl⟩
theorem kR (a:AV):OM Tryz.prog 22 [a]=a:=by unfold OM;rw[Tryz.underlying22];rfl
def okI_i8 (x:Int):Prop:=(Lit.int .i8 x).wf=true
theorem op39:Jp Tryz.prog 39 (λavs=>∃x:Int,avs=[.sc (.int .i8 x)]/\okI_i8 x):=(UO Tryz.underlying39).mono λ_ ⟨n,h,hw⟩=>⟨n,h,hw⟩
theorem arg39 (a:AV):OM Tryz.prog 39 [a]=a:=by unfold OM;rw[Tryz.underlying39];rfl
theorem laid:laidOutB Tryz.prog=true:=by kernel_rfl
theorem own0:ownKnob Tryz.prog.godebug=none:=by kernel_rfl
abbrev VM:List (String×DataW Unit):=[("interleave/token.keywords",Go.Proofs.YtkpdblcoclbgbaaGreatDoor.Rows.laid_interleave_token_keywords)]
theorem qZ:Tryz.prog.globalNamed "interleave/token.keywords" =some 0:=by kernel_rfl
theorem gType:(Tryz.prog.globals[0]?).map (·.type)=some 204:=by kernel_rfl
theorem ZD:(Go.Proofs.YtkpdblcoclbgbaaGreatDoor.Rows.laid_interleave_token_keywords:DataW Unit)= .agg (Ho.map λs=>.lit (.string s.data.toList)):=rfl
theorem Wp {W:World} (h:laidMetH Tryz.prog VM W):GI W (Old W):=by
 rw[MakeChecks.laidMetH_plain _ _ _ (by kernel_rfl)]at h
 obtain⟨ps,⟨g0,t0,cs0,f0,p0,q0,hg0,ht0,hv0,hd0,_,_⟩,_,_⟩:=h
 obtain rfl:=Option.some.inj (qZ.symm.trans hg0)
 obtain rfl:=Option.some.inj (gType.symm.trans ht0)
 obtain⟨xs,m,rfl,hx,hlen,hn,hel⟩:=DataW.trod_array Tryz.underlying204 hd0
 have ce:Tryz.prog.cellsOf 9=1:=by kernel_rfl
 rw[ZD]at hx
 simp only[Prod.mk.injEq,DataW.agg.injEq]at hx
 have hcell:∀(j:Nat) s,Ho[j]? =some s->W.cell? ⟨0,j,none⟩=some (.string s):=by
  intro j s hj
  have hjn:j<22:=by
   have:=(List.getElem?_eq_some_iff.1 hj).1
   exact this
  have hxj:(xs.map (·.1))[j]? =some (.lit (.string s.data.toList)):=by rw[← hx.1,List.getElem?_map,hj];rfl
  rw[List.getElem?_map]at hxj
  cases hxs:xs[j]? with
  |none=>rw[hxs]at hxj;cases hxj
  |some y=>
   have ht:=hel j hjn
   rw[hxs,ce]at ht
   obtain⟨s',hs',hy,_⟩:=DataW.trod_string Tryz.underlying9 ht
   rw[hxs]at hxj
   simp only[Option.map_some,Option.some.injEq]at hxj
   rw[hy]at hxj
   simp only[DataW.lit.injEq,Lit.string.injEq]at hxj
   have hss:s'=s:=ByteArray.ext (Array.toList_inj.1 hxj)
   subst hss
   rw[World.var?_cell qZ hv0 j]
   have:(cs0.toList.drop (j*1)).take 1=[.string s']:=hs'
   rw[Nat.mul_one]at this
   have h0:cs0.toList[j]? =some (.string s'):=by
    have h1:((cs0.toList.drop j).take 1)[0]? =some (.string s'):=by rw[this];rfl
    simpa using h1
   simpa using h0
 intro x hxm
 have:x=(0,Ho.map Value.string):=by simpa[Gam]using hxm
 subst this
 have h0:=hcell 0 _ rfl
 obtain⟨_,hlt⟩:=Xe h0
 refine⟨hlt,?_⟩
 unfold World.cell? at h0
 cases hb:W.heap[0]? with
 |none=>simp[hb]at h0
 |some blk=>
  cases blk with
  |cells arr E fz=>
   refine⟨arr,E,fz,rfl,λj v hj=> ?_⟩
   rw[List.getElem?_map]at hj
   cases hs:Ho[j]? with
   |none=>rw[hs]at hj;cases hj
   |some s=>
    rw[hs]at hj
    simp only[Option.map_some,Option.some.injEq]at hj
    subst hj
    have:=hcell j s hs
    unfold World.cell? at this
    simpa[hb]using this
  |_=>simp[hb]at h0
end Go.Abs
namespace Go.Abs
theorem fB {o:Option Bool} (h:B2 o λb=>b=true):o=some true:=by
 obtain⟨b,h,rfl⟩:=h;exact h
theorem rC {x:Int} (h:JB x):0≤x/\x<256:=by
 unfold JB Lit.wf at h
 simp only[Bool.and_eq_true,decide_eq_true_eq]at h
 have h1:=h.1;have h2:=h.2
 have e1:IntKind.u8.min=0:=rfl
 have e2:IntKind.u8.max=255:=rfl
 omega
theorem Spoils_law {p s:List Int} {a f n:Int} (hp:Kc p) (ha:JB a):GG p s a f n=some true:=fB (Spoils_tot (λx hx=>rC (hp.all x hx)) (rC ha))
end Go.Abs
