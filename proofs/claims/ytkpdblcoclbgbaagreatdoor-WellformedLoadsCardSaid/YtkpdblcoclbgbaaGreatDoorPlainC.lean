/- What the typed programs give, in plain Lean. -/
import Derived.Test.YtkpdblcoclbgbaaGreatDoorPlainB
import Derived.Test.YtkpdblcoclbgbaaGreatDoorWalkO
import Derived.Test.YtkpdblcoclbgbaaGreatDoorWalkP
import Derived.Test.YtkpdblcoclbgbaaGreatDoorWalkU
import Derived.Test.YtkpdblcoclbgbaaGreatDoorWalkV
import Derived.Test.YtkpdblcoclbgbaaGreatDoorWalkW
import Derived.Test.YtkpdblcoclbgbaaGreatDoorWalkG
import Derived.Test.YtkpdblcoclbgbaaGreatDoorWalkJ
import Derived.Test.YtkpdblcoclbgbaaGreatDoorWalkC1
import Derived.Test.YtkpdblcoclbgbaaGreatDoorWalkA
import Derived.Test.YtkpdblcoclbgbaaGreatDoorWalkK
import Derived.Test.YtkpdblcoclbgbaaGreatDoorWalkM
import Derived.Test.YtkpdblcoclbgbaaGreatDoorWalkS
import Derived.Test.YtkpdblcoclbgbaaGreatDoorCoreD
import Derived.Test.YtkpdblcoclbgbaaGreatDoorBaseA
import Derived.Test.YtkpdblcoclbgbaaGreatDoorRows
import Derived.Test.YtkpdblcoclbgbaaGreatDoorTie
import Derived.ProofKit
import Derived.LaidMore
import Derived.OpenShut
import Derived.Test.YtkpdblcoclbgbaaGreatDoorWalkB1
import Derived.Shelf.Slices.SearchI
set_option linter.unusedSimpArgs false
set_option linter.unusedVariables false
namespace Go.Abs
set_option maxHeartbeats 4000000
theorem nums_of {c:Int} (D:List Int):∀last:Int,D.Pairwise (· < ·)->(∀k∈D,last<k/\k<c)->HG c last D=true:=by
 induction D with
 |nil=>exactλ_ _ _=>rfl
 |cons x r ih=>
  intro last h1 h2
  obtain⟨p1,p2⟩:=List.pairwise_cons.1 h1
  have hx:=h2 x List.mem_cons_self
  unfold HG
  simp only[Bool.and_eq_true,decide_eq_true_eq]
  exact⟨hx.1,hx.2,ih x p2 λk hk=>⟨p1 k hk,(h2 k (List.mem_cons_of_mem _ hk)).2⟩⟩
theorem isIn_app {l:List Bool} {b:Bool} {k:Int} (h:LB l k=true):LB (l++[b]) k=true:=by
 unfold LB at h ⊢
 simp only[Bool.and_eq_true]at h ⊢
 have hi:=EX.1 h.1
 refine⟨EX.2 (by simp;omega),?_⟩
 have:=h.2
 unfold ix at this ⊢
 rw[List.getElem?_append_left (by omega)]
 exact this
theorem uB {l:List Bool}:LB (l++[true]) (l.length:Int)=true:=by
 unfold LB
 simp only[Bool.and_eq_true]
 exact⟨EX.2 (by simp;omega),by unfold ix;simp⟩
structure GT (pre:List AN) (u:Int) (cnt:Int) (x:AE):Prop where
 c:cnt=x.AX
 n:x.AX=((SX pre u).length:Int)
 k:∀l∈x.Bt,∀k∈l,LB (SX pre u) k=true/\1≤k
structure LK (c:BB) (pre:List AN) (S:AM) (s:AZ):Prop where
 y:S.Sync=s.Sync
 ce:S.Cells=s.Cells
 f:S.AH=s.AH
 n:S.Count.length=c.World.AA.length
 t:∀(u:Nat) x y,s.AA[u]? =some x->c.AA[u]? =some y->y.CN=0∨x=MA∨GT pre u (ix S.Count u) x
 w:∀(u:Nat) x y q,s.AA[u]? =some x->c.AA[u]? =some y->s.Sync.AA[u]? =some q->q.Status=3∨q.Status=4->∃z,gt y.B3 x.PC=some z/\z.Op=21
 e:∀(u:Nat) x q,s.AA[u]? =some x->s.Sync.AA[u]? =some q->2≤q.Status->x=MA∨1≤x.AX
theorem u6 {wv:AB} {s:AO} {t k o wake:Int} (h18:k≠18) (h19:k≠19):(FR wv s t k o wake).2=0:=by
 have key:∀(P:Prop) [Decidable P] (a b:AO×Int),a.2=0->b.2=0->(if P then a else b).2=0:=λP _ a b ha hb=>by
  by_cases h:P
  . rw[if_pos h];exact ha
  . rw[if_neg h];exact hb
 unfold FR
 rw[if_neg h18,if_neg h19]
 repeat' first|rfl|apply key
theorem sim {E:Nat} {c:BB} {s s':AZ} {ch:CC} {e:AN} {pre:List AN} {S:AM} (hE:E≤10000) (hs:SI E s) (hl:LK c pre S s) (hr:SR c s ch s' e):
 MD c.World S e=true/\Ob pre e=true/\LK c (pre++[e]) (KY c.World S e) s':=by
 obtain⟨hp,hen,hsy,hva,hce,hfu,x,x',x2,hth,h16,hx'⟩:=hr
 obtain⟨hf,ht,_,hh,hi⟩:=hp
 have c1:=hf.c';have c2:=hf.u;have c3:=hf.n;have c4:=hf.v.n
 have l3:=(Gq hf.f).2.2
 obtain⟨y,_,y2,_⟩:=Fl (l:=c.AA) (i:=ch.Thread) (by omega)
 obtain⟨p1,p2,p3⟩:=hf.t _ x y x2 y2
 obtain⟨z,z1,z2,z3⟩:=Fl (l:=y.B3) (i:=x.PC) (by omega)
 obtain⟨q,_,q2,_⟩:=Fl (l:=s.Sync.AA) (i:=ch.Thread) (by omega)
 have hpi:=hi x y z q x2 y2 z2 q2
 have hz:=(hf.v.t _ y y2).i z z3
 have hx:=hs.2 x (List.mem_of_getElem? x2)
 have hcast:((ch.Thread.toNat:Nat):Int)=ch.Thread:=by omega
 -- a thread with registers shows what its trace shows
 have hgt:y.CN=0∨GT pre ch.Thread (ix S.Count ch.Thread) x:=by
  rcases hl.t _ x y x2 y2 with h|h|h
  . exact .inl h
  . rw[h]at p2;exact .inl p2.symm
  . rw[hcast]at h;exact .inr h
 have hD:∀D,D=[]∨D∈x.Bt->HG (ix S.Count e.Thread) 0 D=true/\D.all (LB (SX pre e.Thread))=true:=by
  rintro D (rfl|hD)
  . exact⟨rfl,rfl⟩
  . rcases hgt with h|h
    . have:x.Bt.length=0:=by omega
      rw[List.length_eq_zero_iff.1 this]at hD;cases hD
    . rw[hh]
      refine⟨nums_of D 0 (hx.b D hD).1 λk hk=>⟨by have:=(h.k D hD k hk).2;omega,?_⟩,List.all_eq_true.2 λk hk=>(h.k D hD k hk).1⟩
      rw[h.c];exact((hx.b D hD).2 k hk).2
 have hdp:=hD e.Dy (hpi.d.imp id λh=>h.1)
 have hfr:=hD e.Db (hpi.r.imp id λh=>h.1)
 have ha:DT c.World e.Kind e.Obj=true:=by
  have hen:=hen
  unfold Di at hen
  simp only[Bool.and_eq_true]at hen
  exact hen.2.2.1
 have hpl:MB c.World e=true:=by
  unfold MB
  have site:z.Op≠28->e.Site=z.Site->(Fe e.Site c.World.BA.length&&(ix c.World.BA e.Site).Thread==e.Thread)=true:=by
   intro h1 h2
   have hs:=hz.s
   unfold TP at hs
   rw[if_neg h1,hcast]at hs
   obtain⟨b,b1,b2⟩:=hs
   have hb:=b1
   unfold gt at hb
   split at hb
   . have:=(List.getElem?_eq_some_iff.1 hb).1
     rw[h2,fO b1,b2,hh]
     simp only[Bool.and_eq_true,beq_self_eq_true,and_true]
     exact EX.2 (by omega)
   . cases hb
  rcases hpi.s with⟨k1,k2⟩|⟨⟨q4,k17⟩|⟨q2',k2,n1,n17,k16⟩,hsite⟩
  . rw[if_pos (.inl k1),k2];rfl
  . obtain⟨z',b1,b2⟩:=hl.w _ x y q x2 y2 q2 (.inr q4)
    rw[z1]at b1
    obtain rfl:=Option.some.inj b1
    rw[if_neg (by omega)]
    exact site (by omega) hsite
  . by_cases h2:e.Kind=2
    . have hs:=hz.s
      unfold TP at hs
      rw[if_pos (k2.1 h2)]at hs
      rw[if_pos (.inr h2),hsite,hs];rfl
    . rw[if_neg (by omega)]
      exact site (λh=>h2 (k2.2 h)) hsite
 have hdet:Fk c.World S e=true:=by
  unfold Fk
  rw[hdp.1,hfr.1]
  simp only[Bool.and_true,Bool.and_eq_true,Bool.or_eq_true]
  refine⟨hpi.d.imp (λh=>by rw[h];rfl) λh=>h.2.imp (λh=>by rw[h];rfl) λh=> ?_,hpi.r.imp (λh=>by rw[h];rfl) λh=>h.2.imp (λh=>by rw[h];rfl) λh=>by rw[h];rfl⟩
  unfold QY
  rw[if_pos h.1]
  simpa using h.2
 have hval:IV S e=true:=by
  unfold IV
  rw[hl.ce,hl.f,hl.y]
  obtain⟨v1,v2,v3,v4⟩:=hva
  by_cases k3:e.Kind=3
  . rw[if_pos k3,fO (v1 k3)];simp
  rw[if_neg k3]
  by_cases k23:e.Kind=23
  . rw[if_pos k23,fO (v2 k23)];simp
  rw[if_neg k23]
  by_cases k5:e.Kind=5
  . rw[if_pos k5]
    rcases v3 k5 with h|h<;>rw[h]<;>rfl
  rw[if_neg k5]
  by_cases k4:e.Kind=4∨e.Kind=22
  . rw[if_pos k4]
  rw[if_neg k4]
  have hv:=v4 k3 k23 k5 (by omega) (by omega)
  by_cases k18:e.Kind=18
  . rw[if_pos k18]
    have:e.Value=Eu ch.QG (CP e.Obj 0 s.Sync.AA):=by rw[hv,k18];simp[FR]
    by_cases hW:CP e.Obj 0 s.Sync.AA=[]
    . rw[this,hW];rfl
    . have hm:=Tl (wake:=ch.QG) hW
      rw[← this]at hm
      simp only[Bool.or_eq_true]
      exact .inl (by simpa using hm)
  rw[if_neg k18]
  by_cases k19:e.Kind=19
  . rw[if_pos k19,hv,k19];simp[FR]
  rw[if_neg k19,hv]
  simp[u6 k18 k19]
 have hposs:MD c.World S e=true:=by
  unfold MD P3
  rw[hl.y,hl.ce,hl.f,hf.f,hh,hen,hpl,hdet,hval,hl.n,c1,c2]
  simp only[beq_self_eq_true,Bool.and_true,Bool.true_and]
  exact EX.2 (by omega)
 have hreads:Ob pre e=true:=by unfold Ob;rw[hdp.2,hfr.2];rfl
 refine⟨hposs,hreads,?_⟩
 have hsy':(KY c.World S e).Sync=s'.Sync:=by
  show(FR c.World S.Sync e.Thread e.Kind e.Obj (if e.Kind=18 then e.Value else -1)).1=_
  rw[hl.y,hsy,hh]
  by_cases k18:e.Kind=18
  . have hv:=hva.2.2.2 (by omega) (by omega) (by omega) (by omega) (by omega)
    have:=aL c.World s.Sync ch.Thread e.Kind e.Obj ch.QG
    rw[if_pos k18]at this ⊢
    rw[hv];exact this
  . have:=aL c.World s.Sync ch.Thread e.Kind e.Obj ch.QG
    rw[if_neg k18]at this ⊢
    exact this
 have hthr:∀(u:Nat) a,s'.AA[u]? =some a->(u:Int)=ch.Thread/\a=x'∨(u:Int)≠ch.Thread/\s.AA[u]? =some a:=by
  intro u a ha
  rw[hth]at ha
  by_cases hu:(u:Int)=ch.Thread
  . rw[show ch.Thread.toNat=u from by omega,List.getElem?_set_self (by omega)]at ha
    exact .inl ⟨hu,(Option.some.inj ha).symm⟩
  . rw[List.getElem?_set_ne (by omega)]at ha
    exact .inr ⟨hu,ha⟩
 have hcnt:∀u:Nat,ix (KY c.World S e).Count (u:Int)=if(u:Int)=ch.Thread then BE (ix S.Count ch.Thread+1)else ix S.Count u:=by
  intro u
  show ix (S.Count.set e.Thread.toNat (BE (ix S.Count e.Thread+1))) u=_
  rw[hh]
  by_cases hu:(u:Int)=ch.Thread
  . rw[if_pos hu]
    have hlt:u<S.Count.length:=by rw[hl.n];omega
    rw[show ch.Thread.toNat=u from by omega]
    unfold ix
    simp[hlt]
  . rw[if_neg hu]
    unfold ix
    rw[List.getElem?_set_ne (by omega)]
 have hrd:∀u:Int,SX (pre++[e]) u=if ch.Thread=u then SX pre u++[fK e]else SX pre u:=λu=>by rw[T4,hh]
 have hst:∀(u:Nat) b,s'.Sync.AA[u]? =some b->((u:Int)=ch.Thread->e.Kind=16∨b.Status=2∨b.Status=5)/\((u:Int)≠ch.Thread->b.Status=1∨∃q,s.Sync.AA[u]? =some q/\(b=q∨q.Status=3/\b.Status=4)):=by
  intro u b hb
  rw[hsy]at hb
  exact sT hen hb
 refine⟨hsy',?_,?_,?_,?_,?_,?_⟩
 . rw[hce,← hl.ce];rfl
 . rw[hfu,← hl.f];rfl
 . show(S.Count.set _ _).length=_
   rw[List.length_set];exact hl.n
 . intro u a b ha hb
   rcases hthr u a ha with⟨hu,rfl⟩|⟨hu,ha⟩
   . rw[show u=ch.Thread.toNat from by omega,y2]at hb
     obtain rfl:=Option.some.inj hb
     rcases hgt with h|h
     . exact .inl h
     . rcases hx' with hx'|⟨e1,e2⟩
       . exact .inr (.inl hx')
       . by_cases hR:y.CN=0
         . exact .inl hR
         . refine .inr (.inr ⟨?_,?_,?_⟩)
           . rw[hcnt,if_pos hu,h.c,e1]
             have:=hx.e
             exact Ct (by omega) (by omega)
           . rw[hrd,hu,if_pos rfl,e1,h.n];simp
           . intro l hl' k hk
             rw[hrd,hu,if_pos rfl]
             rcases e2 l hl' k hk with⟨m,m1,m2⟩|⟨rfl,hk3⟩
             . exact⟨isIn_app (h.k m m1 k m2).1,(h.k m m1 k m2).2⟩
             . have hr:fK e=true:=by unfold fK;rcases hk3 with h|h<;>simp[h]
               rw[hr]
               have:=uB (l:=SX pre ch.Thread)
               rw[← h.n]at this
               refine⟨this,?_⟩
               have hq:2≤q.Status:=by
                rcases hpi.s with⟨k1,_⟩|⟨⟨_,k17⟩|⟨q2',_⟩,_⟩<;>omega
               rcases hl.e _ x q x2 q2 hq with h0|h0
               . rw[h0]at p2;exact absurd p2.symm hR
               . exact h0
   . rcases hl.t u a b ha hb with h|h|h
     . exact .inl h
     . exact .inr (.inl h)
     . refine .inr (.inr ⟨?_,?_,?_⟩)
       . rw[hcnt,if_neg hu];exact h.c
       . rw[hrd,if_neg (λh=>hu h.symm)];exact h.n
       . rw[hrd,if_neg (λh=>hu h.symm)];exact h.k
 . intro u a b d ha hb hd hs34
   rcases hthr u a ha with⟨hu,rfl⟩|⟨hu,ha⟩
   . rw[show u=ch.Thread.toNat from by omega,y2]at hb
     obtain rfl:=Option.some.inj hb
     have k16:e.Kind=16:=by
      rcases(hst u d hd).1 hu with h|h|h<;>omega
     rw[h16 k16]
     refine⟨z,z1,?_⟩
     rcases hpi.s with⟨k1,_⟩|⟨⟨_,k17⟩|⟨_,_,_,_,h⟩,_⟩
     . omega
     . omega
     . exact h k16
   . rcases(hst u d hd).2 hu with h|⟨q',h1,h2⟩
     . omega
     . refine hl.w u a b q' ha hb h1 ?_
       rcases h2 with rfl|h2
       . exact hs34
       . exact .inl h2.1
 . intro u a d ha hd h2
   rcases hthr u a ha with⟨hu,rfl⟩|⟨hu,ha⟩
   . rcases hx' with h|⟨e1,_⟩
     . exact .inl h
     . have:=hx.e;exact .inr (by omega)
   . rcases(hst u d hd).2 hu with h|⟨q',h1,h3⟩
     . omega
     . refine hl.e u a q' ha h1 ?_
       rcases h3 with rfl|h3<;>omega
theorem X6 {wv:AB} {j:Nat} {q:AD} (h:(IA wv).AA[j]? =some q):q.Status=0∨q.Status=1:=by
 have h:=List.mem_of_getElem? h
 unfold IA at h
 rcases List.mem_or_eq_of_mem_set h with h|rfl
 . rw[List.eq_of_mem_replicate h];exact .inl rfl
 . exact .inr rfl
theorem tJ {c:BB} (hc:CK c) (hv:CH c=some true):B2 (B6 c) λs=>SI 0 s/\LK c [] (Kt c.World) s:=by
 unfold B6
 obtain⟨v,h1,h2⟩:=OJ hc
 rw[hv]at h1
 have hv2:=h2 (Option.some.inj h1).symm
 rw[hv,Option.bind_some]
 refine tI (λh=>by cases h) λ_=> ?_
 have hv:=hv2
 have hw:=Fm hv.w
 have w1:=hw.c;have w2:=hw.f;have w3:=hc.n
 refine tE (O4 _ hw) (My c.World.Cells.length (λi s=>s.Sync=IA c.World/\s.Cells=(c.World.Cells.take i).map (·.Init)/\s.AH=[]/\s.AA=[]) (F:=λn s i=>B6.Ac c n s i) (by omega) ⟨rfl,rfl,rfl,rfl⟩ λn i s hi hs k=> ?_)
 obtain⟨s1,s2,s3,s4⟩:=hs
 have l2:s.Cells.length=i:=by rw[s2];simp;omega
 unfold B6.Ac B6.L1 B6.J1
 refine tD (λ_=>XS (by omega) (tC (Ba (by omega)) (k _ (by omega) ⟨s1,by simp only;rw[s2,← List.take_append_getElem (by omega),List.map_append];rfl,s3,s4⟩))) λ_=> ?_
 have s2:s.Cells=c.World.Cells.map (·.Init):=by rw[s2,List.take_of_length_le (by omega)]
 refine My c.World.AH.length (λi t=>t.Sync=IA c.World/\t.AH=List.replicate i 0/\t.AA=[]/\t.Cells=s.Cells) (F:=λn s i=>B6.Da c n s i) (by omega) ⟨s1,by simp[s3],s4,rfl⟩ λn i t hi hs k=> ?_
 obtain⟨t1,t2,t3,t4⟩:=hs
 have l2:t.AH.length=i:=by rw[t2];simp
 unfold B6.Da B6.L2 B6.J2
 refine tD (λ_=>tC (Ba (by omega)) (k _ (by omega) ⟨t1,by simp only;rw[t2,← List.replicate_succ'],t3,t4⟩)) λ_=> ?_
 have t2:t.AH=List.replicate c.World.AH.length 0:=by rw[t2,show i=c.World.AH.length by omega]
 refine My c.AA.length (λi u=>u.Sync=IA c.World/\u.AA.length=i/\(∀x∈u.AA,TH 0 x/\x.AX=0/\∀l∈x.Bt,l=[])/\u.Cells=s.Cells/\u.AH=t.AH) (F:=λn s i=>B6.Gx c n s i) (by omega) ⟨t1,by simp[t3],by simp[t3],t4,rfl⟩ λn i u hi hs k=> ?_
 obtain⟨u1,u2,u3,u4,u5⟩:=hs
 unfold B6.Gx B6.L3 B6.J3
 refine tD (λ_=>XS (by omega) ?_) λ_=>tR ⟨⟨by rw[u1];exact RB.start _,λx hx=>(u3 x hx).1⟩,by rw[u1];rfl,by rw[u4,s2];rfl,by rw[u5,t2];rfl,by have:=hv.n;simp[Kt],?_,?_,?_⟩
 . have hr:=(hv.t i _ (List.getElem?_eq_getElem (by omega))).r
   refine tC ⟨by omega,by omega,Ba (by omega)⟩ (tC ⟨by omega,by omega,Ba (by omega)⟩ (tC (Ba (by omega)) (k _ (by omega) ⟨u1,by simp;omega,?_,u4,u5⟩)))
   intro x hx
   rcases List.mem_append.1 hx with hx|hx
   . exact u3 x hx
   . rw[List.mem_singleton.1 hx]
     refine⟨⟨by simp;omega,by simp;omega,?_,by simp⟩,rfl,λl hl=>List.eq_of_mem_replicate hl⟩
     intro y hy
     have hy:=List.eq_of_mem_replicate hy
     rw[hy]
     exact⟨List.Pairwise.nil,by simp⟩
 . intro j x y hx _
   have hx:=u3 x (List.mem_of_getElem? hx)
   refine .inr (.inr ⟨?_,by rw[hx.2.1];rfl,λl hl k hk=>by rw[hx.2.2 l hl]at hk;cases hk⟩)
   rw[hx.2.1]
   show ix (List.replicate c.World.AA.length 0) (j:Int)=0
   unfold ix
   simp only[Int.toNat_natCast]
   by_cases hj:j<c.World.AA.length
   . rw[List.getElem?_eq_getElem (by simpa using hj)];simp
   . rw[List.getElem?_eq_none (by simp;omega)];rfl
 . intro j x y q _ _ hq h34
   rw[u1]at hq
   have:=X6 hq
   omega
 . intro j x q _ hq h2
   rw[u1]at hq
   have:=X6 hq
   omega
def Acc (wv:AB) (l:List AN) (S:AM):Prop:=∀r,Gf wv [] (Kt wv) (l++r)=Gf wv l S r
theorem Acc.step {wv:AB} {l:List AN} {S:AM} (h:Acc wv l S) {e:AN} (h1:MD wv S e=true) (h2:Ob l e=true):Acc wv (l++[e]) (KY wv S e):=by
 intro r
 rw[List.append_assoc,h,List.singleton_append,Gf,h1,h2]
 rfl
theorem from_ok {c:BB} (hc:CK c) {s:AZ} (hs:SI 0 s) (hk:LK c [] (Kt c.World) s) {l:List CC} (hl:l.length≤1000):B2 (Dr c s [] l) λr=>(r.1.length≤l.length/\∀e∈r.1,Vz e)/\∃S,Acc c.World r.1 S/\LK c r.1 S r.2:=by
 unfold Dr
 refine My l.length (λi (s:List AN×AZ)=>(SI i s.2/\s.1.length≤i/\∀e∈s.1,Vz e)/\∃S,Acc c.World s.1 S/\LK c s.1 S s.2) (F:=λn s i=>Dr.Ac c l n s.1 s.2 i) (s0:=([],s)) (by omega) ⟨⟨hs,by simp,by simp⟩,_,λ_=>rfl,hk⟩ λn i s hi hs k=> ?_
 obtain⟨⟨s1,s2,s3⟩,S,a1,a2⟩:=hs
 have up:SI (i+1) s.2:=⟨s1.1.mono (by omega),λt ht=>(s1.2 t ht).mono (by omega)⟩
 unfold Dr.Ac Dr.L1 Dr.J1 Dr.J2 Dr.J3
 refine tD (λ_=>tI (λ_=>tG (by omega) λx _=> ?_) λ_=>tR ⟨⟨by simp only;omega,s3⟩,S,a1,a2⟩) λ_=>tI (λh=>by cases h) λ_=>tR ⟨⟨by simp only;omega,s3⟩,S,a1,a2⟩
 refine tB (YE hc s1 (by omega) x) λv hv=>tI (λh=> ?_) λ_=>k (_,_) (by omega) ⟨⟨up,by simp only;omega,s3⟩,S,a1,a2⟩
 obtain⟨⟨v1,v2⟩,v3⟩:=hv h
 obtain⟨b1,b2,b3⟩:=sim (by omega) s1 a2 v3
 refine tC (Ba (by omega)) (k (_,_) (by omega) ⟨⟨v1,by simp;omega,?_⟩,_,a1.step b1 b2,b3⟩)
 intro e he
 rcases List.mem_append.1 he with he|he
 . exact s3 e he
 . rw[List.mem_singleton.1 he];exact v2
structure TA (n:Nat) (t:EJ):Prop where
 m:TM n t
 c:Gf t.World [] (Kt t.World) t.AX=(0,0)
theorem Run_ok {c:BB} (hc:CK c) {l:List CC} (hl:l.length≤1000):B2 (Ix c l) λr=>TA l.length r.1:=by
 unfold Ix
 obtain⟨v,h1,h2⟩:=OJ hc
 rw[h1,Option.bind_some]
 refine tI (λ_=>tR ⟨⟨by simp,by simp,λh=>absurd rfl h⟩,rfl⟩) λh=> ?_
 have ht:v=true:=by simpa using h
 refine tB (tJ hc (by rw[h1,ht])) λs hs=>tB (from_ok hc hs.1 hs.2 hl) λr hr=>tR ⟨⟨hr.1.1,hr.1.2,λ_=>(h2 ht).w⟩,?_⟩
 obtain⟨S,a1,_⟩:=hr.2
 have:=a1 []
 rw[List.append_nil]at this
 exact this
theorem Trace_ok {p s:List Int} (hp:p.length≤1000) (hu:∀x∈p,0≤x/\x<256) (hs:s.length≤1000):B2 (IL p s) (TA s.length):=by
 unfold IL
 exact tB (kO hp hu) λc hc=>tB (US hs) λl hl=>tB (Run_ok hc (by omega)) λr hr=>tR ⟨⟨by have:=hr.m.n;omega,hr.m.e,hr.m.w⟩,hr.c⟩
theorem checkL_at (wv:AB) (a:List AN) (e:AN) (b:List AN):∀pre s,(Gf wv pre s (a++e::b)).2=0->∃S,(∀r,Gf wv pre s (a++r)=Gf wv (pre++a) S r)/\MD wv S e=true/\Ob (pre++a) e=true:=by
 induction a with
 |nil=>
  intro pre s h
  rw[List.nil_append,Gf]at h
  rw[List.append_nil]
  split at h
  . rename_i h2
    rw[Bool.and_eq_true]at h2
    exact⟨s,λ_=>rfl,h2⟩
  . cases h
 |cons x r ih=>
  intro pre s h
  rw[List.cons_append,Gf]at h
  split at h
  . rename_i h2
    obtain⟨S,k1,k2⟩:=ih _ _ h
    rw[List.append_assoc]at k1 k2
    refine⟨S,λr'=> ?_,k2⟩
    rw[List.cons_append,Gf,if_pos h2]
    exact k1 r'
  . cases h
section
variable {T:ByteArray->Prop}
def Zr:Nat->List AK->Nat
 |0,_=>0
 |d+1,l=>(l.map λs=>1+Zr d s.Body+Zr d s.Else).sum
def SN (t nv:Int) (l:List DO):Prop:=∀(j:Nat) x,l[j]? =some x->x.Thread=t/\x.Stmt=nv+j
theorem SN.app {t nv:Int} {a b:List DO} (h:SN t nv a) (g:SN t (nv+a.length) b):SN t nv (a++b):=by
 intro j x hx
 by_cases hj:j<a.length
 . rw[List.getElem?_append_left hj]at hx;exact h j x hx
 . rw[List.getElem?_append_right (by omega)]at hx
   have:=g _ x hx
   exact⟨this.1,by rw[this.2];omega⟩
theorem SN.one {t nv l:Int}:SN t nv [⟨t,nv,l⟩]:=by
 intro j x hx
 cases j with
 |zero=>simp at hx;subst hx;exact⟨rfl,by simp⟩
 |succ j=>simp at hx
end
theorem load_bad {wv:AB} {S0:AM} {l:List AN} (hc:Gf wv [] S0 l=(0,0)) {k:Nat} {e:AN} (hk:l[k]? =some e) (h3:e.Kind=3) {v:Int} (hv:e.Value≠v):Gf wv [] S0 (l.set k ⟨e.Thread,e.Kind,e.Obj,v,e.Site,e.Dy,e.Db⟩)=((k:Int),12):=by
 obtain⟨hlt,he⟩:=List.getElem?_eq_some_iff.1 hk
 have e1:l=l.take k++e::l.drop (k+1):=by rw[← he,← List.drop_eq_getElem_cons hlt,List.take_append_drop]
 have h2:=congrArg Prod.snd hc
 rw[e1]at h2
 obtain⟨S,s1,s2,_⟩:=checkL_at wv _ _ _ _ _ h2
 have e2:l.set k ⟨e.Thread,e.Kind,e.Obj,v,e.Site,e.Dy,e.Db⟩=l.take k++⟨e.Thread,e.Kind,e.Obj,v,e.Site,e.Dy,e.Db⟩::l.drop (k+1):=by rw[List.set_eq_take_append_cons_drop,if_pos hlt]
 rw[e2,s1,List.nil_append,Gf]
 have nv:IV S ⟨e.Thread,e.Kind,e.Obj,v,e.Site,e.Dy,e.Db⟩=false:=by
  unfold MD at s2
  simp only[Bool.and_eq_true]at s2
  have hw:=s2.2.2.2.2.2
  unfold IV at hw ⊢
  rw[if_pos h3]at hw
  rw[if_pos h3]
  have hw:=eq_of_beq hw
  simp only[beq_eq_false_iff_ne,ne_eq]
  rw[← hw];exactλh=>hv h.symm
 rw[if_neg]
 . rw[List.length_take,Nat.min_eq_left (by omega)]
 . unfold MD;rw[nv];simp
def LoadL (l:List AN) (o:List Int):Prop:=∀x∈o,∃k:Nat,x=k/\∃e,l[k]? =some e/\e.Kind=3
theorem Loads_tot {p s:List Int} {a v:Int} (hp:∀x∈p,0≤x/\x<256) (ha:0≤a/\a<256):B2 (FE p s a v) λb=>b=true:=by
 have j1:∀b,(b=false->p.length≤200/\s.length≤100)->B2 (FE.J1 p s v a b) λb=>b=true:=by
  intro b hb;unfold FE.J1
  refine tI (λ_=>tR rfl) λh0=> ?_
  obtain⟨h1,h2⟩:=hb h0
  refine tB (Trace_ok (by omega) hp (by omega)) λt ht=> ?_
  have hn:=ht.m.n
  refine My t.AX.length (λi (o:List Int)=>o.length≤i/\LoadL t.AX o) (F:=λn o i=>FE.Ac v t a n o i) (by omega) ⟨by simp,by simp[LoadL]⟩ λn i o hi ho k=> ?_
  unfold FE.Ac FE.L1 FE.J2 FE.J3 FE.J4
  obtain⟨o1,o2⟩:=ho
  refine tD (λhlt=>XS (by omega) (tI (λh3=>tC (Ba (by omega)) (k _ (by omega) ⟨by simp;omega,?_⟩)) λ_=>k _ (by omega) ⟨by omega,o2⟩)) λ_=> ?_
  . intro x hx
    rcases List.mem_append.1 hx with hx|hx
    . exact o2 x hx
    . exact⟨i,List.mem_singleton.1 hx,_,List.getElem?_eq_getElem (by omega),eq_of_beq h3⟩
  refine tI (λ_=>tE Um (tR rfl)) λhz=> ?_
  have hz:0<o.length:=by simp at hz;exact List.length_pos_iff.2 hz
  rw[Ct (n:=a) (by omega) (by omega)]
  have i0:=Int.tmod_nonneg (o.length:Int) ha.1
  have i1:=Int.tmod_lt_of_pos a (show(0:Int)<o.length by omega)
  generalize a.tmod (o.length:Int)=m at i0 i1 ⊢
  refine tC (by omega) (tG (by omega) λx hx=> ?_)
  obtain⟨q,rfl,e,e1,e2⟩:=o2 x hx
  have hq:=(List.getElem?_eq_some_iff.1 e1).1
  have hw:=ht.m.w (by intro h;rw[h]at hq;cases hq)
  refine tE (y:=e) (by rw[JM];exact e1) (tI (λ_=>tE Um (tR rfl)) λhv=> ?_)
  have hv:e.Value≠v:=by simpa using hv
  have key:Rw ⟨t.World,t.AX.set q ⟨e.Thread,e.Kind,e.Obj,v,e.Site,e.Dy,e.Db⟩⟩=((q:Int),12):=by
   unfold Rw
   rw[if_neg (by simp;omega),if_pos hw]
   exact load_bad ht.c e1 e2 hv
  refine tE ((Zo _ ?_).trans (congrArg some key)) ?_
  . intro y hy
    rcases List.mem_or_eq_of_mem_set hy with hy|rfl
    . exact(ht.m.e y hy).ok
    . exact(ht.m.e e (List.mem_of_getElem? e1)).ok
  . exact tI (λ_=>tR rfl) λh=>by simp at h
 unfold FE
 exact tD (λ_=>j1 _ λh=>by cases h) λh=>j1 _ λh2=>by have:=of_decide_eq_false h2;omega
section
def Zp (p:AL) (i:Nat):Nat:=((p.AA.take i).map λt=>Zr 4 t.Body).sum
structure WV (p:AL) (N:Nat) (w:AB):Prop where
 c:w.Cells=Mx
 l:w.AG=Xt
 d:w.Au=[⟨cN,0⟩]
 f:w.AH=[⟨#[102]⟩]
 t:w.AA=(p.AA.take N).map (·.Name)
 n:w.BA.length=Zp p N
 o:∀j k,j<N->Zp p j≤k->k<Zp p (j+1)->∃y,w.BA[k]? =some y/\y.Thread=(j:Int)
 s:∃t n:Int,(t<N∨t=N/\n=0)/\∀R,Fj p.AA.length 0 0 (w.BA++R)=Fj p.AA.length t n R
theorem WV.names {p:AL} {w:AB} (hw:WV p p.AA.length w):w.AA=p.AA.map (·.Name):=by rw[hw.t,List.take_length]
end
end Go.Abs
namespace Go.Abs
open Go.Proofs Go.RowKit
set_option maxRecDepth 100000
set_option maxHeartbeats 4000000
theorem Vb {α:Type} {e:α->List AV} {ok:α->Prop}:∀(rows:List (List AV)),(∀row∈rows,∃x:α,row=e x/\ok x)->∃l:List α,rows=l.map e/\∀x∈l,ok x
 |[],_=>⟨[],rfl,λ_ h=>by simp at h⟩
 |r::rs,h=>by
  obtain⟨l,hl,ho⟩:=Vb rs (λrow hr=>h row (by simp[hr]))
  obtain⟨x,hx,hxo⟩:=h r (by simp)
  refine⟨x::l,by rw[hx,hl];rfl,λy hy=> ?_⟩
  rcases List.mem_cons.1 hy with rfl|hy
  . exact hxo
  . exact ho y hy
def JB (x:Int):Prop:=(Lit.int .u8 x).wf=true
structure Kc (x:List Int):Prop where
 len:x.length*1≤reachBytes
 all:∀y∈x,JB y
theorem op5:Jp Tryz.prog 5 (λavs=>∃x:Int,avs=[.sc (.int .u8 x)]/\JB x):=(UO Tryz.underlying5).mono λ_ ⟨n,h,hw⟩=>⟨n,h,hw⟩
theorem arg5 (a:AV):OM Tryz.prog 5 [a]=a:=by unfold OM;rw[Tryz.underlying5];rfl
theorem uK:Jp Tryz.prog 22 (λavs=>∃x:List Int,avs=[.sl false 1 (x.map UN)]/\Kc x):=by
 refine(VR (k:=1) Tryz.underlying22 (by kernel_rfl) (by omega) op5).mono ?_
 rintro avs ⟨rows,rfl,hr,hb⟩
 obtain⟨l,rfl,hl⟩:=Vb (e:=UN) (ok:=JB) rows λrow h=>(hr row h).1
 have hby:Tryz.prog.bytesOf 5=1:=by kernel_rfl
 rw[hby,List.length_map]at hb
 exact⟨l,rfl,hb,hl⟩
theorem kR (a:AV):OM Tryz.prog 22 [a]=a:=by unfold OM;rw[Tryz.underlying22];rfl
def okI_i64 (x:Int):Prop:=(Lit.int .i64 x).wf=true
theorem op2:Jp Tryz.prog 2 (λavs=>∃x:Int,avs=[si x]/\okI_i64 x):=(UO Tryz.underlying2).mono λ_ ⟨n,h,hw⟩=>⟨n,h,hw⟩
theorem arg2 (a:AV):OM Tryz.prog 2 [a]=a:=by unfold OM;rw[Tryz.underlying2];rfl
theorem laid:laidOutB Tryz.prog=true:=by kernel_rfl
theorem own0:ownKnob Tryz.prog.godebug=none:=by kernel_rfl
abbrev VM:List (String×DataW Unit):=[("interleave/token.keywords",Go.Proofs.YtkpdblcoclbgbaaGreatDoor.Rows.laid_interleave_token_keywords)]
theorem qZ:Tryz.prog.globalNamed "interleave/token.keywords" =some 0:=by kernel_rfl
theorem gType:(Tryz.prog.globals[0]?).map (·.type)=some 204:=by kernel_rfl
theorem ZD:(Go.Proofs.YtkpdblcoclbgbaaGreatDoor.Rows.laid_interleave_token_keywords:DataW Unit)= .agg (Ho.map λs=>.lit (.string s.data.toList)):=rfl
theorem Wp {W:World} (h:laidMetH Tryz.prog VM W):GI W (Old W):=by
 rw[MakeChecks.laidMetH_plain _ _ _ (by kernel_rfl)]at h
 obtain⟨ps,⟨g0,t0,cs0,f0,p0,q0,hg0,ht0,hv0,hd0,_,_⟩,_,_⟩:=h
 obtain rfl:=Option.some.inj (qZ.symm.trans hg0)
 obtain rfl:=Option.some.inj (gType.symm.trans ht0)
 obtain⟨xs,m,rfl,hx,hlen,hn,hel⟩:=DataW.trod_array Tryz.underlying204 hd0
 have ce:Tryz.prog.cellsOf 9=1:=by kernel_rfl
 rw[ZD]at hx
 simp only[Prod.mk.injEq,DataW.agg.injEq]at hx
 have hcell:∀(j:Nat) s,Ho[j]? =some s->W.cell? ⟨0,j,none⟩=some (.string s):=by
  intro j s hj
  have hjn:j<22:=by
   have:=(List.getElem?_eq_some_iff.1 hj).1
   exact this
  have hxj:(xs.map (·.1))[j]? =some (.lit (.string s.data.toList)):=by rw[← hx.1,List.getElem?_map,hj];rfl
  rw[List.getElem?_map]at hxj
  cases hxs:xs[j]? with
  |none=>rw[hxs]at hxj;cases hxj
  |some y=>
   have ht:=hel j hjn
   rw[hxs,ce]at ht
   obtain⟨s',hs',hy,_⟩:=DataW.trod_string Tryz.underlying9 ht
   rw[hxs]at hxj
   simp only[Option.map_some,Option.some.injEq]at hxj
   rw[hy]at hxj
   simp only[DataW.lit.injEq,Lit.string.injEq]at hxj
   have hss:s'=s:=ByteArray.ext (Array.toList_inj.1 hxj)
   subst hss
   rw[World.var?_cell qZ hv0 j]
   have:(cs0.toList.drop (j*1)).take 1=[.string s']:=hs'
   rw[Nat.mul_one]at this
   have h0:cs0.toList[j]? =some (.string s'):=by
    have h1:((cs0.toList.drop j).take 1)[0]? =some (.string s'):=by rw[this];rfl
    simpa using h1
   simpa using h0
 intro x hxm
 have:x=(0,Ho.map Value.string):=by simpa[Gam]using hxm
 subst this
 have h0:=hcell 0 _ rfl
 obtain⟨_,hlt⟩:=Xe h0
 refine⟨hlt,?_⟩
 unfold World.cell? at h0
 cases hb:W.heap[0]? with
 |none=>simp[hb]at h0
 |some blk=>
  cases blk with
  |cells arr E fz=>
   refine⟨arr,E,fz,rfl,λj v hj=> ?_⟩
   rw[List.getElem?_map]at hj
   cases hs:Ho[j]? with
   |none=>rw[hs]at hj;cases hj
   |some s=>
    rw[hs]at hj
    simp only[Option.map_some,Option.some.injEq]at hj
    subst hj
    have:=hcell j s hs
    unfold World.cell? at this
    simpa[hb]using this
  |_=>simp[hb]at h0
end Go.Abs
namespace Go.Abs
theorem fB {o:Option Bool} (h:B2 o λb=>b=true):o=some true:=by
 obtain⟨b,h,rfl⟩:=h;exact h
theorem rC {x:Int} (h:JB x):0≤x/\x<256:=by
 unfold JB Lit.wf at h
 simp only[Bool.and_eq_true,decide_eq_true_eq]at h
 have h1:=h.1;have h2:=h.2
 have e1:IntKind.u8.min=0:=rfl
 have e2:IntKind.u8.max=255:=rfl
 omega
theorem Loads_law {p s:List Int} {a v:Int} (hp:Kc p) (ha:JB a):FE p s a v=some true:=fB (Loads_tot (λx hx=>rC (hp.all x hx)) (rC ha))
end Go.Abs
