/- What the typed programs give, in plain Lean. -/
import Derived.Test.YtdadohkcmclilaaGreatDoorWalkS
import Derived.Test.YtdadohkcmclilaaGreatDoorPlainB
import Derived.Test.YtdadohkcmclilaaGreatDoorRows
import Derived.Test.YtdadohkcmclilaaGreatDoorTie
import Derived.ProofKit
import Derived.LaidMore
import Derived.OpenShut
import Derived.Shelf.Slices.SearchI
set_option linter.unusedSimpArgs false
set_option linter.unusedVariables false
namespace Go.Abs
set_option maxHeartbeats 4000000
theorem nums_of {c:Int} (D:List Int):∀last:Int,D.Pairwise (· < ·)->(∀k∈D,last<k/\k<c)->Gb c last D=true:=by
 induction D with
 |nil=>exactλ_ _ _=>rfl
 |cons x r ih=>
  intro last h1 h2
  obtain⟨p1,p2⟩:=List.pairwise_cons.1 h1
  have hx:=h2 x ABL
  unfold Gb
  simp only[AAP,AAf]
  exact⟨hx.1,hx.2,ih x p2 λk hk=>⟨p1 k hk,(h2 k (List.mem_cons_of_mem _ hk)).2⟩⟩
theorem xT {l:List Bool} {b:Bool} {k:Int} (h:NV l k=true):NV (l++[b]) k=true:=by
 unfold NV at h ⊢
 simp only[AAP]at h ⊢
 have hi:=B9.1 h.1
 refine⟨B9.2 (by simp;omega),?_⟩
 have:=h.2
 unfold ix at this ⊢
 rw[AAr (by omega)]
 exact this
theorem o5 {l:List Bool}:NV (l++[true]) (l.length:Int)=true:=by
 unfold NV
 simp only[AAP]
 exact⟨B9.2 (by simp;omega),by unfold ix;simp⟩
structure GT (pre:List AH) (u:Int) (cnt:Int) (x:AL):Prop where
 c:cnt=x.AF
 n:x.AF=((OB pre u).length:Int)
 k:∀l∈x.Bn,∀k∈l,NV (OB pre u) k=true/\1≤k
structure LK (c:BF) (pre:List AH) (S:AB) (s:Ad):Prop where
 y:S.Sync=s.Sync
 ce:S.Cells=s.Cells
 f:S.AK=s.AK
 n:S.Count.length=c.World.AA.length
 t:∀(u:Nat) x y,s.AA[u]? =some x->c.AA[u]? =some y->y.Br=0∨x=PN∨GT pre u (ix S.Count u) x
 w:∀(u:Nat) x y q,s.AA[u]? =some x->c.AA[u]? =some y->s.Sync.AA[u]? =some q->q.Status=3∨q.Status=4->∃z,gt y.A1 x.PC=some z/\z.Op=21
 e:∀(u:Nat) x q,s.AA[u]? =some x->s.Sync.AA[u]? =some q->2≤q.Status->x=PN∨1≤x.AF
theorem tK {wv:AD} {s:AN} {t k o wake:Int} (h18:k≠18) (h19:k≠19):(EN wv s t k o wake).2=0:=by
 have key:∀(P:Prop) [Decidable P] (a b:AN×Int),a.2=0->b.2=0->(if P then a else b).2=0:=λP _ a b ha hb=>by
  by_cases h:P
  . rw[AAY h];exact ha
  . rw[AAX h];exact hb
 unfold EN
 rw[AAX h18,AAX h19]
 repeat' first|rfl|apply key
theorem sim {E:Nat} {c:BF} {s s':Ad} {ch:BK} {e:AH} {pre:List AH} {S:AB} (hE:E≤10000) (hs:SI E s) (hl:LK c pre S s) (hr:SR c s ch s' e):
 Kf c.World S e=true/\RG pre e=true/\LK c (pre++[e]) (GL c.World S e) s':=by
 obtain⟨hp,XI,hsy,xM,hce,hfu,x,x',x2,hth,h16,KY⟩:=hr
 obtain⟨hf,ht,_,hh,hi⟩:=hp
 have c1:=hf.c';have c2:=hf.u;have c3:=hf.n;have c4:=hf.v.n
 have l3:=(FA hf.f).2.2
 obtain⟨y,_,y2,_⟩:=Fm (l:=c.AA) (i:=ch.Thread) (by omega)
 obtain⟨p1,p2,p3⟩:=hf.t _ x y x2 y2
 obtain⟨z,z1,z2,z3⟩:=Fm (l:=y.A1) (i:=x.PC) (by omega)
 obtain⟨q,_,q2,_⟩:=Fm (l:=s.Sync.AA) (i:=ch.Thread) (by omega)
 have hpi:=hi x y z q x2 y2 z2 q2
 have hz:=(hf.v.t _ y y2).i z z3
 have hx:=hs.2 x (AAb x2)
 have hcast:((ch.Thread.toNat:Nat):Int)=ch.Thread:=by omega
 -- a thread with registers shows what its trace shows
 have hgt:y.Br=0∨GT pre ch.Thread (ix S.Count ch.Thread) x:=by
  rcases hl.t _ x y x2 y2 with h|h|h
  . exact .inl h
  . rw[h]at p2;exact .inl p2.symm
  . rw[hcast]at h;exact .inr h
 have hD:∀D,D=[]∨D∈x.Bn->Gb (ix S.Count e.Thread) 0 D=true/\D.all (NV (OB pre e.Thread))=true:=by
  rintro D (rfl|hD)
  . exact⟨rfl,rfl⟩
  . rcases hgt with h|h
    . have:x.Bn.length=0:=by omega
      rw[List.length_eq_zero_iff.1 this]at hD;cases hD
    . rw[hh]
      refine⟨nums_of D 0 (hx.b D hD).1 λk hk=>⟨by have:=(h.k D hD k hk).2;omega,?_⟩,AAU.2 λk hk=>(h.k D hD k hk).1⟩
      rw[h.c];exact((hx.b D hD).2 k hk).2
 have hdp:=hD e.D9 (hpi.d.imp id λh=>h.1)
 have Zs:=hD e.Db (hpi.r.imp id λh=>h.1)
 have ha:CF c.World e.Kind e.Obj=true:=by
  have XI:=XI
  unfold DC at XI
  simp only[AAP]at XI
  exact XI.2.2.1
 have TK:ND c.World e=true:=by
  unfold ND
  have site:z.Op≠28->e.Site=z.Site->(Ee e.Site c.World.A7.length&&(ix c.World.A7 e.Site).Thread==e.Thread)=true:=by
   intro h1 h2
   have hs:=hz.s
   unfold W5 at hs
   rw[AAX h1,hcast]at hs
   obtain⟨b,b1,b2⟩:=hs
   have hb:=b1
   unfold gt at hb
   split at hb
   . have:=(AAQ.1 hb).1
     rw[h2,kN b1,b2,hh]
     simp only[AAP,ABB,and_true]
     exact B9.2 (by omega)
   . cases hb
  rcases hpi.s with⟨k1,k2⟩|⟨⟨q4,gV⟩|⟨q2',k2,n1,n17,k16⟩,xK⟩
  . rw[AAY (.inl k1),k2];rfl
  . obtain⟨z',b1,b2⟩:=hl.w _ x y q x2 y2 q2 (.inr q4)
    rw[z1]at b1
    obtain rfl:=AAR b1
    rw[AAX (by omega)]
    exact site (by omega) xK
  . by_cases h2:e.Kind=2
    . have hs:=hz.s
      unfold W5 at hs
      rw[AAY (k2.1 h2)]at hs
      rw[AAY (.inr h2),xK,hs];rfl
    . rw[AAX (by omega)]
      exact site (λh=>h2 (k2.2 h)) xK
 have hdet:FN c.World S e=true:=by
  unfold FN
  rw[hdp.1,Zs.1]
  simp only[Bool.and_true,AAP,AAx]
  refine⟨hpi.d.imp (λh=>by rw[h];rfl) λh=>h.2.imp (λh=>by rw[h];rfl) λh=> ?_,hpi.r.imp (λh=>by rw[h];rfl) λh=>h.2.imp (λh=>by rw[h];rfl) λh=>by rw[h];rfl⟩
  unfold RT
  rw[AAY h.1]
  simpa using h.2
 have BP:JE S e=true:=by
  unfold JE
  rw[hl.ce,hl.f,hl.y]
  obtain⟨v1,v2,v3,v4⟩:=xM
  by_cases k3:e.Kind=3
  . rw[AAY k3,kN (v1 k3)];simp
  rw[AAX k3]
  by_cases o7:e.Kind=23
  . rw[AAY o7,kN (v2 o7)];simp
  rw[AAX o7]
  by_cases k5:e.Kind=5
  . rw[AAY k5]
    rcases v3 k5 with h|h<;>rw[h]<;>rfl
  rw[AAX k5]
  by_cases k4:e.Kind=4∨e.Kind=22
  . rw[AAY k4]
  rw[AAX k4]
  have hv:=v4 k3 o7 k5 (by omega) (by omega)
  by_cases UR:e.Kind=18
  . rw[AAY UR]
    have:e.Value=EX ch.S8 (Bz e.Obj 0 s.Sync.AA):=by rw[hv,UR];simp[EN]
    by_cases hW:Bz e.Obj 0 s.Sync.AA=[]
    . rw[this,hW];rfl
    . have hm:=Mt (wake:=ch.S8) hW
      rw[← this]at hm
      simp only[AAx]
      exact .inl (by simpa using hm)
  rw[AAX UR]
  by_cases jK:e.Kind=19
  . rw[AAY jK,hv,jK];simp[EN]
  rw[AAX jK,hv]
  simp[tK UR jK]
 have hposs:Kf c.World S e=true:=by
  unfold Kf MJ
  rw[hl.y,hl.ce,hl.f,hf.f,hh,XI,TK,hdet,BP,hl.n,c1,c2]
  simp only[ABB,Bool.and_true,AA0]
  exact B9.2 (by omega)
 have hreads:RG pre e=true:=by unfold RG;rw[hdp.2,Zs.2];rfl
 refine⟨hposs,hreads,?_⟩
 have hsy':(GL c.World S e).Sync=s'.Sync:=by
  show(EN c.World S.Sync e.Thread e.Kind e.Obj (if e.Kind=18 then e.Value else -1)).1=_
  rw[hl.y,hsy,hh]
  by_cases UR:e.Kind=18
  . have hv:=xM.2.2.2 (by omega) (by omega) (by omega) (by omega) (by omega)
    have:=VZ c.World s.Sync ch.Thread e.Kind e.Obj ch.S8
    rw[AAY UR]at this ⊢
    rw[hv];exact this
  . have:=VZ c.World s.Sync ch.Thread e.Kind e.Obj ch.S8
    rw[AAX UR]at this ⊢
    exact this
 have hthr:∀(u:Nat) a,s'.AA[u]? =some a->(u:Int)=ch.Thread/\a=x'∨(u:Int)≠ch.Thread/\s.AA[u]? =some a:=by
  intro u a ha
  rw[hth]at ha
  by_cases hu:(u:Int)=ch.Thread
  . rw[show ch.Thread.toNat=u from by omega,AAS (by omega)]at ha
    exact .inl ⟨hu,(AAR ha).symm⟩
  . rw[AAV (by omega)]at ha
    exact .inr ⟨hu,ha⟩
 have sJ:∀u:Nat,ix (GL c.World S e).Count (u:Int)=if(u:Int)=ch.Thread then Ap (ix S.Count ch.Thread+1)else ix S.Count u:=by
  intro u
  show ix (S.Count.set e.Thread.toNat (Ap (ix S.Count e.Thread+1))) u=_
  rw[hh]
  by_cases hu:(u:Int)=ch.Thread
  . rw[AAY hu]
    have D5:u<S.Count.length:=by rw[hl.n];omega
    rw[show ch.Thread.toNat=u from by omega]
    unfold ix
    simp[D5]
  . rw[AAX hu]
    unfold ix
    rw[AAV (by omega)]
 have RF:∀u:Int,OB (pre++[e]) u=if ch.Thread=u then OB pre u++[rF e]else OB pre u:=λu=>by rw[NF,hh]
 have Bs:∀(u:Nat) b,s'.Sync.AA[u]? =some b->((u:Int)=ch.Thread->e.Kind=16∨b.Status=2∨b.Status=5)/\((u:Int)≠ch.Thread->b.Status=1∨∃q,s.Sync.AA[u]? =some q/\(b=q∨q.Status=3/\b.Status=4)):=by
  intro u b hb
  rw[hsy]at hb
  exact jE XI hb
 refine⟨hsy',?_,?_,?_,?_,?_,?_⟩
 . rw[hce,← hl.ce];rfl
 . rw[hfu,← hl.f];rfl
 . show(S.Count.set _ _).length=_
   rw[List.length_set];exact hl.n
 . intro u a b ha hb
   rcases hthr u a ha with⟨hu,rfl⟩|⟨hu,ha⟩
   . rw[show u=ch.Thread.toNat from by omega,y2]at hb
     obtain rfl:=AAR hb
     rcases hgt with h|h
     . exact .inl h
     . rcases KY with KY|⟨e1,e2⟩
       . exact .inr (.inl KY)
       . by_cases hR:y.Br=0
         . exact .inl hR
         . refine .inr (.inr ⟨?_,?_,?_⟩)
           . rw[sJ,AAY hu,h.c,e1]
             have:=hx.e
             exact DR (by omega) (by omega)
           . rw[RF,hu,AAY rfl,e1,h.n];simp
           . intro l hl' k hk
             rw[RF,hu,AAY rfl]
             rcases e2 l hl' k hk with⟨m,m1,m2⟩|⟨rfl,hk3⟩
             . exact⟨xT (h.k m m1 k m2).1,(h.k m m1 k m2).2⟩
             . have hr:rF e=true:=by unfold rF;rcases hk3 with h|h<;>simp[h]
               rw[hr]
               have:=o5 (l:=OB pre ch.Thread)
               rw[← h.n]at this
               refine⟨this,?_⟩
               have hq:2≤q.Status:=by
                rcases hpi.s with⟨k1,_⟩|⟨⟨_,gV⟩|⟨q2',_⟩,_⟩<;>omega
               rcases hl.e _ x q x2 q2 hq with h0|h0
               . rw[h0]at p2;exact absurd p2.symm hR
               . exact h0
   . rcases hl.t u a b ha hb with h|h|h
     . exact .inl h
     . exact .inr (.inl h)
     . refine .inr (.inr ⟨?_,?_,?_⟩)
       . rw[sJ,AAX hu];exact h.c
       . rw[RF,AAX (λh=>hu h.symm)];exact h.n
       . rw[RF,AAX (λh=>hu h.symm)];exact h.k
 . intro u a b d ha hb hd hs34
   rcases hthr u a ha with⟨hu,rfl⟩|⟨hu,ha⟩
   . rw[show u=ch.Thread.toNat from by omega,y2]at hb
     obtain rfl:=AAR hb
     have k16:e.Kind=16:=by
      rcases(Bs u d hd).1 hu with h|h|h<;>omega
     rw[h16 k16]
     refine⟨z,z1,?_⟩
     rcases hpi.s with⟨k1,_⟩|⟨⟨_,gV⟩|⟨_,_,_,_,h⟩,_⟩
     . omega
     . omega
     . exact h k16
   . rcases(Bs u d hd).2 hu with h|⟨q',h1,h2⟩
     . omega
     . refine hl.w u a b q' ha hb h1 ?_
       rcases h2 with rfl|h2
       . exact hs34
       . exact .inl h2.1
 . intro u a d ha hd h2
   rcases hthr u a ha with⟨hu,rfl⟩|⟨hu,ha⟩
   . rcases KY with h|⟨e1,_⟩
     . exact .inl h
     . have:=hx.e;exact .inr (by omega)
   . rcases(Bs u d hd).2 hu with h|⟨q',h1,h3⟩
     . omega
     . refine hl.e u a q' ha h1 ?_
       rcases h3 with rfl|h3<;>omega
def Acc (wv:AD) (l:List AH) (S:AB):Prop:=∀r,Hg wv [] (Gg wv) (l++r)=Hg wv l S r
theorem Acc.step {wv:AD} {l:List AH} {S:AB} (h:Acc wv l S) {e:AH} (h1:Kf wv S e=true) (h2:RG l e=true):Acc wv (l++[e]) (GL wv S e):=by
 intro r
 rw[AA6,h,List.singleton_append,Hg,h1,h2]
 rfl
structure TA (n:Nat) (t:Az):Prop where
 m:TM n t
 c:Hg t.World [] (Gg t.World) t.AF=(0,0)
section
variable {T:ABq->Prop}
def XX:Nat->List AP->Nat
 |0,_=>0
 |d+1,l=>(l.map λs=>1+XX d s.Body+XX d s.Else).sum
def SN (t nv:Int) (l:List DL):Prop:=∀(j:Nat) x,l[j]? =some x->x.Thread=t/\x.Stmt=nv+j
theorem SN.app {t nv:Int} {a b:List DL} (h:SN t nv a) (g:SN t (nv+a.length) b):SN t nv (a++b):=by
 intro j x hx
 by_cases hj:j<a.length
 . rw[AAr hj]at hx;exact h j x hx
 . rw[AAt (by omega)]at hx
   have:=g _ x hx
   exact⟨this.1,by rw[this.2];omega⟩
theorem SN.one {t nv l:Int}:SN t nv [⟨t,nv,l⟩]:=by
 intro j x hx
 cases j with
 |zero=>simp at hx;subst hx;exact⟨rfl,by simp⟩
 |succ j=>simp at hx
end
section
def Zv (p:AQ) (i:Nat):Nat:=((p.AA.take i).map λt=>XX 4 t.Body).sum
structure WV (p:AQ) (N:Nat) (w:AD):Prop where
 c:w.Cells=QU
 l:w.AG=bV
 d:w.Af=[⟨cN,0⟩]
 f:w.AK=[⟨#[102]⟩]
 t:w.AA=(p.AA.take N).map (·.Name)
 n:w.A7.length=Zv p N
 o:∀j k,j<N->Zv p j≤k->k<Zv p (j+1)->∃y,w.A7[k]? =some y/\y.Thread=(j:Int)
 s:∃t n:Int,(t<N∨t=N/\n=0)/\∀R,HC p.AA.length 0 0 (w.A7++R)=HC p.AA.length t n R
theorem WV.names {p:AQ} {w:AD} (hw:WV p p.AA.length w):w.AA=p.AA.map (·.Name):=by rw[hw.t,List.take_length]
end
theorem sQ {n:Nat} {t:Az} (ht:TA n t) (hn:n≤400) (hw:Ck t.World=true):Io t=(0,0):=by
 have:=ht.m.n
 unfold Io
 rw[AAX (by omega),AAY hw,ht.c]
theorem TA.at {n:Nat} {t:Az} (h:TA n t) (hw:Ck t.World=true) (hn:n≤400):AT t:=
 AT.of (λe he=>(h.m.e e he).ok) (by rw[sQ h hn hw])
theorem empty_small:mG OC:=⟨by decide,by decide,by decide,by decide,by decide,by decide,λx hx=>by cases hx⟩
theorem WindowTells_eq (t:Az) (hE:∀e∈t.AF,S7 e) (size n:Int):D7 t size n=some true:=by
 have hb:=B1
 unfold D7
 have key:∀b,D7.J1 n size t b=some true:=by
  intro b
  unfold D7.J1
  cases b with
  |true=>rfl
  |false=>
   rw[AAX (by simp),Split_eq t hE,AAO,rSplit_eq t hE,AAO,q8 t hE,AAO,rSnapshot_eq t hE,AAO]
   have hs:mG (snapS t n).1:=by
    unfold snapS
    split
    . exact empty_small
    . rename_i hc
      split
      . exact empty_small
      . exact(AT.of hE (by omega)).small (by omega)
   rw[qY hs,AAO]
   simp only[bne_self_eq_false,AAW,AAe,Bool.not_true]
   unfold D7.J2
   rw[AAX (by simp)]
   have hJ:D7.J3=some true:=by unfold D7.J3;rw[AAL];rfl
   have hw:∀(i:Nat) (hi:i<(Ze t size).1.length),(Ze t size).1.length≤100000/\JJ (Ze t size).1[i] (Ze t size).1[i]=some true:=by
    unfold Ze
    split
    . intro i hi;simp at hi
    . rename_i hc
      have h:=AT.of hE (by omega)
      split
      . intro i hi;simp at hi
      . rename_i hg
        intro i hi
        simp only[Tm]at hi ⊢
        have hk:=winN_le (k:=size.toNat) (by omega) t.AF.length
        have hl:=h.l
        refine⟨by omega,?_⟩
        simp only[PJ,List.getElem_map,List.getElem_range]
        refine Same18_self h ?_
        have:i*size.toNat<t.AF.length:=by
         unfold Uw at hi
         have h1:=(Nat.le_div_iff_mul_le (by omega)).1 (show i+1≤_ from hi)
         rw[ABa]at h1;omega
        omega
   have hlen:(Ze t size).1.length≤100000:=by
    by_cases h0:0<(Ze t size).1.length
    . exact(hw 0 h0).1
    . omega
   refine Nq (L:=D7.Aa (Ze t size) (Ze t size)) (N:=(Ze t size).1.length) (λm i hi=> ?_) (λm=> ?_) BT 0 (by omega) (by omega)
   . rw[D7.Aa];unfold D7.L1
     rw[BC (by omega),CU hi,AAO,AAO,(hw i hi).2,AAO,Ao (by omega)];rfl
   . rw[D7.Aa];unfold D7.L1
     rw[Ac (by omega)];exact hJ
 split<;>exact key _
theorem pS {α β:Type} {o:ABp α} {f:α->ABp β} {R:β->Prop} (k:∀x,o=some x->Kl (f x) R):Kl (o.bind f) R:=pB (Q:=λx=>o=some x) (λ_ e=>e) k
theorem vX {α:Type} {l:List α} {i:Int} {x:α} (h:gt l i=some x):(0≤i/\i<l.length)/\l[i.toNat]? =some x:=by
 unfold gt at h
 split at h
 . have:=(AAQ.1 h).1
   exact⟨by omega,h⟩
 . cases h
def Lnd (l:List Ab):Nat->Int->Prop
 |0,_=>False
 |n+1,a=>∃x,gt l a=some x/\(UF x.Op=false∨UF x.Op=true/\Lnd l n (if x.Op=5 then x.A else Ap (a+1)))
def OpN (x:Ab):Prop:=(x.Op=3->x.N=4∨x.N=5)/\(x.Op=4->6≤x.N/\x.N≤18)
def VSi (c:An) (k:Nat) (x:Ab):Prop:=Lnd c.A1 (c.A1.length+1) (k:Int)/\(x.Op=28↔k+1=c.A1.length)/\(x.Op=10->0≤x.B/\x.B<c.A1.length)/\OpN x
def VS (c:An):Prop:=∀(k:Nat) x,c.A1[k]? =some x->VSi c k x
theorem SC {n:Int} (h:1≤n/\n≤100):Cj n=some n:=by
 unfold Cj Cj.J1
 rw[AAX (by simp;omega),AAX (by simp;omega)]
theorem mH {n:Int} (h:n=4∨n=5) (a:Int):Kl (Hq n a) λr=>r.2=true:=by
 unfold Hq
 refine pI (λ_=>pR rfl) λh4=>pI (λ_=>pS λ_ _=>pR rfl) λh5=> ?_
 simp at h4 h5;omega
theorem eC {n:Int} (h:6≤n/\n≤18) (a b:Int):Kl (DW n a b) λr=>r.2=true:=by
 unfold DW DW.J1 DW.J2
 repeat' first|exact pR rfl|refine pS λ_ _=> ?_|refine pC λ_=> ?_|refine pI (λ_=> ?_) λ_=> ?_
 simp at *;omega
theorem zV {i:Ab} {s:AL} (hg:∀y∈rg i,0≤y/\y<s.Br.length) (ho:UF i.Op=true) (hn:OpN i):Kl (B4 i s) λr=>(r.2=true/\r.1.AF=s.AF)/\r.1.PC=(if i.Op=5 then i.A else Ap (s.PC+1))/\r.1.Br.length=s.Br.length/\r.1.Bn.length=s.Bn.length:=by
 have j3:∀v ok t,ok=true->i.Op≠5->Kl (B4.J3 i s v ok t) λr=>(r.2=true/\r.1.AF=s.AF)/\r.1.PC=(if i.Op=5 then i.A else Ap (s.PC+1))/\r.1.Br.length=s.Br.length/\r.1.Bn.length=s.Bn.length:=by
  intro v ok t h h5
  unfold B4.J3
  exact pC λ_=>pS λ_ _=>pS λ_ _=>pR ⟨⟨h,rfl⟩,by rw[AAX h5],by simp,by simp⟩
 unfold B4
 refine pE (GF i).1 (pLs (rg i).length (λ_ (_:Unit)=>True) (s0:=()) (F:=λn _ j=>B4.Aa i s (rg i) n j) (λ_ _=>rfl) (by have:=(GF i).2;omega) trivial λn j _ hj _ k=> ?_)
 unfold B4.Aa B4.L1 B4.J1
 refine pD (λD5=>pE (CU (by omega)) ?_) λ_=> ?_
 . have:=hg _ (AAi (show j<(rg i).length by omega))
   exact pD (λh=>by omega) λ_=>pI (λh=>by simp at h;omega) λ_=>k () (by omega) trivial
 . unfold B4.J2
   refine pI (λh=>pR ⟨⟨rfl,rfl⟩,by rw[AAY (eq_of_beq h)],rfl,rfl⟩) λn5=> ?_
   have n5:i.Op≠5:=by simpa using n5
   refine pI (λh1=>j3 _ _ _ rfl n5) λn1=>pI (λh2=>pS λ_ _=>pS λ_ _=>j3 _ _ _ rfl n5) λn2=>pI (λh3=> ?_) λn3=> ?_
   . have h:=hn.1 (eq_of_beq h3)
     exact pE (SC (by omega)) (pS λ_ _=>pB (mH h _) λf hf=>pS λ_ _=>j3 _ _ _ hf n5)
   . have h4:i.Op=4:=by simp[UF]at ho n1 n2 n3;omega
     have h:=hn.2 h4
     exact pE (SC (by omega)) (pS λ_ _=>pS λ_ _=>pB (eC h _ _) λf hf=>pS λ_ _=>pS λ_ _=>pS λ_ _=>j3 _ _ _ hf n5)
theorem l9 {s:AL} (ht:s.Bn.length≤100):Kl (Ch s) λr=>r=s:=by
 unfold Ch
 refine pC λ_=>pLs s.Bn.length (λi o=>o=⟨s.PC,s.Br,s.Bn.take i,s.AF⟩) (F:=λn o i=>Ch.Aa s n o i) (λ_ _=>rfl) (by omega) rfl λn i o hi ho k=> ?_
 subst ho
 unfold Ch.Aa Ch.L1 Ch.J1
 exact pD (λ_=>pE (CU (by omega)) (pC λ_=>pC λ_=>k _ (by omega) (by rw[AAk]))) λ_=>pR (by rw[AA3 (by omega)])
theorem eL {c:An} {s:AL} (hv:VS c) (hc:c.A1.length≤8000000) (hg:∀x∈c.A1,∀y∈rg x,0≤y/\y<c.Br) (h32:c.Br≤32) (hr:(s.Br.length:Int)=c.Br) (ht:(s.Bn.length:Int)=c.Br) (hl:Lnd c.A1 (c.A1.length+1) s.PC):Kl (Bf c s) λr=>r.1.AF=s.AF:=by
 unfold Bf
 refine pI (λh=>by simp at h;omega) λ_=> ?_
 unfold Bf.J1
 refine pI (λh=>by simp at h;omega) λ_=>pB (l9 (by omega)) λs' Fl=> ?_
 subst Fl
 refine pLs (c.A1.length+1) (λi t=>(t.AF=s'.AF/\(t.Br.length:Int)=c.Br)/\Lnd c.A1 (c.A1.length+1-i) t.PC) (F:=λn s j=>Bf.Aa c n s j) (λ_ _=>rfl) (by omega) ⟨⟨rfl,hr⟩,hl⟩ λn i t hi hI k=> ?_
 obtain⟨⟨t1,t2⟩,t3⟩:=hI
 unfold Bf.Aa Bf.L1 Bf.J2 Bf.J3
 refine pD (λhle=> ?_) λl8=> ?_
 . rw[show c.A1.length+1-i=(c.A1.length-i)+1 from by omega]at t3
   obtain⟨x,hx,hor⟩:=t3
   have hp:=(vX hx).1
   have Qg:=(vX hx).2
   refine pD (λh=>by omega) λ_=>pI (λh=>by simp at h;omega) λ_=>pE hx (pE (PO _) (pI (λ_=>pR t1) λhsil=> ?_))
   have hsil:UF x.Op=true:=by simpa using hsil
   have hor:=(hor.resolve_left (by rw[hsil];simp)).2
   refine pI (λh=> ?_) λNp=> ?_
   . have:i=c.A1.length:=by simp at h;omega
     rw[show c.A1.length-i=0 from by omega]at hor
     exact hor.elim
   . have hm:=AAb Qg
     have bJ:=hv _ x Qg
     refine pB (zV (λy hy=>by rw[t2];exact hg x hm y hy) hsil bJ.2.2.2) λv hv2=>pI (λh=>by rw[hv2.1.1]at h;cases h) λ_=>k _ (by simp at Np;omega) ⟨⟨hv2.1.2.trans t1,by rw[hv2.2.2.1];exact t2⟩,?_⟩
     rw[hv2.2.1,show c.A1.length+1-(i+1)=c.A1.length-i from by omega]
     exact hor
 . rw[show c.A1.length+1-i=0 from by omega]at t3
   exact t3.elim
theorem pF3 {x y} {P:Ad×AH×Bool->Prop}:Kl (some (x,y,false)) λr:Ad×AH×Bool=>r.2.2=true->P r:=pR λh=>by cases h
theorem s7 {E:Nat} {c:BF} (hc:CK c) (hV:∀t∈c.AA,VS t) {s:Ad} (hs:SI E s) (hE:E≤10000) {pre:List AH} {S:AB} (hl:LK c pre S s) (ch:BK):
 Kl (BE c s ch) λr=>r.2.2=true->∃x x',s.AA[ch.Thread.toNat]? =some x/\r.1.AA[ch.Thread.toNat]? =some x'/\x'.AF=x.AF+1:=by
 obtain⟨hr,hs⟩:=hs
 unfold BE
 refine pB (pT (To hc hs (by omega) ch.Thread)) λv hv=>pI (λ_=>pF3) λh=> ?_
 have hv:=hv (by simpa using h)
 obtain⟨hf,ht,_,hh,hi⟩:=hv
 have hw:=EC hf.v.w
 have w1:=hw.c;have w2:=hw.f;have w3:=hw.t;have c1:=hf.c';have c2:=hf.u;have c3:=hf.n;have c4:=hf.v.n
 refine pS λap _=>pI (λ_=>pF3) λh2=>pE (Z0 hs (by omega) (Tn.of hw hf.f (hr.mono (by omega))) (by omega) (by omega) (by omega)) ?_
 obtain⟨x,x1,x2,x3⟩:=Fm (l:=s.AA) (i:=ch.Thread) (by omega)
 obtain⟨y,y1,y2,y3⟩:=Fm (l:=c.AA) (i:=ch.Thread) (by omega)
 obtain⟨p1,p2,p3⟩:=hf.t _ x y x2 y2
 obtain⟨z,z1,z2,z3⟩:=Fm (l:=y.A1) (i:=x.PC) (by omega)
 obtain⟨q,q1,q2,q3⟩:=Fm (l:=s.Sync.AA) (i:=ch.Thread) (by have:=(FA hf.f).2.2;omega)
 have hpi:=hi x y z q x2 y2 z2 q2
 have hx:=hs x x3
 have hVy:=hV y y3
 have hVt:=hf.v.t _ y y2
 have hil:=hc.i y y3
 have he:=hx.e
 have nx:∀n:Int,0≤n->n<y.A1.length->Lnd y.A1 (y.A1.length+1) n:=λn n0 n1=>by
  obtain⟨m,rfl⟩:∃m:Nat,n=m:=⟨n.toNat,by omega⟩
  exact(hVy m _ (AAT (by omega))).1
 have nx1:v.1.Kind≠1->v.1.Kind≠2->Lnd y.A1 (y.A1.length+1) (Ap (x.PC+1)):=λk1 k2=>by
  have h28:z.Op≠28:=by
   rcases hpi.s with⟨k,_⟩|⟨⟨q4,_⟩|⟨_,k,_⟩,_⟩
   . exact absurd k k1
   . obtain⟨z',b1,b2⟩:=hl.w _ x y q x2 y2 q2 (.inr q4)
     rw[z1]at b1
     obtain rfl:=AAR b1
     omega
   . exactλh=>k2 (k.2 h)
  have:=(hVy _ z z2).2.1
  have:x.PC.toNat+1≠y.A1.length:=λh=>h28 (this.2 h)
  rw[DR (by omega) (by omega)]
  exact nx _ (by omega) (by omega)
 refine pE x1 (pE y1 (pE z1 ?_))
 let G:Ad×AH×Bool->Prop:=λr=>r.2.2=true->∃x x',s.AA[ch.Thread.toNat]? =some x/\r.1.AA[ch.Thread.toNat]? =some x'/\x'.AF=x.AF+1
 have j6:∀e C F t,t.AF=x.AF+1->Kl (BE.J6 ch e C F ap s t) G:=by
  intro e C F t h1;unfold BE.J6
  exact pS λ_ _=>pR λ_=>⟨x,t,x2,by simp only;rw[AAS (by omega)],h1⟩
 have j5:∀e n C F t b,(t.AF=x.AF/\(t.Br.length:Int)=y.Br/\(t.Bn.length:Int)=y.Br)->(b=true->Lnd y.A1 (y.A1.length+1) n)->Kl (BE.J5 c ch e n C F t ap s b) G:=by
  intro e n C F t b h1 hb;unfold BE.J5
  have e1:Ap (t.AF+1)=x.AF+1:=by rw[h1.1];exact DR (by omega) (by omega)
  refine pI (λh=>pE y1 (pB (eL hVy hil (λx hx=>(hVt.i x hx).g) hVt.r.2 h1.2.1 h1.2.2 (hb h)) λu hu=>j6 _ _ _ _ (hu.trans e1))) λ_=>j6 _ _ _ _ e1
 have j3:∀e n C F b,(e.Kind≠16->e.Kind≠2->Lnd y.A1 (y.A1.length+1) n)->Kl (BE.J3 c ch e n C F ap s x z b) G:=by
  intro e n C F b hn;unfold BE.J3 BE.J4
  have k:∀t,(t.AF=x.AF/\(t.Br.length:Int)=y.Br/\(t.Bn.length:Int)=y.Br)->Kl (if(e.Kind != 16)=true then BE.J5 c ch e n C F t ap s (e.Kind != 2)else BE.J5 c ch e n C F t ap s false) G:=λt ht=>pI (λh16=>j5 _ _ _ _ _ _ ht λh2=>hn (by simpa using h16) (by simpa using h2)) λ_=>j5 _ _ _ _ _ _ ht λh=>by cases h
  exact pI (λ_=>pS λ_ _=>pS λ_ _=>k _ ⟨rfl,by simpa using p2,by simpa using p3⟩) λ_=>k _ ⟨rfl,p2,p3⟩
 have j2:∀C F e n,(e.Kind≠16->e.Kind≠2->Lnd y.A1 (y.A1.length+1) n)->Kl (BE.J2 c ch ap s x z C F e n) G:=by
  intro C F e n hn;unfold BE.J2
  exact pI (λ_=>j3 _ _ _ _ _ hn) λ_=>j3 _ _ _ _ _ hn
 have j1:∀b,(b=false->v.1.Kind≠1)->Kl (BE.J1 c ch v ap s x z b) G:=by
  intro b hb;unfold BE.J1
  refine pI (λ_=>j2 _ _ _ _ λ_ _=>nx _ p1.1 p1.2) λh0=> ?_
  have n1:=nx1 (hb h0)
  refine pI (λ_=>pS λ_ _=>j2 _ _ _ _ λ_ k=>n1 k) λ_=>pI (λ_=>pS λ_ _=>j2 _ _ _ _ λ_ k=>n1 k) λ_=>pI (λ_=>pS λ_ _=>pS λ_ _=>j2 _ _ _ _ λ_ k=>n1 k) λ_=>pI (λ_=>pS λ_ _=>pS λ_ _=>j2 _ _ _ _ λ_ k=>n1 k) λ_=>pI (λh5=>pS λ_ _=>pI (λ_=>j2 _ _ _ _ λ_ _=> ?_) λ_=>j2 _ _ _ _ λ_ k=>n1 k) λ_=>j2 _ _ _ _ λ_ k=>n1 k
  have:=(hVy _ z z2).2.2.1 (hpi.j (eq_of_beq h5))
  exact nx _ this.1 this.2
 exact pI (λh=>j1 _ λh'=>by rw[h']at h;cases h) λh1=>pI (λh=>j1 _ λh'=>by rw[h']at h;cases h) λ_=>j1 _ λ_=>by simpa using h1
def chOf (e:AH):BK:=⟨e.Thread,if e.Kind=18/\0≤e.Value/\e.Value<4 then e.Value else -1⟩
def runE (c:BF):Ad->List AH->Ad->Prop
 |s,[],t=>s=t
 |s,e::r,t=>∃s',BE c s (chOf e)=some (s',e,true)/\runE c s' r t
structure GP (c:BF) (pre:List AH) (s:Ad):Prop where
 i:SI pre.length s
 l:LK c pre (pre.foldl (GL c.World) (Gg c.World)) s
 k:∀(u:Nat) x,s.AA[u]? =some x->ix (pre.foldl (GL c.World) (Gg c.World)).Count (u:Int)=x.AF
 n:s.AA.length=c.AA.length
theorem GP.step {c:BF} (hc:CK c) (hV:∀t∈c.AA,VS t) {pre:List AH} {s s':Ad} {ch:BK} {e:AH} (h:GP c pre s) (hp:pre.length≤400) (hs:BE c s ch=some (s',e,true)):GP c (pre++[e]) s':=by
 obtain⟨r,h1,h2⟩:=dC hc h.i (by omega) ch
 rw[hs]at h1
 obtain rfl:=AAR h1
 obtain⟨⟨q1,q2⟩,hsr⟩:=h2 rfl
 obtain⟨_,_,b3⟩:=sim (by omega) h.i h.l hsr
 obtain⟨x,x',x1,x2,x3⟩:=s7 hc hV h.i (by omega) h.l ch _ hs rfl
 obtain⟨y,y',y1,y2,_⟩:=hsr.th
 simp only at x2 y1 y2 q1 b3
 have hf:(pre++[e]).foldl (GL c.World) (Gg c.World)=GL c.World (pre.foldl (GL c.World) (Gg c.World)) e:=by rw[List.foldl_append];rfl
 have hx:=h.i.2 x (AAb x1)
 have ht:=hsr.p.t
 have hth:e.Thread=ch.Thread:=hsr.p.h
 have hn:=hsr.p.f.n;have hn2:=hsr.p.f.v.n
 refine⟨by rw[AA1];exact q1,by rw[hf];exact b3,λu a ha=> ?_,by rw[y2,List.length_set];exact h.n⟩
 rw[hf]
 show ix ((pre.foldl (GL c.World) (Gg c.World)).Count.set e.Thread.toNat (Ap (ix (pre.foldl (GL c.World) (Gg c.World)).Count e.Thread+1))) u=_
 have hcn:=h.l.n
 rw[hth]
 by_cases hu:(u:Int)=ch.Thread
 . have e1:ch.Thread.toNat=u:=by omega
   rw[e1]at x1 x2 ⊢
   rw[ha]at x2
   obtain rfl:=AAR x2
   have:=h.k u x x1
   rw[← hu,this,x3]
   have he:=hx.e
   rw[DR (by omega) (by omega)]
   unfold ix
   have D5:u<(pre.foldl (GL c.World) (Gg c.World)).Count.length:=by omega
   simp[D5]
 . have e1:ch.Thread.toNat≠u:=by omega
   rw[y2,AAV e1]at ha
   rw[← h.k u a ha]
   unfold ix
   rw[AAV (by omega)]
theorem GP.run {c:BF} (hc:CK c) (hV:∀t∈c.AA,VS t) {t:Ad}:∀{l pre s},GP c pre s->runE c s l t->pre.length+l.length≤400->GP c (pre++l) t
 |[],pre,s,h,hr,_=>by cases hr;rw[ABf];exact h
 |e::r,pre,s,h,⟨s',h1,h2⟩,hp=>by
  simp only[AA7]at hp
  have:=GP.run hc hV (h.step hc hV (by omega) h1) h2 (by simp;omega)
  rwa [AA6]at this
end Go.Abs
namespace Go.Abs
open Go.Proofs Go.RowKit
set_option maxRecDepth 100000
set_option maxHeartbeats 4000000
theorem Lj {α:Type} {e:α->List AV} {ok:α->Prop}:∀(rows:List (List AV)),(∀row∈rows,∃x:α,row=e x/\ok x)->∃l:List α,rows=l.map e/\∀x∈l,ok x
 |[],_=>⟨[],rfl,λ_ h=>by simp at h⟩
 |r::rs,h=>by
  obtain⟨l,hl,ho⟩:=Lj rs (λrow hr=>h row (by simp[hr]))
  obtain⟨x,hx,hxo⟩:=h r (by simp)
  refine⟨x::l,by rw[hx,hl];rfl,λy hy=> ?_⟩
  rcases AAp.1 hy with rfl|hy
  . exact hxo
  . exact ho y hy
def WR (x:Int):Prop:=(Lit.int .u8 x).wf=true
structure Yi (x:List Int):Prop where
 len:x.length*1≤reachBytes
 all:∀y∈x,WR y
theorem op5:Hf Tryz.prog 5 (λDt=>∃x:Int,Dt=[.sc (.int .u8 x)]/\WR x):=(Yj Tryz.underlying5).mono λ_ ⟨n,h,hw⟩=>⟨n,h,hw⟩
theorem op22:Hf Tryz.prog 22 (λDt=>∃x:List Int,Dt=[.sl false 1 (x.map YL)]/\Yi x):=by
 refine(Je (k:=1) Tryz.underlying22 (by kernel_rfl) (by omega) op5).mono ?_
 rintro Dt ⟨rows,rfl,hr,hb⟩
 obtain⟨l,rfl,hl⟩:=Lj (e:=YL) (ok:=WR) rows λrow h=>(hr row h).1
 have kT:Tryz.prog.bytesOf 5=1:=by kernel_rfl
 rw[kT,AAo]at hb
 exact⟨l,rfl,hb,hl⟩
def okS (x:ABq):Prop:=x.size≤reachBytes
def Gh (x:Int):Prop:=(Lit.int .i64 x).wf=true
def okB (_:Bool):Prop:=True
structure okCell (x:DB):Prop where
 f0:okS x.Name
 f1:Gh x.Index
 f2:Gh x.B0
 f3:okB x.Fv
 f4:Gh x.Init
structure yS (x:List DB):Prop where
 len:x.length*48≤reachBytes
 all:∀y∈x,okCell y
structure okLock (x:Ic):Prop where
 f0:okS x.Name
 f1:okB x.RW
structure yU (x:List Ic):Prop where
 len:x.length*24≤reachBytes
 all:∀y∈x,okLock y
structure okCond (x:LL):Prop where
 f0:okS x.Name
 f1:Gh x.Mutex
structure yT (x:List LL):Prop where
 len:x.length*24≤reachBytes
 all:∀y∈x,okCond y
structure okL_S (x:List ABq):Prop where
 len:x.length*16≤reachBytes
 all:∀y∈x,okS y
structure okSite (x:DL):Prop where
 f0:Gh x.Thread
 f1:Gh x.Stmt
 f2:Gh x.Ep
structure yV (x:List DL):Prop where
 len:x.length*24≤reachBytes
 all:∀y∈x,okSite y
structure okWorld (x:AD):Prop where
 f0:yS x.Cells
 f1:yU x.AG
 f2:yT x.Af
 f3:okL_S x.AK
 f4:okL_S x.AA
 f5:yV x.A7
structure OE (x:List Int):Prop where
 len:x.length*8≤reachBytes
 all:∀y∈x,Gh y
structure okEvent (x:AH):Prop where
 f0:Gh x.Thread
 f1:Gh x.Kind
 f2:Gh x.Obj
 f3:Gh x.Value
 f4:Gh x.Site
 f5:OE x.D9
 f6:OE x.Db
structure dG (x:List AH):Prop where
 len:x.length*88≤reachBytes
 all:∀y∈x,okEvent y
theorem op9:Hf Tryz.prog 9 (λDt=>∃x:ABq,Dt=eS x/\okS x):=(lN Tryz.underlying9).mono λ_ ⟨s,h,hs⟩=>⟨s,h,hs⟩
theorem op3:Hf Tryz.prog 3 (λDt=>∃x:Int,Dt=[si x]/\Gh x):=(Yj Tryz.underlying3).mono λ_ ⟨n,h,hw⟩=>⟨n,h,hw⟩
theorem arg3 (a:AV):XQ Tryz.prog 3 [a]=a:=by unfold XQ;rw[Tryz.underlying3];rfl
theorem op4:Hf Tryz.prog 4 (λDt=>∃x:Bool,Dt=eB x/\okB x):=(yY Tryz.underlying4).mono λ_ ⟨b,h⟩=>⟨b,h,trivial⟩
theorem op2:Hf Tryz.prog 2 (λDt=>∃x:Int,Dt=[si x]/\Gh x):=(Yj Tryz.underlying2).mono λ_ ⟨n,h,hw⟩=>⟨n,h,hw⟩
theorem op151:Hf Tryz.prog 151 (λDt=>∃x:DB,Dt=Fw x/\okCell x):=by
 refine(KC (Xs:=[λDt=>∃x:ABq,Dt=eS x/\okS x,λDt=>∃x:Int,Dt=[si x]/\Gh x,λDt=>∃x:Int,Dt=[si x]/\Gh x,λDt=>∃x:Bool,Dt=eB x/\okB x,λDt=>∃x:Int,Dt=[si x]/\Gh x]) Tryz.underlying151 ⟨by kernel_rfl,op9,⟨by kernel_rfl,op3,⟨by kernel_rfl,op3,⟨by kernel_rfl,op4,⟨by kernel_rfl,op2,trivial⟩⟩⟩⟩⟩ (by kernel_rfl)).mono ?_
 rintro Dt ⟨a0,r0,rfl,⟨x0,rfl,h0⟩,⟨a1,r1,rfl,⟨x1,rfl,h1⟩,⟨a2,r2,rfl,⟨x2,rfl,h2⟩,⟨a3,r3,rfl,⟨x3,rfl,h3⟩,⟨a4,r4,rfl,⟨x4,rfl,h4⟩,rfl⟩⟩⟩⟩⟩
 exact⟨⟨x0,x1,x2,x3,x4⟩,rfl,⟨h0,h1,h2,h3,h4⟩⟩
theorem op23:Hf Tryz.prog 23 (λDt=>∃x:List DB,Dt=[.sl false 5 (x.map Fw)]/\yS x):=by
 refine(Je (k:=5) Tryz.underlying23 (by kernel_rfl) (by omega) op151).mono ?_
 rintro Dt ⟨rows,rfl,hr,hb⟩
 obtain⟨l,rfl,hl⟩:=Lj (e:=Fw) (ok:=okCell) rows λrow h=>(hr row h).1
 have kT:Tryz.prog.bytesOf 151=48:=by kernel_rfl
 rw[kT,AAo]at hb
 exact⟨l,rfl,hb,hl⟩
theorem op155:Hf Tryz.prog 155 (λDt=>∃x:Ic,Dt=HG x/\okLock x):=by
 refine(KC (Xs:=[λDt=>∃x:ABq,Dt=eS x/\okS x,λDt=>∃x:Bool,Dt=eB x/\okB x]) Tryz.underlying155 ⟨by kernel_rfl,op9,⟨by kernel_rfl,op4,trivial⟩⟩ (by kernel_rfl)).mono ?_
 rintro Dt ⟨a0,r0,rfl,⟨x0,rfl,h0⟩,⟨a1,r1,rfl,⟨x1,rfl,h1⟩,rfl⟩⟩
 exact⟨⟨x0,x1⟩,rfl,⟨h0,h1⟩⟩
theorem op24:Hf Tryz.prog 24 (λDt=>∃x:List Ic,Dt=[.sl false 2 (x.map HG)]/\yU x):=by
 refine(Je (k:=2) Tryz.underlying24 (by kernel_rfl) (by omega) op155).mono ?_
 rintro Dt ⟨rows,rfl,hr,hb⟩
 obtain⟨l,rfl,hl⟩:=Lj (e:=HG) (ok:=okLock) rows λrow h=>(hr row h).1
 have kT:Tryz.prog.bytesOf 155=24:=by kernel_rfl
 rw[kT,AAo]at hb
 exact⟨l,rfl,hb,hl⟩
theorem op158:Hf Tryz.prog 158 (λDt=>∃x:LL,Dt=HF x/\okCond x):=by
 refine(KC (Xs:=[λDt=>∃x:ABq,Dt=eS x/\okS x,λDt=>∃x:Int,Dt=[si x]/\Gh x]) Tryz.underlying158 ⟨by kernel_rfl,op9,⟨by kernel_rfl,op3,trivial⟩⟩ (by kernel_rfl)).mono ?_
 rintro Dt ⟨a0,r0,rfl,⟨x0,rfl,h0⟩,⟨a1,r1,rfl,⟨x1,rfl,h1⟩,rfl⟩⟩
 exact⟨⟨x0,x1⟩,rfl,⟨h0,h1⟩⟩
theorem op25:Hf Tryz.prog 25 (λDt=>∃x:List LL,Dt=[.sl false 2 (x.map HF)]/\yT x):=by
 refine(Je (k:=2) Tryz.underlying25 (by kernel_rfl) (by omega) op158).mono ?_
 rintro Dt ⟨rows,rfl,hr,hb⟩
 obtain⟨l,rfl,hl⟩:=Lj (e:=HF) (ok:=okCond) rows λrow h=>(hr row h).1
 have kT:Tryz.prog.bytesOf 158=24:=by kernel_rfl
 rw[kT,AAo]at hb
 exact⟨l,rfl,hb,hl⟩
theorem op26:Hf Tryz.prog 26 (λDt=>∃x:List ABq,Dt=[.sl false 1 (x.map eS)]/\okL_S x):=by
 refine(Je (k:=1) Tryz.underlying26 (by kernel_rfl) (by omega) op9).mono ?_
 rintro Dt ⟨rows,rfl,hr,hb⟩
 obtain⟨l,rfl,hl⟩:=Lj (e:=eS) (ok:=okS) rows λrow h=>(hr row h).1
 have kT:Tryz.prog.bytesOf 9=16:=by kernel_rfl
 rw[kT,AAo]at hb
 exact⟨l,rfl,hb,hl⟩
theorem op162:Hf Tryz.prog 162 (λDt=>∃x:DL,Dt=FO x/\okSite x):=by
 refine(KC (Xs:=[λDt=>∃x:Int,Dt=[si x]/\Gh x,λDt=>∃x:Int,Dt=[si x]/\Gh x,λDt=>∃x:Int,Dt=[si x]/\Gh x]) Tryz.underlying162 ⟨by kernel_rfl,op3,⟨by kernel_rfl,op3,⟨by kernel_rfl,op3,trivial⟩⟩⟩ (by kernel_rfl)).mono ?_
 rintro Dt ⟨a0,r0,rfl,⟨x0,rfl,h0⟩,⟨a1,r1,rfl,⟨x1,rfl,h1⟩,⟨a2,r2,rfl,⟨x2,rfl,h2⟩,rfl⟩⟩⟩
 exact⟨⟨x0,x1,x2⟩,rfl,⟨h0,h1,h2⟩⟩
theorem op27:Hf Tryz.prog 27 (λDt=>∃x:List DL,Dt=[.sl false 3 (x.map FO)]/\yV x):=by
 refine(Je (k:=3) Tryz.underlying27 (by kernel_rfl) (by omega) op162).mono ?_
 rintro Dt ⟨rows,rfl,hr,hb⟩
 obtain⟨l,rfl,hl⟩:=Lj (e:=FO) (ok:=okSite) rows λrow h=>(hr row h).1
 have kT:Tryz.prog.bytesOf 162=24:=by kernel_rfl
 rw[kT,AAo]at hb
 exact⟨l,rfl,hb,hl⟩
theorem op29:Hf Tryz.prog 29 (λDt=>∃x:AD,Dt=Ai x/\okWorld x):=by
 refine(KC (Xs:=[λDt=>∃x:List DB,Dt=[.sl false 5 (x.map Fw)]/\yS x,λDt=>∃x:List Ic,Dt=[.sl false 2 (x.map HG)]/\yU x,λDt=>∃x:List LL,Dt=[.sl false 2 (x.map HF)]/\yT x,λDt=>∃x:List ABq,Dt=[.sl false 1 (x.map eS)]/\okL_S x,λDt=>∃x:List ABq,Dt=[.sl false 1 (x.map eS)]/\okL_S x,λDt=>∃x:List DL,Dt=[.sl false 3 (x.map FO)]/\yV x]) Tryz.underlying29 ⟨by kernel_rfl,op23,⟨by kernel_rfl,op24,⟨by kernel_rfl,op25,⟨by kernel_rfl,op26,⟨by kernel_rfl,op26,⟨by kernel_rfl,op27,trivial⟩⟩⟩⟩⟩⟩ (by kernel_rfl)).mono ?_
 rintro Dt ⟨a0,r0,rfl,⟨x0,rfl,h0⟩,⟨a1,r1,rfl,⟨x1,rfl,h1⟩,⟨a2,r2,rfl,⟨x2,rfl,h2⟩,⟨a3,r3,rfl,⟨x3,rfl,h3⟩,⟨a4,r4,rfl,⟨x4,rfl,h4⟩,⟨a5,r5,rfl,⟨x5,rfl,h5⟩,rfl⟩⟩⟩⟩⟩⟩
 exact⟨⟨x0,x1,x2,x3,x4,x5⟩,rfl,⟨h0,h1,h2,h3,h4,h5⟩⟩
theorem op48:Hf Tryz.prog 48 (λDt=>∃x:List Int,Dt=[.sl false 1 (x.map eI)]/\OE x):=by
 refine(Je (k:=1) Tryz.underlying48 (by kernel_rfl) (by omega) op3).mono ?_
 rintro Dt ⟨rows,rfl,hr,hb⟩
 obtain⟨l,rfl,hl⟩:=Lj (e:=eI) (ok:=Gh) rows λrow h=>(hr row h).1
 have kT:Tryz.prog.bytesOf 3=8:=by kernel_rfl
 rw[kT,AAo]at hb
 exact⟨l,rfl,hb,hl⟩
theorem op83:Hf Tryz.prog 83 (λDt=>∃x:AH,Dt=BG x/\okEvent x):=by
 refine(KC (Xs:=[λDt=>∃x:Int,Dt=[si x]/\Gh x,λDt=>∃x:Int,Dt=[si x]/\Gh x,λDt=>∃x:Int,Dt=[si x]/\Gh x,λDt=>∃x:Int,Dt=[si x]/\Gh x,λDt=>∃x:Int,Dt=[si x]/\Gh x,λDt=>∃x:List Int,Dt=[.sl false 1 (x.map eI)]/\OE x,λDt=>∃x:List Int,Dt=[.sl false 1 (x.map eI)]/\OE x]) Tryz.underlying83 ⟨by kernel_rfl,op3,⟨by kernel_rfl,op3,⟨by kernel_rfl,op3,⟨by kernel_rfl,op2,⟨by kernel_rfl,op3,⟨by kernel_rfl,op48,⟨by kernel_rfl,op48,trivial⟩⟩⟩⟩⟩⟩⟩ (by kernel_rfl)).mono ?_
 rintro Dt ⟨a0,r0,rfl,⟨x0,rfl,h0⟩,⟨a1,r1,rfl,⟨x1,rfl,h1⟩,⟨a2,r2,rfl,⟨x2,rfl,h2⟩,⟨a3,r3,rfl,⟨x3,rfl,h3⟩,⟨a4,r4,rfl,⟨x4,rfl,h4⟩,⟨a5,r5,rfl,⟨x5,rfl,h5⟩,⟨a6,r6,rfl,⟨x6,rfl,h6⟩,rfl⟩⟩⟩⟩⟩⟩⟩
 exact⟨⟨x0,x1,x2,x3,x4,x5,x6⟩,rfl,⟨h0,h1,h2,h3,h4,h5,h6⟩⟩
theorem op34:Hf Tryz.prog 34 (λDt=>∃x:List AH,Dt=[.sl false 7 (x.map BG)]/\dG x):=by
 refine(Je (k:=7) Tryz.underlying34 (by kernel_rfl) (by omega) op83).mono ?_
 rintro Dt ⟨rows,rfl,hr,hb⟩
 obtain⟨l,rfl,hl⟩:=Lj (e:=BG) (ok:=okEvent) rows λrow h=>(hr row h).1
 have kT:Tryz.prog.bytesOf 83=88:=by kernel_rfl
 rw[kT,AAo]at hb
 exact⟨l,rfl,hb,hl⟩
structure okTrace (x:Az):Prop where
 f0:okWorld x.World
 f1:dG x.AF
theorem op36:Hf Tryz.prog 36 (λDt=>∃x:Az,Dt=Hj x/\okTrace x):=by
 refine(KC (Xs:=[λDt=>∃x:AD,Dt=Ai x/\okWorld x,λDt=>∃x:List AH,Dt=[.sl false 7 (x.map BG)]/\dG x]) Tryz.underlying36 ⟨by kernel_rfl,op29,⟨by kernel_rfl,op34,trivial⟩⟩ (by kernel_rfl)).mono ?_
 rintro Dt ⟨a0,r0,rfl,⟨x0,rfl,h0⟩,⟨a1,r1,rfl,⟨x1,rfl,h1⟩,rfl⟩⟩
 exact⟨⟨x0,x1⟩,rfl,⟨h0,h1⟩⟩
theorem arg36 (Dt:List AV):XQ Tryz.prog 36 Dt= .agg Dt:=by unfold XQ;rw[Tryz.underlying36];rfl
theorem laid:laidOutB Tryz.prog=true:=by kernel_rfl
theorem own0:ownKnob Tryz.prog.godebug=none:=by kernel_rfl
abbrev bT:List (String×DataW Unit):=[("interleave/token.keywords",Go.Proofs.YtdadohkcmclilaaGreatDoor.Rows.laid_interleave_token_keywords)]
theorem gName:Tryz.prog.globalNamed "interleave/token.keywords" =some 0:=by kernel_rfl
theorem gType:(Tryz.prog.globals[0]?).map (·.type)=some 271:=by kernel_rfl
theorem pK:(Go.Proofs.YtdadohkcmclilaaGreatDoor.Rows.laid_interleave_token_keywords:DataW Unit)= .agg (Kg.map λs=>.lit (.string s.data.toList)):=rfl
theorem gD {W:World} (h:laidMetH Tryz.prog bT W):GI W (Old W):=by
 rw[MakeChecks.laidMetH_plain _ _ _ (by kernel_rfl)]at h
 obtain⟨ps,⟨g0,t0,cs0,f0,p0,q0,hg0,ht0,hv0,hd0,_,_⟩,_,_⟩:=h
 obtain rfl:=AAR (gName.symm.trans hg0)
 obtain rfl:=AAR (gType.symm.trans ht0)
 obtain⟨xs,m,rfl,hx,hlen,hn,hel⟩:=DataW.trod_array Tryz.underlying271 hd0
 have ce:Tryz.prog.cellsOf 9=1:=by kernel_rfl
 rw[pK]at hx
 simp only[AAc,DataW.agg.injEq]at hx
 have BR:∀(j:Nat) s,Kg[j]? =some s->W.cell? ⟨0,j,none⟩=some (.string s):=by
  intro j s hj
  have hjn:j<22:=by
   have:=(AAQ.1 hj).1
   exact this
  have hxj:(xs.map (·.1))[j]? =some (.lit (.string s.data.toList)):=by rw[← hx.1,AAZ,hj];rfl
  rw[AAZ]at hxj
  cases hxs:xs[j]? with
  |none=>rw[hxs]at hxj;cases hxj
  |some y=>
   have ht:=hel j hjn
   rw[hxs,ce]at ht
   obtain⟨s',Fl,hy,_⟩:=DataW.trod_string Tryz.underlying9 ht
   rw[hxs]at hxj
   simp only[AAl,AAN]at hxj
   rw[hy]at hxj
   simp only[DataW.lit.injEq,Lit.string.injEq]at hxj
   have hss:s'=s:=ByteArray.ext (Array.toList_inj.1 hxj)
   subst hss
   rw[World.var?_cell gName hv0 j]
   have:(cs0.toList.drop (j*1)).take 1=[.string s']:=Fl
   rw[Nat.mul_one]at this
   have h0:cs0.toList[j]? =some (.string s'):=by
    have h1:((cs0.toList.drop j).take 1)[0]? =some (.string s'):=by rw[this];rfl
    simpa using h1
   simpa using h0
 intro x hxm
 have:x=(0,Kg.map Value.string):=by simpa[Gam]using hxm
 subst this
 have h0:=BR 0 _ rfl
 obtain⟨_,D5⟩:=kA h0
 refine⟨D5,?_⟩
 unfold World.cell? at h0
 cases hb:W.heap[0]? with
 |none=>simp[hb]at h0
 |some LO=>
  cases LO with
  |cells arr E fz=>
   refine⟨arr,E,fz,rfl,λj v hj=> ?_⟩
   rw[AAZ]at hj
   cases hs:Kg[j]? with
   |none=>rw[hs]at hj;cases hj
   |some s=>
    rw[hs]at hj
    simp only[AAl,AAN]at hj
    subst hj
    have:=BR j s hs
    unfold World.cell? at this
    simpa[hb]using this
  |_=>simp[hb]at h0
end Go.Abs
namespace Go.Abs
theorem evOK_L {l:List AH} (h:dG l):∀e∈l,S7 e:=by
 intro e he
 have:=h.all e he
 have h1:=this.f5.len;have h2:=this.f6.len
 unfold reachBytes at h1 h2
 exact⟨by omega,by omega⟩
theorem WTells_law {t:Az} {a b:Int} (h:okTrace t):D7 t a b=some true:=WindowTells_eq t (evOK_L h.f1) a b
end Go.Abs
