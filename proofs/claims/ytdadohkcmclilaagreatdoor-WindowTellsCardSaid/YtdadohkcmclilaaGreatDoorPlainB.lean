/- What the typed programs give, in plain Lean. -/
import Derived.Test.YtdadohkcmclilaaGreatDoorWalkR
import Derived.Test.YtdadohkcmclilaaGreatDoorPlainA
import Derived.KernelRfl
import Derived.Shelf.Slices.SearchI
set_option linter.unusedSimpArgs false
set_option linter.unusedVariables false
namespace Go.Abs
set_option maxHeartbeats 4000000
theorem RB.Kc {N M:Nat} {s:AN} (h:RB N s) (hM:N≤M) (i:Int) (f:AW->AW) (hf:(f (Abs.ix s.AG i)).As.length≤M):RB M (Abs.Kc s i f):=by
 intro x hx
 rcases AAv hx with hx|rfl
 . exact ABO (h x hx) hM
 . exact hf
theorem RB.apply {N:Nat} {s:AN} (h:RB N s) (wv:AD) (t k o wake:Int):RB (N+1) (EN wv s t k o wake).1:=by
 have h1:RB (N+1) s:=h.mono (by omega)
 have hi:=λi=>Nat.le_succ_of_le (h.ix i)
 have key:∀(p:Prop) [Decidable p] (a b:AN×Int),RB (N+1) a.1->RB (N+1) b.1->RB (N+1) (if p then a else b).1:=by
  intro p _ a b ha hb;split<;>assumption
 unfold EN
 repeat' refine key _ _ _ ?_ ?_
 all_goals first
  |exact h1
  |exact h.Kc (by omega) _ _ (hi _)
  | (refine h.Kc (by omega) _ _ ?_;have:=ZZ ((Abs.ix s.AG o).As++[t]);have:=h.ix o;simp at *;omega)
  | (refine h.Kc (by omega) _ _ (ABO (List.length_filter_le _ _) (hi _)))
  |exact h.Kc (by omega) (Abs.ix wv.Af o).Mutex (λx=>⟨-1,x.As⟩) (hi _)
  |exact h.Kc (by omega) (Abs.ix wv.Af o).Mutex (λx=>⟨t,x.As⟩) (hi _)
  | (by_cases hW:Bz o 0 s.AA=[]<;>simp only[hW,AAs,AAe]<;>exact h1)
theorem RB.start (wv:AD):RB 0 (Mj wv):=by
 intro x hx
 have:=List.eq_of_mem_replicate hx
 subst this;simp
def rF (e:AH):Bool:=e.Kind==3||e.Kind==23
def OB (l:List AH) (t:Int):List Bool:=(l.filter λe=>e.Thread==t).map rF
def NV (reads:List Bool) (k:Int):Bool:=Ee k reads.length&&ix reads k
def RG (pre:List AH) (ev:AH):Bool:=ev.D9.all (NV (OB pre ev.Thread))&&ev.Db.all (NV (OB pre ev.Thread))
theorem q9.L2 (L1:Int->ABp Bool) (l:List Int) (reads:List Bool) (t:Int) (hl:l.length<4611686018427387904):∀(n i:Nat),i≤l.length->l.length<n+i->Ay.C2 L1 l reads t n (i:Int)=if(l.drop i).all (NV reads)=true then Ay.J3 L1 t else some false
 |0,i,h1,h2=>by omega
 |n+1,i,h1,h2=>by
  unfold Ay.C2 Ay.L2
  by_cases hi:i<l.length
  . unfold Ay.J2
    rw[BC (by omega),CU hi,AAO,E6 hi,Ao (by omega),q9.L2 L1 l reads t hl n (i+1) (by omega) (by omega),ABF]
    generalize l[i]=x
    generalize (l.drop (i+1)).all (NV reads)=q
    unfold NV
    by_cases a1:x<0
    . have:Ee x reads.length=false:=by simp[Ee];omega
      simp[a1,this]
    . by_cases a2:x≥(reads.length:Int)
      . have:Ee x reads.length=false:=by simp[Ee];omega
        simp[a1,a2,this]
      . have h:Ee x reads.length=true:=by simp[Ee];omega
        rw[Ac a1,Ac a2,Cd h,AAO,h]
        cases ix reads x<;>simp
  . rw[Ac (by omega),GM hi];simp
theorem rA (reads:List Bool) (ev:AH) (he:S7 ev):Ay reads ev=some (ev.D9.all (NV reads)&&ev.Db.all (NV reads)):=by
 unfold Ay
 have hb:=B1
 have hJ1:∀L1 t l,l.length<4611686018427387904->Ay.J1 L1 reads t l=if l.all (NV reads)=true then Ay.J3 L1 t else some false:=by
  intro L1 t l hl
  have:=q9.L2 L1 l reads t hl BT 0 (by omega) (by omega)
  rw[AAq]at this
  exact this
 rw[aJ]
 generalize BT-3=m
 have r3:Ay.Aa ev reads (m+1) 2=some true:=by
  unfold Ay.Aa Ay.L1;rfl
 have r2:Ay.Aa ev reads (m+2) 1=some (ev.Db.all (NV reads)):=by
  unfold Ay.Aa Ay.L1
  rw[BC (by decide),AAX (by decide),AAY (by decide),hJ1 _ _ _ he.2]
  unfold Ay.J3
  rw[show Ap (1+1)=2 from rfl,r3]
  cases ev.Db.all (NV reads)<;>rfl
 unfold Ay.Aa Ay.L1
 rw[BC (by decide),AAY (by decide),hJ1 _ _ _ he.1]
 unfold Ay.J3
 rw[show Ap (0+1)=1 from rfl,r2]
 cases ev.D9.all (NV reads)<;>simp
def Yv (x t:Int):Int->List AH->Bool
 |_,[]=>false
 |nv,e::r=>if e.Thread=t then(nv==x&&rF e)||Yv x t (nv+1) r else Yv x t nv r
theorem rdB_cons (e:AH) (r:List AH) (t:Int):OB (e::r) t=if e.Thread=t then rF e::OB r t else OB r t:=by
 unfold OB
 by_cases h:e.Thread=t<;>simp[h]
theorem scan_eq (x t:Int) (l:List AH):∀nv:Int,Yv x t nv l=NV (OB l t) (x-nv):=by
 induction l with
 |nil=>intro nv;simp[Yv,NV,OB,Ee];omega
 |cons e r ih=>
  intro nv
  unfold Yv
  rw[rdB_cons]
  by_cases h:e.Thread=t
  . rw[AAY h,AAY h,ih]
    unfold NV
    by_cases h0:x=nv
    . subst h0
      have e1:Ee (x-x) (rF e::OB r t).length=true:=by rw[B9];simp only[AA7];omega
      have e2:ix (rF e::OB r t) (x-x)=rF e:=by simp[ix]
      have e3:Ee (x-(x+1)) (OB r t).length=false:=by
       cases hq:Ee (x-(x+1)) (OB r t).length with
       |false=>rfl
       |true=>have:=B9.1 hq;omega
      rw[e1,e2,e3];simp
    . have e0:(nv==x)=false:=by simpa usingλh=>h0 h.symm
      have e1:Ee (x-nv) (rF e::OB r t).length=Ee (x-(nv+1)) (OB r t).length:=by
       rw[Bool.eq_iff_iff,B9,B9];simp;omega
      rw[e0,e1]
      cases hb:Ee (x-(nv+1)) (OB r t).length with
      |false=>simp
      |true=>
       obtain⟨b1,b2⟩:=B9.1 hb
       have:ix (rF e::OB r t) (x-nv)=ix (OB r t) (x-(nv+1)):=by
        unfold ix
        rw[show(x-nv).toNat=(x-(nv+1)).toNat+1 from by omega,ABA]
       rw[this];simp
  . rw[AAX h,AAX h,ih]
theorem reads.L2 (L1:Int->ABp Bool) (i:Nat) (k:Int) (l:List AH) (numbers:List Int) (t x:Int) (hi:i≤l.length) (hi':i≤1000000) (hx:gt numbers k=some x):∀(n j nv:Nat) (ok:Bool),j≤i->i<n+j->nv≤j->
 Dq.C2 L1 (i:Int) k l numbers t n (nv:Int) ok (j:Int)=Dq.J3 L1 k (ok||Yv x t nv ((l.take i).drop j))
 |0,j,nv,ok,h1,h2,h3=>by omega
 |n+1,j,nv,ok,h1,h2,h3=>by
  unfold Dq.C2 Dq.L2
  by_cases hj:j<i
  . have wW:j<(l.take i).length:=by simp;omega
    have ih:=λ(nv':Nat) ok' h=>reads.L2 L1 i k l numbers t x hi hi' hx n (j+1) nv' ok' (by omega) (by omega) h
    unfold Dq.J1 Dq.J2
    rw[BC (by omega),CU (by omega),AAO,E6 wW,Ao (i:=j) (by omega),Ao (i:=nv) (by omega),hx,AAO,Yv]
    simp only[List.getElem_take,ih (nv+1) _ (by omega),ih nv _ (by omega),show((nv:Int)+1)=((nv+1:Nat):Int)from rfl]
    unfold rF
    by_cases ht:l[j].Thread=t
    . have e:(l[j].Thread != t)=false:=by simp[ht]
      rw[e,AAY ht]
      cases ok<;>cases(((nv:Int)==x))<;>cases(l[j].Kind==3)<;>simp
    . have e:(l[j].Thread != t)=true:=by simpa using ht
      rw[e,AAX ht];rfl
  . rw[Ac (by omega),List.drop_eq_nil_of_le (by simp;omega)]
    simp[Yv]
theorem reads_loop (i:Nat) (l:List AH) (numbers:List Int) (t:Int) (hi:i≤l.length) (hi':i≤1000000) (hl:numbers.length<4611686018427387904):∀(n k:Nat),k≤numbers.length->numbers.length<n+k->
 Dq.Aa (i:Int) l numbers t n (k:Int)=some ((numbers.drop k).all (NV (OB (l.take i) t)))
 |0,k,h1,h2=>by omega
 |n+1,k,h1,h2=>by
  unfold Dq.Aa Dq.L1
  by_cases hk:k<numbers.length
  . have:=reads.L2 (Dq.Aa (i:Int) l numbers t n) i (k:Int) l numbers t numbers[k] hi hi' (CU hk) BT 0 0 false (by omega) (by have:=B1;omega) (by omega)
    rw[AAq,scan_eq]at this
    simp only[Int.natCast_zero,Int.sub_zero,Bool.false_or]at this
    rw[BC (by omega),this,E6 hk,ABF]
    unfold Dq.J3 Dq.J4
    rw[Ao (by omega),reads_loop i l numbers t hi hi' hl n (k+1) (by omega) (by omega)]
    cases NV (OB (l.take i) t) numbers[k]<;>simp
  . rw[Ac (by omega),GM hk];rfl
theorem reads_eq (i:Nat) (l:List AH) (numbers:List Int) (t:Int) (hi:i≤l.length) (hi':i≤1000000) (hl:numbers.length<4611686018427387904):Dq l (i:Int) t numbers=some (numbers.all (NV (OB (l.take i) t))):=by
 have:=reads_loop i l numbers t hi hi' hl BT 0 (by omega) (by have:=B1;omega)
 rw[AAq]at this
 exact this
def Hg (wv:AD):List AH->AB->List AH->Int×Int
 |_,_,[]=>(0,0)
 |pre,s,x::r=>if(Kf wv s x&&RG pre x)=true then Hg wv (pre++[x]) (GL wv s x) r else((pre.length:Int),12)
def Io (t:Az):Int×Int:=if t.AF.length>400 then(0,2)else if Ck t.World=true then Hg t.World [] (Gg t.World) t.AF else(0,1)
theorem Pc {wv:AD} {s:AB} {x:AH} (h:Kf wv s x=true):Ee x.Thread wv.AA.length=true:=by
 unfold Kf at h
 simp only[AAP]at h
 exact h.2.1
theorem NF (l:List AH) (x:AH) (t:Int):OB (l++[x]) t=if x.Thread=t then OB l t++[rF x]else OB l t:=by
 unfold OB
 rw[List.filter_append,AA9]
 by_cases h:x.Thread=t<;>simp[h]
theorem Ly (l:List AH) (t:Int):(OB l t).length≤l.length:=by
 unfold OB;rw[AAo];exact List.length_filter_le _ _
theorem Zx (t:Az) (hw:Small t.World) (hE:∀e∈t.AF,S7 e) (hl:t.AF.length≤400):∀(n i:Nat) (s:AB) (R:List (List Bool)),i≤t.AF.length->t.AF.length<n+i->RB i s.Sync->R.length=t.World.AA.length->(∀u:Nat,u<R.length->R[u]? =some (OB (t.AF.take i) (u:Int)))->
 CE.Aa t n s R (i:Int)=some (Hg t.World (t.AF.take i) s (t.AF.drop i))
 |0,i,s,R,h1,h2,_,_,_=>by omega
 |n+1,i,s,R,h1,h2,h3,h4,h5=>by
  unfold CE.Aa CE.L1
  by_cases hi:i<t.AF.length
  . have he:=hE _ (AAi hi)
    rw[BC (by omega),CU hi,AAO,qZ t.World hw s (h3.mono (by omega)) _ he,AAO,E6 hi,Hg,List.length_take_of_le (by omega)]
    unfold XV
    cases hp:Kf t.World s t.AF[i]with
    |false=>rfl
    |true=>
     rw[AAY rfl,AAX (c:=(!true)=true) (by simp),AA0]
     have ht:=Pc hp
     obtain⟨b1,b2⟩:=B9.1 ht
     have hu:t.AF[i].Thread.toNat<R.length:=by omega
     have hR:gt R t.AF[i].Thread=some (OB (t.AF.take i) t.AF[i].Thread):=by
      unfold gt
      rw[AAY b1,h5 _ hu]
      congr 2;omega
     have dY:=Ly (t.AF.take i) t.AF[i].Thread
     rw[List.length_take_of_le (by omega)]at dY
     rw[hR,AAO,rA _ _ he,AAO]
     unfold CE.J1
     show(if(!(RG (t.AF.take i) t.AF[i]))=true then _ else _)=_
     cases RG (t.AF.take i) t.AF[i]with
     |false=>rfl
     |true=>
      rw[AAX (c:=(!true)=true) (by simp),AAY rfl,hR,AAO,BL (by omega),BL (by omega)]
      unfold CE.J2
      have hk:∀b,b=rF t.AF[i]->CE.Aa t n (GL t.World s t.AF[i]) (R.set t.AF[i].Thread.toNat (OB (t.AF.take i) t.AF[i].Thread++[b])) (Ap ((i:Int)+1))=some (Hg t.World (t.AF.take i++[t.AF[i]]) (GL t.World s t.AF[i]) (t.AF.drop (i+1))):=by
       rintro b rfl
       rw[Ao (by omega),AAk hi]
       refine Zx t hw hE hl n (i+1) _ _ (by omega) (by omega) ?_ (by simpa using h4) ?_
       . exact h3.apply _ _ _ _ _
       . intro u xL
         rw[← AAk hi,NF]
         have hu'':u<R.length:=by simpa using xL
         by_cases hut:t.AF[i].Thread=(u:Int)
         . have:t.AF[i].Thread.toNat=u:=by omega
           rw[AAY hut,this,AAS hu'',hut]
         . have:t.AF[i].Thread.toNat≠u:=by omega
           rw[AAX hut,AAV this,h5 u hu'']
      by_cases k3:t.AF[i].Kind=3
      . rw[AAY (by simp[k3])];exact hk _ (by simp[rF,k3])
      . rw[AAX (by simpa using k3)]
        exact hk _ (by simp[rF,show(t.AF[i].Kind==3)=false by simpa using k3])
  . rw[Ac (by omega),GM hi];rfl
theorem Check_eq (t:Az) (hE:∀e∈t.AF,S7 e):CE t=some (Io t):=by
 unfold CE Io
 by_cases hl:t.AF.length>400
 . rw[BC (by omega),AAY hl]
 . rw[Ac (by omega),AAX hl,Xa,AAO]
   cases hv:Ck t.World with
   |false=>rfl
   |true=>
    have hw:=EC hv
    have h3:=hw.t
    rw[AAX (c:=(!true)=true) (by simp),MN _ hw,AAO,AAY ⟨by omega,by omega,DK (by omega)⟩,AAY rfl]
    have:=Zx t hw hE (by omega) BT 0 (Gg t.World) (List.replicate t.World.AA.length []) (by omega) (by have:=B1;omega) (RB.start _) (by simp) (by
     intro u hu
     simp at hu
     simp[hu,OB])
    rw[List.take_zero,AAq]at this
    exact this
theorem rCheck_loop (t:Az) (hw:Small t.World) (hE:∀e∈t.AF,S7 e) (hl:t.AF.length≤400):∀(n i:Nat) (s:AB),i≤t.AF.length->t.AF.length<n+i->RB i s.Sync->
 Gr.Aa t n s (i:Int)=some (Hg t.World (t.AF.take i) s (t.AF.drop i))
 |0,i,s,h1,h2,_=>by omega
 |n+1,i,s,h1,h2,h3=>by
  unfold Gr.Aa Gr.L1
  by_cases hi:i<t.AF.length
  . have he:=hE _ (AAi hi)
    rw[BC (by omega),CU hi,AAO,rStep_eq t.World hw s (h3.mono (by omega)) _ he,AAO,E6 hi,Hg,List.length_take_of_le (by omega)]
    unfold XV
    cases hp:Kf t.World s t.AF[i]with
    |false=>rfl
    |true=>
     rw[AAY rfl,AAX (c:=(!true)=true) (by simp),AA0,reads_eq i _ _ _ (by omega) (by omega) he.1,AAO,reads_eq i _ _ _ (by omega) (by omega) he.2,AAO]
     unfold RG
     cases t.AF[i].D9.all (NV (OB (t.AF.take i) t.AF[i].Thread))with
     |false=>rfl
     |true=>
      cases t.AF[i].Db.all (NV (OB (t.AF.take i) t.AF[i].Thread))with
      |false=>rfl
      |true=>
       rw[AAX (c:=(!true)=true) (by simp),AA0,AAY rfl]
       unfold Gr.J1
       rw[AAX (c:=(!true)=true) (by simp),Ao (by omega),AAk hi]
       exact rCheck_loop t hw hE hl n (i+1) _ (by omega) (by omega) (h3.apply _ _ _ _ _)
  . rw[Ac (by omega),GM hi];rfl
theorem rCheck_eq (t:Az) (hE:∀e∈t.AF,S7 e):Gr t=some (Io t):=by
 unfold Gr Io
 by_cases hl:t.AF.length>400
 . rw[BC (by omega),AAY hl]
 . rw[Ac (by omega),AAX hl,Ot,AAO]
   cases hv:Ck t.World with
   |false=>rfl
   |true=>
    have hw:=EC hv
    rw[AAX (c:=(!true)=true) (by simp),ref16_Start_eq _ hw,AAO,AAY rfl]
    have:=rCheck_loop t hw hE (by omega) BT 0 (Gg t.World) (by omega) (by have:=B1;omega) (RB.start _)
    rw[List.take_zero,AAq]at this
    exact this
theorem Lw {α:Type} [Inhabited α] {l:List α} {i j:Int} {a:α} (hi:Ee i l.length=true) (hj:Ee j l.length=true):ix (l.set i.toNat a) j=if j=i then a else ix l j:=by
 have hi:=B9.1 hi;have hj:=B9.1 hj
 unfold ix
 by_cases e:j=i
 . subst e;rw[AAY rfl,AAS (by omega)];rfl
 . rw[AAX e,AAV (by omega)]
theorem ix_map {α β:Type} [Inhabited α] [Inhabited β] {l:List α} {j:Int} {f:α->β} (hj:Ee j l.length=true):ix (l.map f) j=f (ix l j):=by
 have hj:=B9.1 hj
 have:j.toNat<l.length:=by omega
 unfold ix
 rw[AAZ,AAT this];rfl
structure TI (wv:AD) (B:Int->Prop) (L:List AW) (u:Int) (x:AE):Prop where
 s:0≤x.Status/\x.Status≤5
 b:B u↔2≤x.Status
 z:u=0->x.Status≠0
 c:x.Status=3∨x.Status=4->Ee x.D8 wv.Af.length=true/\(ix L (ix wv.Af x.D8).Mutex).CW≠u
 n:x.Status≠3->x.Status≠4->x.D8=0
 a:x.Atomic=true->2≤x.Status
structure LI (wv:AD) (B:Int->Prop) (i:Int) (x:AW):Prop where
 o:x.CW≠ -1->B x.CW
 w:x.As≠[]->(ix wv.AG i).RW=true/\x.CW= -1
 p:x.As.Pairwise (· < ·)
 r:∀y∈x.As,B y
structure YI (wv:AD) (B:Int->Prop) (s:AN):Prop where
 t:∀u,Ee u wv.AA.length=true->TI wv B s.AG u (ix s.AA u)
 l:∀i,Ee i wv.AG.length=true->LI wv B i (ix s.AG i)
 x:s.Tx≠ -1->B s.Tx
 b:∀u,B u->Ee u wv.AA.length=true
section
variable {wv:AD} {B:Int->Prop} {s:AN}
theorem YI.LB (h:YI wv B s) (hn:s.AA.length=wv.AA.length) {d:Int} {f:AE->AE} (hd:Ee d wv.AA.length=true) (hf:TI wv B s.AG d (f (ix s.AA d))):YI wv B (LB s d f):=by
 refine⟨λu hu=> ?_,h.l,h.x,h.b⟩
 show TI wv B s.AG u (ix (s.AA.set d.toNat (f (ix s.AA d))) u)
 rw[Lw (by rw[hn];exact hd) (by rw[hn];exact hu)]
 by_cases e:u=d
 . rw[AAY e,e];exact hf
 . rw[AAX e];exact h.t u hu
theorem YI.Kc (h:YI wv B s) (hc:∀o,Ee o wv.Af.length=true->Ee (ix wv.Af o).Mutex wv.AG.length=true) (hn:s.AG.length=wv.AG.length) {i:Int} {f:AW->AW} (hi:Ee i wv.AG.length=true) (hf:LI wv B i (f (ix s.AG i)))
 (ho:(f (ix s.AG i)).CW= -1∨(f (ix s.AG i)).CW=(ix s.AG i).CW∨Ee (f (ix s.AG i)).CW wv.AA.length=true/\(ix s.AA (f (ix s.AG i)).CW).Status=2):YI wv B (Kc s i f):=by
 refine⟨λu hu=> ?_,λj hj=> ?_,h.x,h.b⟩
 . have ht:=h.t u hu
   refine⟨ht.s,ht.b,ht.z,λh34=>⟨(ht.c h34).1,?_⟩,ht.n,ht.a⟩
   have h34:(ix s.AA u).Status=3∨(ix s.AA u).Status=4:=h34
   have hm:=hc _ (ht.c h34).1
   show(ix (s.AG.set i.toNat (f (ix s.AG i))) (ix wv.Af (ix s.AA u).D8).Mutex).CW≠u
   rw[Lw (by rw[hn];exact hi) (by rw[hn];exact hm)]
   by_cases e:(ix wv.Af (ix s.AA u).D8).Mutex=i
   . rw[AAY e]
     have hu:=B9.1 hu
     rcases ho with ho|ho|ho
     . omega
     . rw[ho,← e];exact(ht.c h34).2
     . intro e2
       rw[e2]at ho
       omega
   . rw[AAX e];exact(ht.c h34).2
 . show LI wv B j (ix (s.AG.set i.toNat (f (ix s.AG i))) j)
   rw[Lw (by rw[hn];exact hi) (by rw[hn];exact hj)]
   by_cases e:j=i
   . rw[AAY e,e];exact hf
   . rw[AAX e];exact h.l j hj
theorem YI.congr {B':Int->Prop} (h:YI wv B s) (hb:∀u,B' u↔B u):YI wv B' s:=by
 have:B'=B:=funext λu=>propext (hb u)
 rw[this];exact h
end
theorem Zc (l:List Int):(UE l).Pairwise (· < ·):=by
 exact NK l
theorem gA {wv:AD} {s:AN} (h:G8 wv s=true) (t k o wake:Int):G8 wv (EN wv s t k o wake).1=true:=by
  have hm:wv.Af.all (λc=>Ee c.Mutex wv.AG.length)=true:=by
    unfold G8 at h
    simp only[AAP]at h
    exact h.1
  have key:∀(p:Prop) [Decidable p] (a b:AN×Int),G8 wv a.1=true->G8 wv b.1=true->G8 wv (if p then a else b).1=true:=by
    intro p _ a b ha hb;split<;>assumption
  obtain⟨l1,l2,l3⟩:=FA h
  unfold EN
  repeat' refine key _ _ _ ?_ ?_
  all_goals first
    |exact h
    | (simp[G8,LB,Kc,hm,l1,l2,l3];done)
    | (by_cases hW:Bz o 0 s.AA=[]
       . simp only[hW,AAs];exact h
       . simp[hW,G8,LB,hm,l1,l2,l3])
theorem yK {wv:AD} {s:AN} (h:G8 wv s=true):∀o,Ee o wv.Af.length=true->Ee (ix wv.Af o).Mutex wv.AG.length=true:=λ_ ho=>HH h ho
theorem AAK {wv:AD} {s:AN} (hn:s.AA.length=wv.AA.length) {o u:Int} (h:u∈Bz o 0 s.AA):Ee u wv.AA.length=true/\(ix s.AA u).Status=3:=by
 have key:∀(T:List AE) (i:Nat) (u:Int),u∈Bz o i T->∃x,T[(u-i).toNat]? =some x/\x.Status=3:=by
  intro T
  induction T with
  |nil=>intro i u h;cases h
  |cons x r ih=>
   intro i u h
   unfold Bz at h
   have key:u∈Bz o (i+1) r->∃y,(x::r)[(u-i).toNat]? =some y/\y.Status=3:=by
    intro h
    have hr:=(Ie o r (i+1) u h).1
    obtain⟨y,y1,y2⟩:=ih (i+1) u h
    refine⟨y,?_,y2⟩
    rw[show(u-(i:Int)).toNat=(u-((i+1:Nat):Int)).toNat+1 from by omega,ABA]
    exact y1
   split at h
   . rename_i hw
     rcases AAp.1 h with rfl|h
     . refine⟨x,by simp,?_⟩
       unfold Ia at hw
       simp only[AAP]at hw
       exact eq_of_beq hw.1
     . exact key h
   . exact key h
 obtain⟨x,x1,x2⟩:=key _ _ _ h
 have hm:=Ie o s.AA 0 u h
 have x1:s.AA[u.toNat]? =some x:=by simpa using x1
 refine⟨B9.2 (by simp at hm;omega),?_⟩
 unfold ix;rw[x1];exact x2
theorem nN {wake:Int} {W:List Int} (h:W≠[]):EX wake W∈W:=by
 unfold EX
 rw[AAX h]
 split
 . rename_i h;simpa using h
 . cases W with
   |nil=>exact absurd rfl h
   |cons a r=>simp
theorem YI.apply {wv:AD} {B:Int->Prop} {s:AN} {t k o wake:Int} (hq:∀o,Ee o wv.Af.length=true->(ix wv.AG (ix wv.Af o).Mutex).RW=false) (h:YI wv B s) (he:DC wv s t k o=true):YI wv (λu=>B u∨u=t) (EN wv s t k o wake).1:=by
 unfold DC at he
 simp only[AAP]at he
 obtain⟨hf,ht,ha,hr⟩:=he
 obtain⟨l1,l2,l3⟩:=FA hf
 have hm:=yK hf
 have T:=h.t t ht
 unfold EN
 by_cases k1:k=1
 . rw[AAY k1]
   have hs:(ix s.AA t).Status=1:=by simpa[Kb,k1]using hr
   have up:∀{u},B u->B u∨u=t:=.inl
   refine⟨λu hu=> ?_,λi hi=> ?_,λhx=>up (h.x hx),λu hu=>hu.elim (h.b u) λe=>e▸ht⟩
   . show TI wv _ s.AG u (ix (s.AA.set t.toNat _) u)
     rw[Lw (by rw[l3];exact ht) (by rw[l3];exact hu)]
     have U:=h.t u hu
     by_cases e:u=t
     . rw[AAY e]
       exact⟨by simp,by simp[e],by simp,by simp,λ_ _=>T.n (by omega) (by omega),by simp⟩
     . rw[AAX e]
       exact⟨U.s,by simp[e,U.b],U.z,U.c,U.n,U.a⟩
   . have L:=h.l i hi
     exact⟨λh=>up (L.o h),L.w,L.p,λy hy=>up (L.r y hy)⟩
 rw[AAX k1]
 have h2:k≠17->(ix s.AA t).Status=2:=by
  intro gV
  unfold Kb at hr
  simp only[AAX k1,AAX gV,AAP]at hr
  exact eq_of_beq hr.1
 have h4:k=17->(ix s.AA t).Status=4/\(ix s.AA t).D8=o:=by
  intro gV
  unfold Kb at hr
  simp only[AAX k1,AAY gV,AAP]at hr
  exact⟨eq_of_beq hr.1,eq_of_beq hr.2.1⟩
 have hb:B t:=T.b.2 (by
  by_cases gV:k=17
  . have:=h4 gV;omega
  . have:=h2 gV;omega)
 refine YI.congr (B:=B) ?_ λu=>⟨λh=>h.elim id λe=>e▸hb,.inl⟩
 have own:∀{i},Ee i wv.AG.length=true->(ix s.AG i).As=[]->k≠17->YI wv B (Abs.Kc s i λx=>⟨t,x.As⟩):=λhi RF gV=>
  h.Kc hm l1 hi ⟨λ_=>hb,λh=>absurd RF h,(h.l _ hi).p,(h.l _ hi).r⟩ (.inr (.inr ⟨ht,h2 gV⟩))
 have off:∀{i},Ee i wv.AG.length=true->YI wv B (Abs.Kc s i λx=>⟨-1,x.As⟩):=λhi=>
  h.Kc hm l1 hi ⟨λh=>absurd rfl h,λh'=>⟨((h.l _ hi).w h').1,rfl⟩,(h.l _ hi).p,(h.l _ hi).r⟩ (.inl rfl)
 by_cases k2:k=2
 . rw[AAY k2]
   have h2:=h2 (by omega)
   dsimp only
   apply h.LB l3 ht
   exact⟨by simp,by simp[hb],by simp,by simp,λ_ _=>T.n (by omega) (by omega),by simp⟩
 rw[AAX k2]
 by_cases k6:k=6∨k=10
 . rw[AAY k6]
   have hi:Ee o wv.AG.length=true:=by
    rcases k6 with rfl|rfl<;>simp[CF]at ha<;>exact ha.1
   refine own hi ?_ (by omega)
   rcases k6 with rfl|rfl
   . have hw:(ix wv.AG o).RW=false:=by simp[CF]at ha;exact ha.2
     by_cases e:(ix s.AG o).As=[]
     . exact e
     . have:=(h.l o hi).w e;rw[hw]at this;simp at this
   . simp[Kb]at hr
     exact hr.2.2
 rw[AAX k6]
 by_cases k7:k=7∨k=11
 . rw[AAY k7]
   refine off ?_
   rcases k7 with rfl|rfl<;>simp[CF]at ha<;>exact ha.1
 rw[AAX k7]
 by_cases k8:k=8
 . rw[AAY k8]
   subst k8
   simp[CF]at ha
   simp[Kb]at hr
   have L:=h.l o ha.1
   dsimp only
   applyλx=>h.Kc hm l1 ha.1 x (.inr (.inl rfl))
   refine⟨L.o,λ_=>⟨ha.2,hr.2.1⟩,Zc _,?_⟩
   intro y hy
   have hy:y∈(ix s.AG o).As++[t]:=(Pb _ y).1 hy
   rcases AAj.1 hy with hy|hy
   . exact L.r y hy
   . rw[AA4.1 hy];exact hb
 rw[AAX k8]
 by_cases k9:k=9
 . rw[AAY k9]
   subst k9
   simp[CF]at ha
   have L:=h.l o ha.1
   dsimp only
   applyλx=>h.Kc hm l1 ha.1 x (.inr (.inl rfl))
   exact⟨L.o,λh'=>L.w λe=>h' (by simp[e]),L.p.sublist List.filter_sublist,λy hy=>L.r y (List.mem_filter.1 hy).1⟩
 rw[AAX k9]
 by_cases k12:k=12
 . rw[AAY k12];exact⟨h.t,h.l,λ_=>hb,h.b⟩
 rw[AAX k12]
 by_cases k13:k=13
 . rw[AAY k13];exact⟨h.t,h.l,λh=>absurd rfl h,h.b⟩
 rw[AAX k13]
 by_cases k14:k=14
 . rw[AAY k14]
   have h2:=h2 (by omega)
   dsimp only
   apply h.LB l3 ht
   exact⟨T.s,T.b,T.z,T.c,T.n,λ_=>by simp only;omega⟩
 rw[AAX k14]
 by_cases k15:k=15
 . rw[AAY k15]
   dsimp only
   apply h.LB l3 ht
   exact⟨T.s,T.b,T.z,T.c,T.n,λh=>by cases h⟩
 rw[AAX k15]
 by_cases k16:k=16
 . rw[AAY k16]
   have ho:Ee o wv.Af.length=true:=by simpa[CF,k16]using ha
   have hmu:=hm o ho
   dsimp only
   apply(off hmu).LB l3 ht
   refine⟨by simp,by simp[hb],by simp,λ_=>⟨ho,?_⟩,by simp,by simp⟩
   show(ix (s.AG.set _ _) _).CW≠t
   rw[Lw (by rw[l1];exact hmu) (by rw[l1];exact hmu),AAY rfl]
   have:=B9.1 ht
   simp only;omega
 rw[AAX k16]
 by_cases gV:k=17
 . rw[AAY gV]
   have ho:Ee o wv.Af.length=true:=by simpa[CF,gV]using ha
   have hmu:=hm o ho
   have hy:=h.LB l3 ht (f:=λx=>⟨2,0,x.Atomic⟩) ⟨by simp,by simp[hb],by simp,by simp,by simp,by simp⟩
   refine hy.Kc hm l1 (f:=λx=>⟨t,x.As⟩) hmu ⟨λ_=>hb,λh'=> ?_,(h.l _ hmu).p,(h.l _ hmu).r⟩ (.inr (.inr ⟨ht,?_⟩))
   . have hw:=((h.l _ hmu).w h').1
     rw[hq o ho]at hw;cases hw
   . show(ix (s.AA.set t.toNat _) t).Status=2
     rw[Lw (by rw[l3];exact ht) (by rw[l3];exact ht),AAY rfl]
 rw[AAX gV]
 by_cases UR:k=18
 . rw[AAY UR]
   by_cases hW:Bz o 0 s.AA=[]
   . simp only[hW,AAs];exact h
   . simp only[hW,AAe]
     obtain⟨d1,d2⟩:=AAK l3 (nN (wake:=wake) hW)
     have D:=h.t _ d1
     apply h.LB l3 d1
     exact⟨by simp[Hv],by simp[Hv];exact D.b.2 (by omega),by simp[Hv],λ_=>D.c (.inl d2),by simp[Hv],by simp[Hv]⟩
 rw[AAX UR]
 by_cases jK:k=19
 . rw[AAY jK]
   refine⟨λu hu=> ?_,h.l,h.x,h.b⟩
   show TI wv B s.AG u (ix (s.AA.map (IM o)) u)
   rw[ix_map (by rw[l3];exact hu)]
   have U:=h.t u hu
   unfold IM
   by_cases hw:Ia (ix s.AA u) o=true
   . have d2:(ix s.AA u).Status=3:=by
      unfold Ia at hw
      simp only[AAP]at hw
      exact eq_of_beq hw.1
     rw[AAY hw]
     exact⟨by simp[Hv],by simp[Hv];exact U.b.2 (by omega),by simp[Hv],λ_=>U.c (.inl d2),by simp[Hv],by simp[Hv]⟩
   . rw[AAX hw];exact U
 rw[AAX jK]
 by_cases k20:k=20
 . rw[AAY k20]
   have ho:Ee o wv.AA.length=true:=by simpa[CF,k20]using ha
   have O:=h.t o ho
   have hs:(ix s.AA o).Status=0:=by simp[Kb,k20]at hr;exact hr.2.2
   have nb:¬B o:=λh=>by have:=O.b.1 h;omega
   dsimp only
   apply h.LB l3 ho
   exact⟨by simp,by simp[nb],by simp,by simp,λ_ _=>O.n (by omega) (by omega),λh=>by have:=O.a h;omega⟩
 rw[AAX k20]
 by_cases Tk:k=22
 . rw[AAY Tk];exact⟨h.t,h.l,h.x,h.b⟩
 rw[AAX Tk];exact h
def begB (wv:AD) (c:List Int) (u:Int):Prop:=Ee u wv.AA.length=true/\1≤ix c u
structure WI (wv:AD) (pre:List AH) (s:AB):Prop where
 f:MJ wv s=true
 c:∀u,Ee u wv.AA.length=true->ix s.Count u=((OB pre u).length:Int)
 m:s.Count.sum=(pre.length:Int)
 y:YI wv (begB wv s.Count) s.Sync
 d:∀i,Ee i wv.AK.length=true->ix s.Sync.Bq i=false->ix s.AK i=0
theorem sum_set {l:List Int}:∀{i:Nat} {x:Int},i<l.length->(l.set i x).sum=l.sum+(x-l.getD i 0):=by
 induction l with
 |nil=>intro i x h;simp at h
 |cons a r ih=>
  intro i x h
  cases i with
  |zero=>simp;omega
  |succ i=>
   have:=ih (i:=i) (x:=x) (by simpa using h)
   simp only[List.set_cons_succ,List.sum_cons,List.getD_cons_succ,this];omega
theorem V6 {α:Type} [Inhabited α] {n:Nat} {a:α} {i:Int} (h:Ee i n=true):ix (List.replicate n a) i=a:=by
 have:=B9.1 h
 unfold ix
 rw[List.getElem?_replicate,AAY (by omega)];rfl
theorem PK {wv:AD} (h:Ck wv=true):wv.Af.all (NY wv)=true/\1≤wv.AA.length:=by
 unfold Ck at h
 simp only[AAP,AAf]at h
 obtain⟨h1,h⟩:=h
 refine⟨?_,by omega⟩
 split at h
 . simp only[AAP]at h;exact h.1.2
 . cases h
theorem Vk {wv:AD} (h:Ck wv=true):∀o,Ee o wv.Af.length=true->(ix wv.AG (ix wv.Af o).Mutex).RW=false:=by
 intro o ho
 have hc:=(PK h).1
 have:=B9.1 ho
 have hx:o.toNat<wv.Af.length:=by omega
 have:=AAU.1 hc (ix wv.Af o) (by unfold ix;rw[AAT hx];exact AAi hx)
 unfold NY at this
 simp only[AAP,ABU]at this
 exact this.2
theorem WI.start {wv:AD} (h:Ck wv=true):WI wv [] (Gg wv):=by
 have hw:=EC h
 have hc:=Vk h
 have h1:=(PK h).2
 have nb:∀u,¬begB wv (Gg wv).Count u:=λu ⟨hu,h2⟩=>by
  have:ix (Gg wv).Count u=0:=V6 hu
  omega
 have fm:wv.Af.all (λc=>Ee c.Mutex wv.AG.length)=true:=by
  have hc:=(PK h).1
  refine AAU.2 λx hx=> ?_
  have:=AAU.1 hc x hx
  unfold NY at this
  simp only[AAP]at this
  exact this.1
 refine⟨?_,λu hu=>V6 hu,?_,⟨λu hu=> ?_,λi hi=> ?_,λh=>absurd rfl h,λu hu=>hu.1⟩,λi hi _=>V6 hi⟩
 . unfold MJ G8 Gg Mj;simp[fm]
 . show(List.replicate wv.AA.length (0:Int)).sum=0
   induction wv.AA.length with
   |zero=>rfl
   |succ n ih=>rw[List.replicate_succ,List.sum_cons,ih];rfl
 . show TI wv _ _ u (ix ((List.replicate wv.AA.length (⟨0,0,false⟩:AE)).set (0:Int).toNat ⟨1,0,false⟩) u)
   rw[Lw (B9.2 (by simp;omega)) (by simpa using hu)]
   by_cases e:u=0
   . rw[AAY e];exact⟨by simp,by simp[nb],by simp,by simp,by simp,by simp⟩
   . rw[AAX e,V6 hu];exact⟨by simp,by simp[nb],λh=>absurd h e,by simp,by simp,by simp⟩
 . show LI wv _ i (ix (List.replicate wv.AG.length (⟨-1,[]⟩:AW)) i)
   rw[V6 hi];exact⟨by simp,by simp,by simp,by simp⟩
theorem WI.next {wv:AD} {pre:List AH} {s:AB} {e:AH} (hq:∀o,Ee o wv.Af.length=true->(ix wv.AG (ix wv.Af o).Mutex).RW=false) (h:WI wv pre s) (hl:pre.length≤100000) (hp:Kf wv s e=true):WI wv (pre++[e]) (GL wv s e):=by
 have xH:=hp
 unfold Kf at xH
 simp only[AAP]at xH
 obtain⟨hf,ht,he,_,_,_⟩:=xH
 obtain⟨f1,f2,f3,f4⟩:=Nn hf
 obtain⟨l1,l2,l3⟩:=FA f1
 have hr:=Ly pre e.Thread
 have hc:=h.c e.Thread ht
 have hw:Ap (ix s.Count e.Thread+1)=((OB pre e.Thread).length:Int)+1:=by rw[hc,DR (by omega) (by omega)]
 have hC:∀u,Ee u wv.AA.length=true->ix (GL wv s e).Count u=if u=e.Thread then((OB pre e.Thread).length:Int)+1 else ix s.Count u:=by
  intro u hu
  show ix (s.Count.set e.Thread.toNat _) u=_
  rw[Lw (by rw[f4];exact ht) (by rw[f4];exact hu),hw]
 refine⟨?_,λu hu=> ?_,?_,?_,λi hi hd=> ?_⟩
 . have:=gA f1 e.Thread e.Kind e.Obj (if e.Kind=18 then e.Value else -1)
   unfold MJ GL
   simp only[this,AA0,List.length_set,f4,ABB,Bool.and_true,AAP,AAd]
   constructor
   . split<;>simp[f2]
   . split<;>simp[f3]
 . rw[hC u hu,NF]
   by_cases e1:u=e.Thread
   . rw[AAY e1,AAY e1.symm];simp[e1]
   . rw[AAX e1,AAX (λh=>e1 h.symm),h.c u hu]
 . show(s.Count.set e.Thread.toNat _).sum=_
   have hi:=B9.1 ht
   have:ix s.Count e.Thread=s.Count.getD e.Thread.toNat 0:=by unfold ix;rw[List.getD_eq_getElem?_getD];rfl
   rw[sum_set (by omega),h.m,hw,← this,hc];simp;omega
 . refine(h.y.apply hq he (wake:=if e.Kind=18 then e.Value else -1)).congr λu=> ?_
   constructor
   . rintro⟨hu,h2⟩
     rw[hC u hu]at h2
     by_cases e1:u=e.Thread
     . exact .inr e1
     . rw[AAX e1]at h2;exact .inl ⟨hu,h2⟩
   . rintro(⟨hu,h2⟩|rfl)
     . refine⟨hu,?_⟩
       rw[hC u hu];split<;>omega
     . refine⟨ht,?_⟩
       rw[hC _ ht,AAY rfl];omega
 . unfold DC at he
   simp only[AAP]at he
   obtain⟨_,_,ha,hr⟩:=he
   have hD:(EN wv s.Sync e.Thread e.Kind e.Obj (if e.Kind=18 then e.Value else -1)).1.Bq=if e.Kind=22 then s.Sync.Bq.set e.Obj.toNat true else s.Sync.Bq:=by
    unfold EN
    by_cases Tk:e.Kind=22
    . simp[Tk]
    . rw[AAX Tk,AAX Tk]
      have key:∀(p:Prop) [Decidable p] (a b:AN×Int),a.1.Bq=s.Sync.Bq->b.1.Bq=s.Sync.Bq->(if p then a else b).1.Bq=s.Sync.Bq:=by
       intro p _ a b ha hb;split<;>assumption
      repeat' refine key _ _ _ ?_ ?_
      all_goals first
       |rfl
       | (by_cases hW:Bz e.Obj 0 s.Sync.AA=[]<;>simp only[hW,AAs,AAe]<;>rfl)
   have hd:ix (if e.Kind=22 then s.Sync.Bq.set e.Obj.toNat true else s.Sync.Bq) i=false:=by rw[← hD];exact hd
   show ix (if e.Kind=22 then s.AK.set e.Obj.toNat e.Value else s.AK) i=0
   by_cases Tk:e.Kind=22
   . rw[AAY Tk]at hd ⊢
     have ho:Ee e.Obj wv.AK.length=true:=by simpa[CF,Tk]using ha
     rw[Lw (by rw[l2];exact ho) (by rw[l2];exact hi)]at hd
     rw[Lw (by rw[f3];exact ho) (by rw[f3];exact hi)]
     by_cases e1:i=e.Obj
     . rw[AAY e1]at hd;cases hd
     . rw[AAX e1]at hd ⊢;exact h.d i hi hd
   . rw[AAX Tk]at hd ⊢;exact h.d i hi hd
def Gw (t:Az) (n:Nat):AB:=(t.AF.take n).foldl (GL t.World) (Gg t.World)
theorem OH {t:Az} {n:Nat} (h:n<t.AF.length):Gw t (n+1)=GL t.World (Gw t n) t.AF[n]:=by
 unfold Gw
 rw[← AAk h,List.foldl_append];rfl
theorem eU {t:Az} (hw:Ck t.World=true) (hl:t.AF.length≤400) (hc:Hg t.World [] (Gg t.World) t.AF=(0,0)):∀n,n≤t.AF.length->WI t.World (t.AF.take n) (Gw t n)/\Hg t.World (t.AF.take n) (Gw t n) (t.AF.drop n)=(0,0):=by
 have hq:=Vk hw
 intro n
 induction n with
 |zero=>intro _;exact⟨WI.start hw,hc⟩
 |succ n ih=>
  intro hn
  obtain⟨a,b⟩:=ih (by omega)
  rw[ABH (by omega),Hg]at b
  split at b
  . rename_i hp
    rw[AAP]at hp
    rw[OH (by omega),← AAk (by omega)]
    exact⟨a.next hq (by simp;omega) hp.1,b⟩
  . exact absurd (congrArg Prod.snd b) (λh:(12:Int)=0=>by cases h)
def winS (t:Az) (size i:Nat):AO:=⟨t.World,(i:Int),Gw t i,(t.AF.drop i).take size⟩
structure WinF (w:AO):Prop where
 v:Ck w.World=true
 f:MJ w.World w.Init=true
 e:w.AF.length≤16
structure l7 (w:AO):Prop where
 s:Small w.World
 l:w.Init.Sync.AG.length=w.World.AG.length
 d:w.Init.Sync.Bq.length=w.World.AK.length
 t:w.Init.Sync.AA.length=w.World.AA.length
 u:w.Init.AK.length=w.World.AK.length
 c:w.Init.Count.length=w.World.AA.length
 m:∀o,Ee o w.World.Af.length=true->Ee (ix w.World.Af o).Mutex w.World.AG.length=true
theorem WinF.l {w:AO} (h:WinF w):l7 w:=by
 obtain⟨f1,f2,f3,f4⟩:=Nn h.f
 obtain⟨l1,l2,l3⟩:=FA f1
 exact⟨EC h.v,l1,l2,l3,f3,f4,λo ho=>HH f1 ho⟩
theorem sL {c:Int}:∀(D:List Int) (last:Int),Gb c last D=true->∀k∈D,last<k/\k<c:=by
 intro D
 induction D with
 |nil=>intro _ _ k hk;cases hk
 |cons x r ih=>
  intro last h k hk
  unfold Gb at h
  simp only[AAP,AAf]at h
  rcases AAp.1 hk with rfl|hk
  . exact⟨h.1,h.2.1⟩
  . have:=ih x h.2.2 k hk;exact⟨by omega,this.2⟩
def CI (c:List Int) (nt:Nat) (pre:List AH) (s:AB):Prop:=s.Count.length=nt/\∀u,Ee u nt=true->ix s.Count u=ix c u+((OB pre u).length:Int)
theorem CI.next {wv:AD} {c:List Int} {nt:Nat} {pre:List AH} {s:AB} (h:CI c nt pre s) {x:AH} (hx:Ee x.Thread nt=true) (hc:∀u,Ee u nt=true->0≤ix c u/\ix c u≤400) (hp:pre.length≤1000):CI c nt (pre++[x]) (GL wv s x):=by
 refine⟨by simpa[GL]using h.1,λu hu=> ?_⟩
 obtain⟨b1,b2⟩:=B9.1 hx
 obtain⟨c1,c2⟩:=B9.1 hu
 rw[NF]
 show ix (s.Count.set x.Thread.toNat (Ap (ix s.Count x.Thread+1))) u=_
 have hq:=hc _ hx;have hr:=h.2 _ hx;have hn:=Ly pre x.Thread
 by_cases e:x.Thread=u
 . subst e
   rw[AAY rfl]
   unfold ix
   rw[AAS (by have:=h.1;omega)]
   show Ap (ix s.Count x.Thread+1)=ix c x.Thread+_
   rw[hr,DR (by omega) (by omega)]
   simp only[AA1,AA7,ABR];omega
 . rw[AAX e,← h.2 u hu]
   unfold ix
   rw[AAV (by omega)]
section
variable {w:AO}
end
theorem nL (wv:AD) (l:List AH):∀pre s,Hg wv pre s l=(0,0)∨(Hg wv pre s l).2=12/\(pre.length:Int)≤(Hg wv pre s l).1:=by
 induction l with
 |nil=>exactλ_ _=>.inl rfl
 |cons x r ih=>
  intro pre s
  unfold Hg
  split
  . refine(ih (pre++[x]) _).imp id λh=>⟨h.1,?_⟩
    have:=h.2;simp at this ⊢;omega
  . exact .inr ⟨rfl,by simp⟩
structure AT (t:Az):Prop where
 w:Ck t.World=true
 l:t.AF.length≤400
 c:Hg t.World [] (Gg t.World) t.AF=(0,0)
 e:∀e∈t.AF,S7 e
theorem AT.of {t:Az} (hE:∀e∈t.AF,S7 e) (h:(Io t).2=0):AT t:=by
 unfold Io at h
 split at h
 . cases h
 . split at h
   . rename_i hl hw
     rcases nL t.World t.AF [] (Gg t.World)with hc|⟨hc,_⟩
     . exact⟨hw,by omega,hc,hE⟩
     . rw[hc]at h;cases h
   . cases h
theorem AT.poss {t:Az} (h:AT t) {i:Nat} (hi:i<t.AF.length):Kf t.World (Gw t i) t.AF[i]=true:=by
 obtain⟨_,b⟩:=eU h.w h.l h.c i (by omega)
 rw[ABH hi,Hg]at b
 split at b
 . rename_i hp
   rw[AAP]at hp
   exact hp.1
 . exact absurd (congrArg Prod.snd b) (λh:(12:Int)=0=>by cases h)
theorem AT.rb {t:Az}:∀i,i≤t.AF.length->RB i (Gw t i).Sync
 |0,_=>RB.start _
 |i+1,hi=>by
  rw[OH (by omega)]
  exact(AT.rb i (by omega)).apply _ _ _ _ _
theorem AT.step {t:Az} (h:AT t) {i:Nat} (hi:i<t.AF.length):XV t.World (Gw t i) t.AF[i]=(Gw t (i+1),true):=by
 unfold XV
 rw[AAY (h.poss hi),OH hi]
theorem AT.vstep {t:Az} (h:AT t) {i:Nat} (hi:i<t.AF.length):BQ t.World (Gw t i) t.AF[i]=some (Gw t (i+1),true):=by
 rw[qZ _ (EC h.w) _ ((AT.rb i (by omega)).mono (by have:=h.l;omega)) _ (h.e _ (AAi hi)),h.step hi]
theorem AT.rstep {t:Az} (h:AT t) {i:Nat} (hi:i<t.AF.length):DQ t.World (Gw t i) t.AF[i]=some (Gw t (i+1),true):=by
 rw[rStep_eq _ (EC h.w) _ ((AT.rb i (by omega)).mono (by have:=h.l;omega)) _ (h.e _ (AAi hi)),h.step hi]
def snapS (t:Az) (n:Int):AB×Int:=if(Io t).2≠0 then(OC,12)else if n<0∨n>(t.AF.length:Int)then(OC,1)else(Gw t n.toNat,0)
theorem snap_loop {t:Az} (h:AT t) {b:Nat} (hb:b≤t.AF.length):∀(n i:Nat),i≤b->b<n+i->Cf.Aa (b:Int) t n (Gw t i) (i:Int)=some (Gw t b,0)
 |0,i,h1,h2=>by omega
 |n+1,i,h1,h2=>by
  have hl:=h.l
  rw[Cf.Aa]
  unfold Cf.L1
  have hlen:((t.AF.take (b:Int).toNat).length:Int)=b:=by rw[ABE,List.length_take_of_le hb]
  rw[hlen]
  by_cases hi:i<b
  . have hg:gt (t.AF.take (b:Int).toNat) (i:Int)=some t.AF[i]:=by
     rw[LG,ABE,List.getElem?_take_of_lt hi];simp
    rw[BC (by omega),hg,AAO,h.vstep (by omega),AAO,Ao (by omega)]
    exact snap_loop h hb n (i+1) (by omega) (by omega)
  . have:i=b:=by omega
    subst this
    rw[Ac (by omega)];rfl
theorem q8 (t:Az) (hE:∀e∈t.AF,S7 e) (n:Int):Cf t n=some (snapS t n):=by
 unfold Cf snapS
 rw[Check_eq t hE,AAO]
 by_cases hc:(Io t).2=0
 . have h:=AT.of hE hc
   rw[AAX (c:=((Io t).2 != 0)=true) (by simp[hc]),AAX (c:=(Io t).2≠0) (by simp[hc])]
   unfold Cf.J1
   by_cases g1:n<0
   . rw[BC g1,AAY rfl,AAY (.inl g1)];rfl
   . rw[Ac g1]
     by_cases g2:n>(t.AF.length:Int)
     . rw[AAY (by simpa using g2),AAY (.inr g2)];rfl
     . rw[AAX (by simpa using g2),AAX (by omega),MN _ (EC h.w),AAO,AAY ⟨by omega,by omega⟩]
       have:=snap_loop h (b:=n.toNat) (by omega) BT 0 (by omega) (by have:=B1;have:=h.l;omega)
       rw[show((n.toNat:Nat):Int)=n from by omega]at this
       exact this
 . rw[AAY (c:=((Io t).2 != 0)=true) (by simp[hc]),AAY (c:=(Io t).2≠0) hc];rfl
theorem after_loop {t:Az} (h:AT t) {b:Nat} (hb:b≤t.AF.length):∀(n i:Nat),i≤b->b<n+i->G7.Aa (b:Int) t n (Gw t i) (i:Int)=some (Gw t b)
 |0,i,h1,h2=>by omega
 |n+1,i,h1,h2=>by
  have hl:=h.l
  rw[G7.Aa]
  unfold G7.L1
  by_cases hi:i<b
  . rw[BC (by omega),CU (by omega),AAO,h.rstep (by omega),AAO,Ao (by omega)]
    exact after_loop h hb n (i+1) (by omega) (by omega)
  . have:i=b:=by omega
    subst this
    rw[Ac (by omega)];rfl
theorem after_eq {t:Az} (h:AT t) {b:Nat} (hb:b≤t.AF.length):G7 t (b:Int)=some (Gw t b):=by
 unfold G7
 rw[ref16_Start_eq _ (EC h.w),AAO]
 exact after_loop h hb BT 0 (by omega) (by have:=B1;have:=h.l;omega)
theorem rSnapshot_eq (t:Az) (hE:∀e∈t.AF,S7 e) (n:Int):GO t n=some (snapS t n):=by
 unfold GO snapS
 rw[rCheck_eq t hE,AAO]
 by_cases hc:(Io t).2=0
 . have h:=AT.of hE hc
   rw[AAX (c:=((Io t).2 != 0)=true) (by simp[hc]),AAX (c:=(Io t).2≠0) (by simp[hc])]
   unfold GO.J1
   by_cases g1:n<0
   . rw[BC g1,AAY rfl,AAY (.inl g1)];rfl
   . rw[Ac g1]
     by_cases g2:n>(t.AF.length:Int)
     . rw[AAY (by simpa using g2),AAY (.inr g2)];rfl
     . have:=after_eq h (b:=n.toNat) (by omega)
       rw[show((n.toNat:Nat):Int)=n from by omega]at this
       rw[AAX (by simpa using g2),AAX (by omega),this];rfl
 . rw[AAY (c:=((Io t).2 != 0)=true) (by simp[hc]),AAY (c:=(Io t).2≠0) hc];rfl
theorem copyWorld_eq {wv:AD} (hw:Small wv):IJ wv=some wv:=by
 have h1:=hw.c;have h2:=hw.l;have h3:=hw.d;have h4:=hw.f;have h5:=hw.t;have h6:=hw.s
 unfold IJ Ig Ii Ih slices_Clone_string Ij
 rw[BL (by omega),BL (by omega),BL (by omega),BL (by omega),BL (by omega),BL (by omega)]
 rfl
structure mG (s:AB):Prop where
 c:s.Cells.length≤100
 f:s.AK.length≤100
 n:s.Count.length≤100
 d:s.Sync.Bq.length≤100
 t:s.Sync.AA.length≤100
 l:s.Sync.AG.length≤100
 r:RB 1000000 s.Sync
theorem dX {s:AB} (h:mG s) (tx:Int) (D:List Bool) (T:List AE) (C F N:List Int):∀(n i:Nat),i≤s.Sync.AG.length->s.Sync.AG.length<n+i->Cy.Aa s n ⟨⟨s.Sync.AG.take i,tx,D,T⟩,C,F,N⟩ (i:Int)=some ⟨⟨s.Sync.AG,tx,D,T⟩,C,F,N⟩
 |0,i,h1,h2=>by omega
 |n+1,i,h1,h2=>by
  have hl:=h.l
  rw[Cy.Aa]
  unfold Cy.L1
  by_cases hi:i<s.Sync.AG.length
  . have hr:=h.r _ (AAi hi)
    unfold slices_Clone_int
    rw[BC (by omega),CU hi,AAO,BL (by omega),AAO,BL (by simp;omega),Ao (by omega)]
    have e:s.Sync.AG.take i++[AW.mk s.Sync.AG[i].CW s.Sync.AG[i].As]=s.Sync.AG.take (i+1):=AAk hi
    rw[e]
    exact dX h tx D T C F N n (i+1) (by omega) (by omega)
  . rw[Ac (by omega),AA3 (by omega)];rfl
theorem copySnap_eq {s:AB} (h:mG s):Cy s=some s:=by
 have h1:=h.c;have h2:=h.f;have h3:=h.n;have h4:=h.d;have h5:=h.t
 unfold Cy Eo slices_Clone_int HA EB
 rw[BL (by omega),AAO,BL (by omega),AAO,BL (by omega),AAO,BL (by omega),AAO,BL (by omega),AAO]
 exact dX h _ _ _ _ _ _ BT 0 (by omega) (by have:=B1;have:=h.l;omega)
def q7 (e:AH):Prop:=e.D9.length≤1000/\e.Db.length≤1000
theorem Zm {l:List AH} (hl:l.length≤1000) (h:∀e∈l,q7 e):∀(n i:Nat),i≤l.length->l.length<n+i->Dn.Aa l n (l.take i) (i:Int)=some l
 |0,i,h1,h2=>by omega
 |n+1,i,h1,h2=>by
  rw[Dn.Aa]
  unfold Dn.L1
  by_cases hi:i<l.length
  . have hr:=h _ (AAi hi)
    have r1:=hr.1;have r2:=hr.2
    unfold slices_Clone_int
    rw[BC (by omega),CU hi,AAO,BL (by omega),AAO,BL (by omega),AAO,BL (by simp;omega),Ao (by omega)]
    have e:l.take i++[AH.mk l[i].Thread l[i].Kind l[i].Obj l[i].Value l[i].Site l[i].D9 l[i].Db]=l.take (i+1):=AAk hi
    rw[e]
    exact Zm hl h n (i+1) (by omega) (by omega)
  . rw[Ac (by omega),AA3 (by omega)];rfl
theorem copyEvents_eq {l:List AH} (hl:l.length≤1000) (h:∀e∈l,q7 e):Dn l=some l:=by
 unfold Dn
 rw[AAY ⟨by omega,by omega,DK (by omega)⟩]
 exact Zm hl h BT 0 (by omega) (by have:=B1;omega)
theorem yN {c:Int}:∀(D:List Int) (last:Int),last<c->Gb c last D=true->(D.length:Int)+last+1≤c:=by
 intro D
 induction D with
 |nil=>intro last h _;simp;omega
 |cons x r ih=>
  intro last h hn
  unfold Gb at hn
  simp only[AAP,AAf]at hn
  have:=ih x hn.2.1 hn.2.2
  simp only[AA7];omega
theorem AT.small {t:Az} (h:AT t) {i:Nat} (hi:i≤t.AF.length):mG (Gw t i):=by
 obtain⟨a,_⟩:=eU h.w h.l h.c i hi
 obtain⟨f1,f2,f3,f4⟩:=Nn a.f
 obtain⟨l1,l2,l3⟩:=FA f1
 have hw:=EC h.w
 have h1:=hw.c;have h2:=hw.l;have h3:=hw.d;have h4:=hw.f;have h5:=hw.t
 exact⟨by omega,by omega,by omega,by omega,by omega,by omega,(AT.rb i hi).mono (by have:=h.l;omega)⟩
theorem AT.ev {t:Az} (h:AT t) {e:AH} (he:e∈t.AF):q7 e:=by
 obtain⟨i,hi,rfl⟩:=List.getElem_of_mem he
 obtain⟨a,_⟩:=eU h.w h.l h.c i (by omega)
 have hp:=h.poss hi
 have hc:=a.c _ (Pc hp)
 have hr:=Ly (t.AF.take i) t.AF[i].Thread
 have hl:=h.l
 rw[List.length_take_of_le (by omega)]at hr
 unfold Kf FN at hp
 simp only[AAP]at hp
 obtain⟨_,_,_,_,⟨⟨_,h1⟩,_,h2⟩,_⟩:=hp
 rw[hc]at h1 h2
 have key:∀D:List Int,Gb ((OB (t.AF.take i) t.AF[i].Thread).length:Int) 0 D=true->D.length≤1000:=by
  intro D hD
  cases D with
  |nil=>simp
  |cons x r=>
   have h0:0<((OB (t.AF.take i) t.AF[i].Thread).length:Int):=by
    have:=sL _ _ hD x (by simp);omega
   have:=yN _ _ h0 hD;omega
 exact⟨key _ h1,key _ h2⟩
def Uw (k i:Nat):Nat:=(i+k-1)/k
theorem winN_mul {k:Nat} (hk:0<k) (q:Nat):Uw k (q*k)=q:=by
 unfold Uw
 rw[show q*k+k-1=k*q+(k-1)from by rw[ABD];omega,Nat.mul_add_div hk,Nat.div_eq_of_lt (by omega),Nat.add_zero]
theorem sN {k:Nat} (hk:0<k) (q r:Nat) (h0:0<r) (hr:r≤k):Uw k (q*k+r)=q+1:=by
 unfold Uw
 rw[show q*k+r+k-1=k*q+(r-1+k)from by rw[ABD];omega,Nat.mul_add_div hk,Nat.add_div_right _ hk,Nat.div_eq_of_lt (by omega)]
theorem winN_at {k i:Nat} (hk:0<k) (h:i%k=0):Uw k (i+1)=Uw k i+1/\Uw k i*k=i:=by
 obtain⟨q,rfl⟩:∃q,i=q*k:=⟨i/k,by have:=ABW i k;rw[ABD];omega⟩
 rw[winN_mul hk,sN hk q 1 (by omega) (by omega)]
 exact⟨rfl,rfl⟩
theorem winN_off {k i:Nat} (hk:0<k) (h:i%k≠0):Uw k (i+1)=Uw k i:=by
 have hm:=Nat.mod_lt i hk
 obtain⟨q,r,rfl,h1,h2⟩:∃q r,i=q*k+r/\0<r/\r<k:=⟨i/k,i%k,by have:=ABW i k;rw[ABD (i/k)];omega,by omega,hm⟩
 rw[sN hk q _ (by omega) (by omega),Nat.add_assoc,sN hk q _ (by omega) (by omega)]
theorem winN_le {k:Nat} (hk:0<k) (i:Nat):Uw k i≤i+k:=by
 unfold Uw
 exact ABO (Nat.div_le_self _ _) (by omega)
def PJ (t:Az) (k i:Nat):List AO:=(List.range (Uw k i)).map λj=>winS t k (j*k)
theorem Tm (t:Az) (k i:Nat):(PJ t k i).length=Uw k i:=by simp[PJ]
theorem range_snoc (n:Nat):List.range (n+1)=List.range n++[n]:=List.range_succ
theorem slice_eq {l:List AH} {i k:Nat} (hi:i≤l.length):(l.drop i).take (((if(l.length:Int)<(i:Int)+(k:Int)then(l.length:Int)else(i:Int)+(k:Int)).toNat)-i)=(l.drop i).take k:=by
 split
 . rw[AA3 (by simp),AA3 (by simp;omega)]
 . rw[show((i:Int)+(k:Int)).toNat-i=k from by omega]
theorem jD {t:Az} (h:AT t) {k:Nat} (hk:0<k) (Xh:k≤16):∀(n i:Nat),i≤t.AF.length->t.AF.length<n+i->Df.Aa (k:Int) t n (PJ t k i) (Gw t i) (i:Int)=some (PJ t k t.AF.length,0)
 |0,i,h1,h2=>by omega
 |n+1,i,h1,h2=>by
  have hl:=h.l
  rw[Df.Aa]
  unfold Df.L1 Df.J2
  by_cases hi:i<t.AF.length
  . have hw:=winN_le hk i
    rw[BC (by omega),CU hi,AAO,AAY (by omega),h.vstep hi,AAO,Ao (by omega),← Int.ofNat_tmod,DR (n:=(i:Int)+(k:Int)) (by omega) (by omega)]
    by_cases g:i%k=0
    . obtain⟨g1,g2⟩:=winN_at hk g
      rw[AAY (by simp[g]),copyWorld_eq (EC h.w),AAO,copySnap_eq (h.small (by omega)),AAO,ABE,slice_eq (by omega),AAY (by split<;>omega),copyEvents_eq (by simp;omega) (λe he=>h.ev (List.mem_of_mem_drop (ABc he))),AAO,BL (by rw[Tm];omega)]
      have e:PJ t k i++[AO.mk t.World (i:Int) (Gw t i) ((t.AF.drop i).take k)]=PJ t k (i+1):=by
       unfold PJ
       rw[g1,range_snoc,AA9,List.map_singleton,g2];rfl
      rw[e]
      exact jD h hk Xh n (i+1) (by omega) (by omega)
    . rw[AAX (by simp;omega)]
      have e:PJ t k i=PJ t k (i+1):=by unfold PJ;rw[winN_off hk g]
      rw[e]
      exact jD h hk Xh n (i+1) (by omega) (by omega)
  . have:i=t.AF.length:=by omega
    subst this
    rw[Ac (by omega)];rfl
def Ze (t:Az) (size:Int):List AO×Int:=if(Io t).2≠0 then([],12)else if size<1∨size>16 then([],1)else(PJ t size.toNat t.AF.length,0)
theorem Split_eq (t:Az) (hE:∀e∈t.AF,S7 e) (n:Int):Df t n=some (Ze t n):=by
 unfold Df Ze
 rw[Check_eq t hE,AAO]
 by_cases hc:(Io t).2=0
 . have h:=AT.of hE hc
   rw[AAX (c:=((Io t).2 != 0)=true) (by simp[hc]),AAX (c:=(Io t).2≠0) (by simp[hc])]
   unfold Df.J1
   by_cases g1:n<1
   . rw[BC g1,AAY rfl,AAY (.inl g1)]
   . rw[Ac g1]
     by_cases g2:n>16
     . rw[AAY (by simpa using g2),AAY (.inr g2)]
     . rw[AAX (by simpa using g2),AAX (by omega),MN _ (EC h.w),AAO]
       have:=jD h (k:=n.toNat) (by omega) (by omega) BT 0 (by omega) (by have:=B1;have:=h.l;omega)
       rw[show((n.toNat:Nat):Int)=n from by omega]at this
       have e:PJ t n.toNat 0=[]:=by unfold PJ;rw[show Uw n.toNat 0=0 from by unfold Uw;exact Nat.div_eq_of_lt (by omega)];rfl
       rw[e]at this
       exact this
 . rw[AAY (c:=((Io t).2 != 0)=true) (by simp[hc]),AAY (c:=(Io t).2≠0) hc]
theorem rsplit_loop {t:Az} (h:AT t) {k:Nat} (hk:0<k) (Xh:k≤16):∀(n j:Nat),j*k<t.AF.length+k->t.AF.length+k<n+j*k->HU.Aa (k:Int) t n ((List.range j).map λj=>winS t k (j*k)) ((j*k:Nat):Int)=some (PJ t k t.AF.length,0)
 |0,j,h1,h2=>by
  omega
 |n+1,j,h1,h2=>by
  have hl:=h.l
  rw[HU.Aa]
  unfold HU.L1
  have hjk:j≤j*k:=Nat.le_mul_of_pos_right j hk
  have hsk:(j+1)*k=j*k+k:=ABa j k
  have hwn:t.AF.length≤j*k->Uw k t.AF.length=j:=by
   intro hi
   cases j with
   |zero=>
    have h0:t.AF.length=0:=by omega
    rw[h0];unfold Uw;exact Nat.div_eq_of_lt (by omega)
   |succ j=>
    have hs:(j+1)*k=j*k+k:=ABa j k
    have:=sN hk j (t.AF.length-j*k) (by omega) (by omega)
    rw[show j*k+(t.AF.length-j*k)=t.AF.length from by omega]at this
    exact this
  generalize Ml:j*k=i at*
  by_cases hi:i<t.AF.length
  . rw[BC (by omega),after_eq h (by omega),AAO,DR (n:=(i:Int)+(k:Int)) (by omega) (by omega),ABE,slice_eq (by omega),AAY (by split<;>omega),BL (by simp;omega)]
    have e:((List.range j).map λj=>winS t k (j*k))++[AO.mk t.World (i:Int) (Gw t i) ((t.AF.drop i).take k)]=(List.range (j+1)).map λj=>winS t k (j*k):=by
     rw[range_snoc,AA9,List.map_singleton,Ml];rfl
    rw[e]
    have:=rsplit_loop h hk Xh n (j+1) (by omega) (by omega)
    rw[hsk]at this
    exact this
  . rw[Ac (by omega)]
    unfold HU.J2 PJ
    rw[hwn (by omega)]
theorem rSplit_eq (t:Az) (hE:∀e∈t.AF,S7 e) (n:Int):HU t n=some (Ze t n):=by
 unfold HU Ze
 rw[rCheck_eq t hE,AAO]
 by_cases hc:(Io t).2=0
 . have h:=AT.of hE hc
   rw[AAX (c:=((Io t).2 != 0)=true) (by simp[hc]),AAX (c:=(Io t).2≠0) (by simp[hc])]
   unfold HU.J1
   by_cases g1:n<1
   . rw[BC g1,AAY rfl,AAY (.inl g1)]
   . rw[Ac g1]
     by_cases g2:n>16
     . rw[AAY (by simpa using g2),AAY (.inr g2)]
     . rw[AAX (by simpa using g2),AAX (by omega)]
       have:=rsplit_loop h (k:=n.toNat) (by omega) (by omega) BT 0 (by omega) (by have:=B1;have:=h.l;omega)
       rw[show((n.toNat:Nat):Int)=n from by omega,Nat.zero_mul]at this
       exact this
 . rw[AAY (c:=((Io t).2 != 0)=true) (by simp[hc]),AAY (c:=(Io t).2≠0) hc]
theorem dW (l:List Int) (hl:l.length≤1000000000):∀n i:Nat,i≤l.length->l.length<n+i->Cb.Aa l l n (i:Int)=some true
 |0,i,h1,h2=>by omega
 |n+1,i,h1,h2=>by
  rw[Cb.Aa]
  unfold Cb.L1
  by_cases hi:i<l.length
  . rw[BC (by omega),CU hi,AAO,AAO,AAX (by simp),Ao (by omega)]
    exact dW l hl n (i+1) (by omega) (by omega)
  . rw[Ac (by omega)];rfl
theorem Ti (l:List Int) (hl:l.length≤1000000000):Cb l l=some true:=by
 unfold Cb
 rw[AAX (by simp)]
 exact dW l hl BT 0 (by omega) (by have:=B1;omega)
theorem Z4 (l:List Int) (hl:l.length≤1000000000):∀n i:Nat,i≤l.length->l.length<n+i->Cs.Aa l l n (i:Int)=some true
 |0,i,h1,h2=>by omega
 |n+1,i,h1,h2=>by
  rw[Cs.Aa]
  unfold Cs.L1
  by_cases hi:i<l.length
  . rw[BC (by omega),CU hi,AAO,AAO,AAX (by simp),Ao (by omega)]
    exact Z4 l hl n (i+1) (by omega) (by omega)
  . rw[Ac (by omega)];rfl
theorem Z5 (l:List Int) (hl:l.length≤1000000000):Cs l l=some true:=by
 unfold Cs
 rw[AAX (by simp)]
 exact Z4 l hl BT 0 (by omega) (by have:=B1;omega)
theorem Nq {L:Nat->Int->ABp Bool} {N:Nat} {R:ABp Bool} (hs:∀(n i:Nat),i<N->L (n+1) (i:Int)=L n ((i+1:Nat):Int)) (he:∀n,L (n+1) (N:Int)=R):∀n i:Nat,i≤N->N<n+i->L n (i:Int)=R
 |0,i,h1,h2=>by omega
 |n+1,i,h1,h2=>by
  by_cases hi:i<N
  . rw[hs n i hi];exact Nq hs he n (i+1) (by omega) (by omega)
  . have:i=N:=by omega
    subst this;exact he n
theorem Same8_self {s:AN} (h1:s.AG.length≤100) (h2:s.Bq.length≤100) (h3:s.AA.length≤100) (hr:RB 1000000 s):Da s s=some true:=by
 have hb:=B1
 have a3:Da.Gm s s BT 0=some true:=Nq (L:=Da.Gm s s) (N:=s.AA.length) (λn i hi=>by
  rw[Da.Gm];unfold Da.L3
  rw[BC (by omega),CU hi,AAO,AAO,Ao (by omega)];simp) (λn=>by
  rw[Da.Gm];unfold Da.L3;rw[Ac (by omega)];rfl) BT 0 (by omega) (by omega)
 have a2:Da.C2 s s BT 0=some true:=Nq (L:=Da.C2 s s) (N:=s.Bq.length) (λn i hi=>by
  rw[Da.C2];unfold Da.L2
  rw[BC (by omega),CU hi,AAO,AAO,Ao (by omega)];simp) (λn=>by
  rw[Da.C2];unfold Da.L2;rw[Ac (by omega)];exact a3) BT 0 (by omega) (by omega)
 unfold Da Da.J1
 simp only[bne_self_eq_false,AAW,AAe]
 refine Nq (L:=Da.Aa s s) (N:=s.AG.length) (λn i hi=> ?_) (λn=>by
  rw[Da.Aa];unfold Da.L1;rw[Ac (by omega)];exact a2) BT 0 (by omega) (by omega)
 rw[Da.Aa];unfold Da.L1 Da.J2
 have hx:=hr _ (AAi hi)
 rw[BC (by omega),CU hi,AAO,AAO,AAX (by simp),Ti _ (by omega),AAO,Ao (by omega)];rfl
theorem qY {s:AB} (h:mG s):C6 s s=some true:=by
 have h1:=h.c;have h2:=h.f;have h3:=h.n
 unfold C6
 rw[Same8_self h.l h.d h.t h.r,Z5 _ (by omega),Z5 _ (by omega),Ti _ (by omega)];rfl
theorem SameWorld_self {wv:AD} (hw:Small wv):Bx wv wv=some true:=by
 have h1:=hw.c;have h2:=hw.l;have h3:=hw.d;have h4:=hw.f;have h5:=hw.t;have h6:=hw.s;have hb:=B1
 have a6:Bx.L6r wv wv BT 0=some true:=Nq (L:=Bx.L6r wv wv) (N:=wv.A7.length) (λn i hi=>by
  rw[Bx.L6r];unfold Bx.L6
  rw[BC (by omega),CU hi,AAO,AAO,Ao (by omega)];simp) (λn=>by
  rw[Bx.L6r];unfold Bx.L6;rw[Ac (by omega)];rfl) BT 0 (by omega) (by omega)
 have a5:Bx.L5r wv wv BT 0=some true:=Nq (L:=Bx.L5r wv wv) (N:=wv.AA.length) (λn i hi=>by
  rw[Bx.L5r];unfold Bx.L5
  rw[BC (by omega),CU hi,AAO,AAO,Ao (by omega)];simp) (λn=>by
  rw[Bx.L5r];unfold Bx.L5;rw[Ac (by omega)];exact a6) BT 0 (by omega) (by omega)
 have a4:Bx.rI wv wv BT 0=some true:=Nq (L:=Bx.rI wv wv) (N:=wv.AK.length) (λn i hi=>by
  rw[Bx.rI];unfold Bx.L4
  rw[BC (by omega),CU hi,AAO,AAO,Ao (by omega)];simp) (λn=>by
  rw[Bx.rI];unfold Bx.L4;rw[Ac (by omega)];exact a5) BT 0 (by omega) (by omega)
 have a3:Bx.Gm wv wv BT 0=some true:=Nq (L:=Bx.Gm wv wv) (N:=wv.Af.length) (λn i hi=>by
  rw[Bx.Gm];unfold Bx.L3
  rw[BC (by omega),CU hi,AAO,AAO,Ao (by omega)];simp) (λn=>by
  rw[Bx.Gm];unfold Bx.L3;rw[Ac (by omega)];exact a4) BT 0 (by omega) (by omega)
 have a2:Bx.C2 wv wv BT 0=some true:=Nq (L:=Bx.C2 wv wv) (N:=wv.AG.length) (λn i hi=>by
  rw[Bx.C2];unfold Bx.L2
  rw[BC (by omega),CU hi,AAO,AAO,Ao (by omega)];simp) (λn=>by
  rw[Bx.C2];unfold Bx.L2;rw[Ac (by omega)];exact a3) BT 0 (by omega) (by omega)
 unfold Bx Bx.J1
 simp only[bne_self_eq_false,AAW,AAe]
 exact Nq (L:=Bx.Aa wv wv) (N:=wv.Cells.length) (λn i hi=>by
  rw[Bx.Aa];unfold Bx.L1
  rw[BC (by omega),CU hi,AAO,AAO,Ao (by omega)];simp) (λn=>by
  rw[Bx.Aa];unfold Bx.L1;rw[Ac (by omega)];exact a2) BT 0 (by omega) (by omega)
theorem sW {e:AH} (h:q7 e):Fg e e=some true:=by
 unfold Fg
 rw[Ti _ (by have:=h.1;omega),Ti _ (by have:=h.2;omega)]
 simp;rfl
theorem Zl (l:List AH) (hl:l.length≤1000000) (h:∀e∈l,q7 e):∀n i:Nat,i≤l.length->l.length<n+i->Cq.Aa l l n (i:Int)=some true
 |0,i,h1,h2=>by omega
 |n+1,i,h1,h2=>by
  rw[Cq.Aa]
  unfold Cq.L1
  by_cases hi:i<l.length
  . rw[BC (by omega),CU hi,AAO,AAO,sW (h _ (AAi hi)),AAO,AAX (by simp),Ao (by omega)]
    exact Zl l hl h n (i+1) (by omega) (by omega)
  . rw[Ac (by omega)];rfl
theorem rJ (l:List AH) (hl:l.length≤1000000) (h:∀e∈l,q7 e):Cq l l=some true:=by
 unfold Cq
 rw[AAX (by simp)]
 exact Zl l hl h BT 0 (by omega) (by have:=B1;omega)
theorem Same18_self {t:Az} (h:AT t) {k i:Nat} (hi:i≤t.AF.length):JJ (winS t k i) (winS t k i)=some true:=by
 have hl:=h.l
 unfold JJ winS
 simp only[SameWorld_self (EC h.w),AAO,AAs,ABB,qY (h.small hi)]
 rw[rJ _ (by simp;omega) (λe he=>h.ev (List.mem_of_mem_drop (ABc he)))]
 rfl
end Go.Abs
namespace Go.Abs
theorem AAL:Ew=some true:=by decide +kernel
end Go.Abs
namespace Go.Abs
set_option maxHeartbeats 4000000
def D6 {α:Type} (o:ABp α) (Q:α->Prop):Prop:=∃r,o=some r/\Q r
theorem tR {α:Type} {r:α} {Q:α->Prop} (h:Q r):D6 (some r) Q:=⟨r,rfl,h⟩
theorem tB {α β:Type} {o:ABp α} {Q:α->Prop} {f:α->ABp β} {R:β->Prop} (h:D6 o Q) (k:∀x,Q x->D6 (f x) R):D6 (o.bind f) R:=by
 obtain⟨x,rfl,hx⟩:=h;exact k x hx
theorem tG {α β:Type} {l:List α} {i:Int} {f:α->ABp β} {R:β->Prop} (h:0≤i/\i<(l.length:Int)) (k:∀x,x∈l->D6 (f x) R):D6 ((gt l i).bind f) R:=by
 obtain⟨n,rfl⟩:∃n:Nat,i=n:=⟨i.toNat,by omega⟩
 have hn:n<l.length:=by omega
 rw[CU hn,AAO]
 exact k _ (AAi hn)
theorem tC {α:Type} {p:Prop} [Decidable p] {a:ABp α} {R:α->Prop} (h:p) (k:D6 a R):D6 (if p then a else none) R:=by rw[AAY h];exact k
theorem tI {α:Type} {c:Bool} {a b:ABp α} {R:α->Prop} (h1:c=true->D6 a R) (h2:c=false->D6 b R):D6 (if c=true then a else b) R:=by
 cases c with
 |true=>simpa using h1 rfl
 |false=>simpa using h2 rfl
theorem tM {α:Type} {o:ABp α} {Q R:α->Prop} (h:D6 o Q) (k:∀x,Q x->R x):D6 o R:=by
 obtain⟨x,e,hx⟩:=h;exact⟨x,e,k x hx⟩
structure OG (t:EH):Prop where
 l:t.L.length≤4000000000000000000
 a:0≤t.At/\t.At≤t.L.length
 u:∀x∈t.L,0≤x/\x<256
def qS:ABq:=⟨#[113]⟩
def vN:List ABq:=[⟨#[97]⟩,⟨#[98]⟩,⟨#[120]⟩,⟨#[121]⟩,⟨#[118]⟩]
def Zw:Nat->A4->Prop
 |0,_=>False
 |n+1,e=>e.Op=1/\e.L=[]∨(e.Op=2/\e.L=[]/\e.Name∈vN)∨(e.Op=3/\e.Name=qS/\∃a,e.L=[a]/\Zw n a)∨(e.Op∈[(6:Int),7,8,11,13,17]/\∃a b,e.L=[a,b]/\Zw n a/\Zw n b)
def cN:ABq:=⟨#[99]⟩
def noE:A4:=⟨0,0,⟨#[]⟩,[]⟩
def nmF (T:ABq->Prop) (o:Int) (s a:ABq) (i:List A4):Prop:=
 (o=1->i=[]->s∈vN)/\(o=4->s=⟨#[109]⟩∨s=⟨#[110]⟩)/\(o=5∨o=6->s=⟨#[114]⟩)/\(o=12∨o=13->T s)/\(o=14->s=⟨#[102]⟩)/\(o=15->s=⟨#[97]⟩/\a=⟨#[102]⟩)
def bdF (o:Int) (b e:List AP):Prop:=(o∉[(2:Int),3,4,5,6,7,8]->b=[])/\(o≠2->e=[])
def K8 (T:ABq->Prop):Nat->AP->Prop
 |0,_=>False
 |n+1,s=>(1≤s.Op/\s.Op≤15)/\(s.Index=[]∨s.Op=1/\s.Name=qS/\∃a,s.Index=[a]/\Zw 2 a)/\(Zw 2 s.Expr∨s.Op∉[(1:Int),2,3,14]/\s.Expr=noE)/\(s.Op∈[(9:Int),10,11]->s.Name=cN)/\
  s.Body.length≤4/\s.Else.length≤4/\(∀x∈s.Body,K8 T n x)/\(∀x∈s.Else,K8 T n x)/\bdF s.Op s.Body s.Else/\nmF T s.Op s.Name s.Arg s.Index
structure MQ (m m':AM):Prop where
 t:OG m'.t
 h:m'.held=m.held
theorem MQ.trans {a b c:AM} (h:MQ a b) (g:MQ b c):MQ a c:=⟨g.t,g.h.trans h.h⟩
section
variable {T:ABq->Prop} {R158:AM->ABq->Int->ABp (List AP×AM)} {R86:AM->Int->Int->ABp (List AP×AM)} {depth:Int} {nested:Bool} {k H:Nat}
end
section
variable {T:ABq->Prop}
end
section
variable {T:ABq->Prop}
abbrev TT {α:Type} (o:ABp α):Prop:=D6 o λ_=>True
theorem tD {α:Type} {p:Prop} [Decidable p] {a b:ABp α} {R:α->Prop} (h1:p->D6 a R) (h2:¬p->D6 b R):D6 (if decide p=true then a else b) R:=by
 by_cases h:p
 . simpa[h]using h1 h
 . simpa[h]using h2 h
theorem NN {α β:Type} {o:ABp α} {f:α->ABp β} {R:β->Prop} (h:TT o) (k:∀x,D6 (f x) R):D6 (o.bind f) R:=tB h λx _=>k x
theorem tE {α β:Type} {o:ABp α} {y:α} {f:α->ABp β} {R:β->Prop} (h:o=some y) (k:D6 (f y) R):D6 (o.bind f) R:=by rw[h];exact k
theorem jM {α β:Type} {l:List α} {i:Nat} {f:α->ABp β} {R:β->Prop} (h:i<l.length) (k:D6 (f l[i]) R):D6 ((gt l (i:Int)).bind f) R:=by rw[CU h];exact k
theorem tLk {σ α:Type} {Q:α->Prop} (N j:Nat) (I:Nat->σ->Prop) {F:Nat->σ->Int->ABp α} (hN:N<1000000000000) (hj:j≤N) {s0:σ} (h0:I j s0)
 (h:∀n (i:Nat) s,i≤N->I i s->(∀s',i<N->I (i+1) s'->D6 (F n s' (Ap (i+1))) Q)->D6 (F (n+1) s i) Q):D6 (F BT s0 j) Q:=by
 have hb:=B1
 have key:∀n (i:Nat) s,N<n+i->i≤N->I i s->D6 (F n s i) Q:=by
  intro n
  induction n with
  |zero=>intro i s h1 h2;omega
  |succ n ih=>
   intro i s h1 h2 h3
   refine h n i s h2 h3 λs' h4 h5=> ?_
   rw[Ao (by omega)]
   exact ih (i+1) s' (by omega) h4 h5
 exact key BT j s0 (by omega) hj h0
theorem XN {σ α:Type} {Q:α->Prop} (N:Nat) (I:Nat->σ->Prop) {F:Nat->σ->Int->ABp α} (hN:N<1000000000000) {s0:σ} (h0:I 0 s0)
 (h:∀n (i:Nat) s,i≤N->I i s->(∀s',i<N->I (i+1) s'->D6 (F n s' (Ap (i+1))) Q)->D6 (F (n+1) s i) Q):D6 (F BT s0 0) Q:=tLk N 0 I hN (by omega) h0 h
def dE:Nat->A4->Prop
 |0,_=>False
 |n+1,e=>e.L.length≤2/\∀x∈e.L,dE n x
theorem Zw.d {n:Nat}:∀{e:A4},Zw n e->dE n e:=by
 induction n with
 |zero=>exactλh=>h.elim
 |succ n ih=>
  intro e h
  rcases h with⟨_,h⟩|⟨_,h,_⟩|⟨_,_,a,h,h1⟩|⟨_,a,b,h,h1,h2⟩<;>refine⟨by simp[h],?_⟩<;>rw[h]<;>simp
  . exact ih h1
  . exact⟨ih h1,ih h2⟩
theorem K8.e {n:Nat} {s:AP} (h:K8 T n s):dE 2 s.Expr:=by
 cases n with
 |zero=>exact h.elim
 |succ n=>
  rcases h.2.2.1 with h|⟨_,h⟩
  . exact h.d
  . rw[h];exact⟨by simp[noE],by simp[noE]⟩
theorem K8.i {n:Nat} {s:AP} (h:K8 T n s):s.Index=[]∨∃a,s.Index=[a]/\dE 2 a:=by
 cases n with
 |zero=>exact h.elim
 |succ n=>exact h.2.1.imp id λ⟨_,_,a,h,k⟩=>⟨a,h,k.d⟩
def dT (T:ABq->Prop) (k:Nat) (l:List AP):Prop:=l.length≤10/\∀x∈l,K8 T k x
theorem K8.body {k:Nat} {s:AP} (h:K8 T (k+1) s):dT T k s.Body:=⟨by have:=h.2.2.2.2.1;omega,h.2.2.2.2.2.2.1⟩
def sB:List ABq:=[⟨#[97]⟩,⟨#[98]⟩]
end
section
variable {T:ABq->Prop}
structure WK (p:AQ) (A K:Nat) (wv:BA):Prop where
 p:wv.p=p
 a:wv.GH.length=A
 s:wv.LM.length≤K
 t:wv.XM.length≤K
theorem WK.mono {p:AQ} {A K L:Nat} {wv:BA} (h:WK p A K wv) (hl:K≤L):WK p A L wv:=⟨h.p,h.a,by have:=h.s;omega,by have:=h.t;omega⟩
end
section
variable {T:ABq->Prop}
structure MW (w:AD):Prop where
 q:D6 (CJ w qS) λr=>0≤r/\r<w.Cells.length
 c:w.Cells.length≤100
 l:w.AG.length≤100
 d:w.Af.length≤100
 f:w.AK.length≤100
 t:w.AA.length≤4
def QU:List DB:=[⟨⟨#[120]⟩,0,0,false,0⟩,⟨⟨#[121]⟩,0,0,false,1⟩,⟨⟨#[118]⟩,0,0,true,0⟩,⟨⟨#[113]⟩,0,2,false,0⟩,⟨⟨#[113]⟩,1,2,false,0⟩]
end
section
variable {T:ABq->Prop}
structure GS (g:A5) (n:Nat) (r:A5):Prop where
 w:r.w=g.w
 l:r.locals=g.locals
 a:g.out.length≤r.out.length
 b:r.out.length≤g.out.length+n
structure GB (g:A5) (n:Nat):Prop where
 w:MW g.w
 l:g.locals.length≤2
 n:g.out.length+n≤8000000
theorem GS.refl (g:A5) (n:Nat):GS g n g:=⟨rfl,rfl,by omega,by omega⟩
theorem GS.trans {g h r:A5} {m n k:Nat} (a:GS g m h) (b:GS h n r) (hk:m+n≤k):GS g k r:=⟨b.w.trans a.w,b.l.trans a.l,by have:=a.a;have:=b.a;omega,by have:=a.b;have:=b.b;omega⟩
theorem GB.next {g h:A5} {m n k:Nat} (a:GB g k) (s:GS g m h) (hk:m+n≤k):GB h n:=⟨by rw[s.w];exact a.w,by rw[s.l];exact a.l,by have:=s.b;have:=a.n;omega⟩
theorem GB.less {g:A5} {n k:Nat} (a:GB g k) (hk:n≤k):GB g n:=a.next (GS.refl g 0) (by omega)
theorem GS.site {g r:A5} {n:Nat} (h:GS g n r) (a b:Int):GS g n ⟨r.w,r.locals,r.out,a,b⟩:=⟨h.w,h.l,h.a,h.b⟩
theorem GS.set {g r:A5} {n:Nat} (h:GS g n r) (i:Nat) (x:Ab) (a b:Int):GS g n ⟨r.w,r.locals,r.out.set i x,a,b⟩:=⟨h.w,h.l,by simpa using h.a,by simpa using h.b⟩
section
variable {R:A5->List AP->ABp A5} {g:A5} {s:AP} {n:Nat}
variable {R1:A5->AP->ABp A5} {R2:A5->AP->Int->Int->Int->ABp A5}
end
def rg (i:Ab):List Int:=(AU i).getD []
theorem GF (i:Ab):AU i=some (rg i)/\(rg i).length≤3:=by
 have key:D6 (AU i) λr=>r.length≤3:=by
  unfold AU AU.J1 AU.J2 AU.J3
  repeat' first|exact tR (by simp)|refine tI (λ_=> ?_) λ_=> ?_
 obtain⟨r,h1,h2⟩:=key
 unfold rg
 rw[h1]
 exact⟨rfl,h2⟩
structure CK (c:BF):Prop where
 n:c.AA.length≤4
 i:∀t∈c.AA,t.A1.length≤8000000
end
theorem take_one {α:Type} {l:List α} {i:Nat} (h:i<l.length) {P:α->Prop} (h1:∀x∈l.take i,P x) (h2:P l[i]):∀x∈l.take (i+1),P x:=by
 intro x hx
 rw[← AAk h]at hx
 rcases AAj.1 hx with hx|hx
 . exact h1 x hx
 . rw[AA4.1 hx];exact h2
theorem XB {α:Type} {l:List α} {i:Nat} (h:l.length≤i) {P:α->Prop} (h1:∀x∈l.take i,P x):∀x∈l,P x:=by rwa [AA3 h]at h1
theorem Fm {α:Type} {l:List α} {i:Int} (h:0≤i/\i<l.length):∃x,gt l i=some x/\l[i.toNat]? =some x/\x∈l:=by
 have:i.toNat<l.length:=by omega
 exact⟨l[i.toNat],by simp[gt,h.1,this],by simp[this],AAi this⟩
theorem Lu (i n:Int):D6 (DS i n) λb=>b=true->0≤i/\i<n:=by
 unfold DS DS.J1
 exact tD (λh=>tR λh2=>⟨h,AAa h2⟩) λ_=>tR λh=>by cases h
def QT (w:AD) (b n:Int):Prop:=∃x,gt w.Cells b=some x/\x.Index=0/\x.B0≠0/\x.B0=n
theorem YE (w:AD) (b n:Int):D6 (E3 w b n) λr=>r=true->QT w b n:=by
 have N:∀{α:Prop},D6 (some false) λb:Bool=>b=true->α:=tR λh=>by cases h
 unfold E3 E3.J1
 refine tB (Lu _ _) λv hv=>tI (λh=> ?_) λ_=>N
 obtain⟨x,hx,_⟩:=Fm (hv h)
 exact tE hx (tI (λh1=>tI (λh2=>tR λh3=>⟨x,hx,eq_of_beq h1,by simpa using h2,eq_of_beq h3⟩) λ_=>N) λ_=>N)
theorem bY (w:AD) (i:Ab):D6 (AY w i) λb=>b=true->(i.Op=7->QT w i.B i.N)/\(i.Op=9->QT w i.A i.N):=by
 have j8:∀b,TT (AY.J8 i w b):=by
  intro b;unfold AY.J8 AY.J9 AY.Th
  repeat' first|exact tR trivial|refine tB (Lu _ _) λ_ _=> ?_|refine tI (λ_=> ?_) λ_=> ?_
 have j7:∀b,TT (AY.J7 i w b):=by
  intro b;unfold AY.J7
  repeat' first|exact tR trivial|exact j8 _|refine tB (Lu _ _) λ_ _=> ?_|refine tI (λ_=> ?_) λ_=> ?_
 have j5:∀b,TT (AY.J5 i w b):=by
  intro b;unfold AY.J5 AY.J6
  refine tI (λ_=>tB (Lu _ _) λv hv=>tI (λh=>tG (hv h) λx _=>tR trivial) λ_=>tR trivial) λ_=> ?_
  repeat' first|exact j7 _|refine tI (λ_=> ?_) λ_=> ?_
 have j3:∀b,TT (AY.J3 i w b):=by
  intro b;unfold AY.J3 AY.J4
  refine tI (λ_=>tB (Lu _ _) λv hv=>tI (λh=>tG (hv h) λx _=>tR trivial) λ_=>tR trivial) λ_=> ?_
  repeat' first|exact j5 _|refine tI (λ_=> ?_) λ_=> ?_
 unfold AY AY.J1 AY.J2
 have M:∀{o:ABp Bool},TT o->i.Op≠7->i.Op≠9->D6 o λb=>b=true->(i.Op=7->QT w i.B i.N)/\(i.Op=9->QT w i.A i.N):=λh h7 h9=>tM h λ_ _ _=>⟨λh=>absurd h h7,λh=>absurd h h9⟩
 refine tI (λh=>M (tB (Lu _ _) λv hv=>tI (λh=>tG (hv h) λx _=>tR trivial) λ_=>tR trivial) ?_ ?_) λn6=>tI (λh=>M (tB (Lu _ _) λv hv=>tI (λh=>tG (hv h) λx _=>tR trivial) λ_=>tR trivial) ?_ ?_) λn8=> ?_
 . rw[eq_of_beq h];decide
 . rw[eq_of_beq h];decide
 . rw[eq_of_beq h];decide
 . rw[eq_of_beq h];decide
 . refine tI (λh=>tB (YE _ _ _) λv hv=>tR λh1=>⟨λ_=>hv h1,λh2=> ?_⟩) λn7=>tI (λh=>tB (YE _ _ _) λv hv=>tR λh1=>⟨λh2=> ?_,λ_=>hv h1⟩) λn9=> ?_
   . rw[eq_of_beq h]at h2;cases h2
   . rw[eq_of_beq h]at h2;cases h2
   . exact M (tI (λ_=>j3 _) λ_=>j3 _) (by simpa using n7) (by simpa using n9)
def UF (o:Int):Bool:=decide (1≤o)&&decide (o≤5)
theorem PO (o:Int):FE o=some (UF o):=by
 unfold FE FE.J1 UF
 by_cases h:o≥1<;>simp[h]
theorem pL {l:List Ab} (hl:l.length≤8000000) (a:Int):TT (CP l a):=by
 unfold CP
 refine XN (l.length+1) (λ_ _=>True) (F:=λn s i=>CP.Aa l n s i) (by omega) trivial λn i s hi _ k=> ?_
 unfold CP.Aa CP.L1 CP.J1 CP.J2 CP.J3
 refine tD (λ_=>tD (λ_=>tR trivial) λ_=>tD (λ_=>tR trivial) λ_=>tG (by omega) λx _=>tE (PO _) ?_) λ_=>tR trivial
 exact tI (λ_=>tR trivial) λ_=>tI (λ_=>k _ (by omega) trivial) λ_=>k _ (by omega) trivial
def W5 (w:AD) (t:Int) (x:Ab):Prop:=if x.Op=28 then x.Site= -1 else∃y,gt w.A7 x.Site=some y/\y.Thread=t
structure VI (w:AD) (t R:Int) (x:Ab):Prop where
 o:1≤x.Op/\x.Op≤28
 g:∀y∈rg x,0≤y/\y<R
 s:W5 w t x
 a:(x.Op=7->QT w x.B x.N)/\(x.Op=9->QT w x.A x.N)
structure VT (w:AD) (t:Int) (c:An):Prop where
 r:0≤c.Br/\c.Br≤32
 i:∀x∈c.A1,VI w t c.Br x
theorem Uv (w:AD) (t:Int) {c:An} (hc:c.A1.length≤8000000):D6 (AZ w t c) λb=>b=true->VT w t c:=by
 have N:∀{α:Prop},D6 (some false) λb:Bool=>b=true->α:=tR λh=>by cases h
 have j1:∀b,(b=false->0≤c.Br/\c.Br≤32)->D6 (AZ.J1 c t w b) λb=>b=true->VT w t c:=by
  intro b hb;unfold AZ.J1
  refine tI (λ_=>N) λh0=>XN c.A1.length (λi (_:Unit)=>∀x∈c.A1.take i,VI w t c.Br x) (s0:=()) (F:=λn _ i=>AZ.Aa c t w n i) (by omega) (by simp) λn i _ hi hs k=> ?_
  unfold AZ.Aa AZ.L1 AZ.J6
  refine tD (λD5=>jM (by omega) ?_) λl8=>tR λ_=>⟨hb h0,XB (by omega) hs⟩
  have D5:i<c.A1.length:=by omega
  generalize hx:c.A1[i]=x
  have j4:∀b,(b=false->(1≤x.Op/\x.Op≤28)/\W5 w t x/\(x.Op=7->QT w x.B x.N)/\(x.Op=9->QT w x.A x.N))->D6 (AZ.J4 (AZ.Aa c t w n) c i x b) λb=>b=true->VT w t c:=by
   intro b ho;unfold AZ.J4
   refine tI (λ_=>N) λh1=>tE (GF x).1 (XN (rg x).length (λi (_:Unit)=>∀y∈(rg x).take i,0≤y/\y<c.Br) (s0:=()) (F:=λn _ i=>AZ.C2 _ c _ (rg x) n i) (by have:=(GF x).2;omega) (by simp) λm j _ hj sG k2=> ?_)
   unfold AZ.C2 AZ.L2 AZ.J5
   refine tD (λ_=>jM (by omega) (tB (Lu _ _) λv hv=>tI (λ_=>N) λh=>k2 () (by omega) (take_one (by omega) sG (hv (by simpa using h))))) λ_=>k () D5 (take_one D5 hs (by rw[hx];exact⟨(ho h1).1,XB (by omega) sG,(ho h1).2.1,(ho h1).2.2⟩))
  have j3:∀b,(b=false->(1≤x.Op/\x.Op≤28)/\W5 w t x/\(x.Op=7->QT w x.B x.N)/\(x.Op=9->QT w x.A x.N))->D6 (AZ.J3 (AZ.Aa c t w n) c i x b) λb=>b=true->VT w t c:=by
   intro b ho;unfold AZ.J3
   refine tI (λ_=>N) λh1=> ?_
   repeat' first|exact j4 _ λ_=>ho h1|refine tB (Lu _ _) λ_ _=> ?_|refine tI (λ_=> ?_) λ_=> ?_
  have j2:∀b,(b=false->(1≤x.Op/\x.Op≤28)/\(x.Op=7->QT w x.B x.N)/\(x.Op=9->QT w x.A x.N))->D6 (AZ.J2 (AZ.Aa c t w n) c i t w x b) λb=>b=true->VT w t c:=by
   intro b ho;unfold AZ.J2
   refine tI (λ_=>N) λh1=> ?_
   obtain⟨o1,o2⟩:=ho h1
   have T:∀b,b=true->D6 (AZ.J3 (AZ.Aa c t w n) c i x b) λb=>b=true->VT w t c:=λb hb=>j3 b λh=>by rw[hb]at h;cases h
   refine tI (λh28=>tI (λ_=>T _ rfl) λhs28=>tI (λh=>by rw[eq_of_beq h28]at h;cases h) λ_=>j3 _ λ_=>⟨o1,?_,o2⟩) λh28=>tI (λ_=> ?_) λh=>by simp at h h28;omega
   . unfold W5;rw[AAY (eq_of_beq h28)];simpa using hs28
   . refine tB (Lu _ _) λv hv=>tI (λ_=>T _ rfl) λh=> ?_
     obtain⟨y,hy,_⟩:=Fm (hv (by simpa using h))
     refine tE hy (j3 _ λht=>⟨o1,?_,o2⟩)
     unfold W5
     rw[AAX (by simpa using h28)]
     exact⟨y,hy,by simpa using ht⟩
  refine tD (λ_=>j2 _ λh=>by cases h) λ_=>tD (λ_=>j2 _ λh=>by cases h) λ_=> ?_
  have ho:1≤x.Op/\x.Op≤28:=by omega
  exact tI (λ_=>j2 _ λh=>by cases h) λ_=>tB (bY _ _) λv hv=>tI (λ_=>j2 _ λh=>by cases h) λh=>NN (pL hc _) λ_=>j2 _ λ_=>⟨ho,hv (by simpa using h)⟩
 unfold AZ
 exact tD (λ_=>j1 _ λh=>by cases h) λ_=>tD (λ_=>j1 _ λh=>by cases h) λ_=>j1 _ λ_=>by omega
structure VC (c:BF):Prop where
 w:Ck c.World=true
 n:c.AA.length=c.World.AA.length
 t:∀(i:Nat) t,c.AA[i]? =some t->VT c.World i t
theorem VK {c:BF} (hc:CK c):D6 (CB c) λb=>b=true->VC c:=by
 have N:∀{α:Prop},D6 (some false) λb:Bool=>b=true->α:=tR λh=>by cases h
 have hn:=hc.n
 have j1:∀b,(b=false->Ck c.World=true/\c.AA.length=c.World.AA.length)->D6 (CB.J1 c b) λb=>b=true->VC c:=by
  intro b hb;unfold CB.J1
  refine tI (λ_=>N) λh0=>XN c.AA.length (λi (_:Unit)=>∀(j:Nat) x,j<i->c.AA[j]? =some x->VT c.World j x) (s0:=()) (F:=λn _ i=>CB.Aa c n i) (by omega) (λj _ h=>by omega) λn i _ hi hs k=> ?_
  unfold CB.Aa CB.L1 CB.J2
  refine tD (λD5=>jM (by omega) (tB (Uv _ _ (hc.i _ (AAi (by omega)))) λv hv=>tI (λ_=>N) λh=>k () (by omega) ?_)) λ_=>tR λ_=>⟨(hb h0).1,(hb h0).2,λj x hx=>hs j x ?_ hx⟩
  . intro j x hj hx
    by_cases e:j<i
    . exact hs j x e hx
    . obtain rfl:j=i:=by omega
      rw[AAT (by omega)]at hx
      rw[← AAR hx]
      exact hv (by simpa using h)
  . have:=(AAQ.1 hx).1;omega
 unfold CB
 refine tE (Ot _) (tI (λ_=>j1 _ λh=>by cases h) λh=>j1 _ λh2=>⟨by simpa using h,?_⟩)
 have:=AAa (by simpa using h2:decide ((c.AA.length:Int)=(c.World.AA.length:Int))=true)
 omega
def Kl {α:Type} (o:ABp α) (Q:α->Prop):Prop:=∀r,o=some r->Q r
theorem pR {α:Type} {r:α} {Q:α->Prop} (h:Q r):Kl (some r) Q:=λ_ e=>by cases e;exact h
theorem pN {α:Type} {Q:α->Prop}:Kl (none:ABp α) Q:=λ_ e=>by cases e
theorem pB {α β:Type} {o:ABp α} {Q:α->Prop} {f:α->ABp β} {R:β->Prop} (h:Kl o Q) (k:∀x,Q x->Kl (f x) R):Kl (o.bind f) R:=by
 intro r e
 cases o with
 |none=>cases e
 |some x=>exact k x (h x rfl) r e
theorem pE {α β:Type} {o:ABp α} {y:α} {f:α->ABp β} {R:β->Prop} (h:o=some y) (k:Kl (f y) R):Kl (o.bind f) R:=by rw[h];exact k
theorem pC {α:Type} {p:Prop} [Decidable p] {a:ABp α} {R:α->Prop} (k:p->Kl a R):Kl (if p then a else none) R:=by
 by_cases h:p
 . rw[AAY h];exact k h
 . rw[AAX h];exact pN
theorem pI {α:Type} {c:Bool} {a b:ABp α} {R:α->Prop} (h1:c=true->Kl a R) (h2:c=false->Kl b R):Kl (if c=true then a else b) R:=by
 cases c with
 |true=>exact h1 rfl
 |false=>exact h2 rfl
theorem pD {α:Type} {p:Prop} [Decidable p] {a b:ABp α} {R:α->Prop} (h1:p->Kl a R) (h2:¬p->Kl b R):Kl (if decide p=true then a else b) R:=by
 by_cases h:p
 . simpa[h]using h1 h
 . simpa[h]using h2 h
theorem pT {α:Type} {o:ABp α} {Q:α->Prop} (h:D6 o Q):Kl o Q:=by
 obtain⟨x,rfl,hx⟩:=h;exact pR hx
theorem pLs {σ α:Type} {Q:α->Prop} (N:Nat) (I:Nat->σ->Prop) {F:Nat->σ->Int->ABp α} (hF:∀s i,F 0 s i=none) (hN:N<1000000000000) {s0:σ} (h0:I 0 s0)
 (h:∀n (i:Nat) s,i≤N->I i s->(∀s',i<N->I (i+1) s'->Kl (F n s' (Ap (i+1))) Q)->Kl (F (n+1) s i) Q):Kl (F BT s0 0) Q:=by
 have key:∀n (i:Nat) s,i≤N->I i s->Kl (F n s i) Q:=by
  intro n
  induction n with
  |zero=>intro i s _ _;rw[hF];exact pN
  |succ n ih=>
   intro i s h2 h3
   refine h n i s h2 h3 λs' h4 h5=> ?_
   rw[Ao (by omega)]
   exact ih (i+1) s' (by omega) h5
 exact key BT 0 s0 (by omega) h0
def StI (l:List Ab) (k m:Nat):Prop:=∃x,l[k]? =some x/\UF x.Op=true/\(x.Op=5/\x.A=(m:Int)∨x.Op≠5/\m=k+1)
def UI (l:List Ab) (a b:Nat):Nat->Nat->Nat->Prop
 |0,k,m=>k=m
 |n+1,k,m=>(a≤k/\k<b)/\∃j,StI l k j/\UI l a b n j m
def Ev (l:List Ab) (m:Nat):Prop:=∃x,l[m]? =some x/\UF x.Op=false
theorem UI.frame {l l':List Ab} {a b a' b':Nat} (h:∀i,a≤i->i<b->l[i]? =l'[i]?) (ha:a'≤a) (hb:b≤b'):∀{n k m},UI l a b n k m->UI l' a' b' n k m
 |0,_,_,e=>e
 |n+1,k,m,⟨⟨h1,h2⟩,j,⟨x,x1,x2⟩,h4⟩=>⟨⟨by omega,by omega⟩,j,⟨x,by rw[← h k h1 h2];exact x1,x2⟩,h4.frame h ha hb⟩
theorem UI.trans {l:List Ab} {a b:Nat}:∀{n k m p q},UI l a b n k m->UI l a b p m q->UI l a b (n+p) k q
 |0,_,_,p,_,e,h=>by cases e;rw[ABS];exact h
 |n+1,_,_,p,_,⟨h1,j,h2,h3⟩,h=>by rw[Nat.succ_add];exact⟨h1,j,h2,h3.trans h⟩
theorem UI.one {l:List Ab} {a b k m:Nat} (h:a≤k/\k<b) (s:StI l k m):UI l a b 1 k m:=⟨h,m,s,rfl⟩
structure LV (w:AD) (lo hi:Int) (c:Nat) (x:Ab):Prop where
 o:1≤x.Op/\x.Op≤27
 ob:AY w x=some true
 g:∀y∈rg x,0≤y/\y<32
 s:lo≤x.Site/\x.Site<hi
 j:x.Op=5->0≤x.A/\x.A≤c
 b:x.Op=10->0≤x.B/\x.B≤c
structure SG (w:AD) (lo hi:Int) (l:List Ab) (a b c:Nat):Prop where
 h:a≤b/\b≤l.length
 i:∀k x,a≤k->k<b->l[k]? =some x->LV w lo hi c x
 f:∀k,a≤k->k<b->(∃n m,UI l a b n k m/\(a≤m/\m<b)/\Ev l m/\n+a+1≤b)∨∃n,UI l a b n k b/\n+k≤b
section
variable {w:AD} {lo hi lo' hi':Int} {l l':List Ab} {a b c d:Nat}
theorem LV.mono {x:Ab} (h:LV w lo hi c x) (h1:lo'≤lo) (h2:hi≤hi') (h3:c≤d):LV w lo' hi' d x:=
 ⟨h.o,h.ob,h.g,⟨by have:=h.s;omega,by have:=h.s;omega⟩,λe=>by have:=h.j e;omega,λe=>by have:=h.b e;omega⟩
theorem SG.frame (h:SG w lo hi l a b c) (hl:∀i,a≤i->i<b->l[i]? =l'[i]?) (hb:b≤l'.length) (h1:lo'≤lo) (h2:hi≤hi') (h3:c≤d):SG w lo' hi' l' a b d:=by
 refine⟨⟨h.h.1,hb⟩,λk x k1 k2 hx=>(h.i k x k1 k2 (by rw[hl k k1 k2];exact hx)).mono h1 h2 h3,λk k1 k2=> ?_⟩
 rcases h.f k k1 k2 with⟨n,m,r,m1,⟨x,x1,x2⟩,hn⟩|⟨n,r,hn⟩
 . exact .inl ⟨n,m,r.frame hl (by omega) (by omega),m1,⟨x,by rw[← hl m m1.1 m1.2];exact x1,x2⟩,hn⟩
 . exact .inr ⟨n,r.frame hl (by omega) (by omega),hn⟩
theorem SG.mono (h:SG w lo hi l a b c) (h1:lo'≤lo) (h2:hi≤hi') (h3:c≤d):SG w lo' hi' l a b d:=h.frame (λ_ _ _=>rfl) h.h.2 h1 h2 h3
theorem SG.nil (h:a≤l.length):SG w lo hi l a a c:=⟨⟨by omega,h⟩,λk x _ _=>by omega,λk _ _=>by omega⟩
theorem SG.app {e:Nat} (h:SG w lo hi l a b c) (g:SG w lo hi l b e c):SG w lo hi l a e c:=by
 have hh:=h.h;have gh:=g.h
 refine⟨⟨by omega,gh.2⟩,λk x k1 k2 hx=> ?_,λk k1 k2=> ?_⟩
 . by_cases hk:k<b
   . exact h.i k x k1 hk hx
   . exact g.i k x (by omega) k2 hx
 . have up:∀{n k m},UI l b e n k m->UI l a e n k m:=λr=>r.frame (λ_ _ _=>rfl) (by omega) (by omega)
   have up':∀{n k m},UI l a b n k m->UI l a e n k m:=λr=>r.frame (λ_ _ _=>rfl) (by omega) (by omega)
   by_cases hk:k<b
   . rcases h.f k k1 hk with⟨n,m,r,m1,ev,hn⟩|⟨n,r,hn⟩
     . exact .inl ⟨n,m,up' r,by omega,ev,by omega⟩
     . by_cases hbe:b<e
       . rcases g.f b (by omega) hbe with⟨n',m,r',m1,ev,oP⟩|⟨n',r',oP⟩
         . exact .inl ⟨n+n',m,(up' r).trans (up r'),by omega,ev,by omega⟩
         . exact .inr ⟨n+n',(up' r).trans (up r'),by omega⟩
       . have:b=e:=by omega
         subst this
         exact .inr ⟨n,up' r,by omega⟩
   . rcases g.f k (by omega) k2 with⟨n,m,r,m1,ev,hn⟩|⟨n,r,hn⟩
     . exact .inl ⟨n,m,up r,by omega,ev,by omega⟩
     . exact .inr ⟨n,up r,hn⟩
theorem SG.one {x:Ab} (hx:l[a]? =some x) (hv:LV w lo hi c x) (h5:x.Op≠5):SG w lo hi l a (a+1) c:=by
 have hl:=(AAQ.1 hx).1
 refine⟨⟨by omega,by omega⟩,λk y k1 k2 hy=> ?_,λk k1 k2=> ?_⟩
 . obtain rfl:k=a:=by omega
   rw[hx]at hy;cases hy;exact hv
 . obtain rfl:k=a:=by omega
   cases hs:UF x.Op with
   |false=>exact .inl ⟨0,k,rfl,by omega,⟨x,hx,hs⟩,by omega⟩
   |true=>exact .inr ⟨1,UI.one (by omega) ⟨x,hx,hs,.inr ⟨h5,rfl⟩⟩,by omega⟩
end
def TB (E:Int) (x:List Int):Prop:=x.Pairwise (· < ·)/\∀y∈x,0≤y/\y<E
theorem TB.len {E:Int} {x:List Int} (h:TB E x) (h0:0≤E):(x.length:Int)≤E:=by
 have key:∀(x:List Int) (a:Int),x.Pairwise (· < ·)->(∀y∈x,a≤y/\y<E)->a≤E->(x.length:Int)≤E-a:=by
  intro x
  induction x with
  |nil=>intro a _ _ h;simp;omega
  |cons y r ih=>
   intro a h1 h2 h3
   obtain⟨p1,p2⟩:=List.pairwise_cons.1 h1
   have hy:=h2 y ABL
   have:=ih (y+1) p2 (λz hz=>⟨p1 z hz,(h2 z (List.mem_cons_of_mem _ hz)).2⟩) (by omega)
   simp only[AA7];omega
 have:=key x 0 h.1 h.2 h0
 omega
theorem TB.mono {E F:Int} {x:List Int} (h:TB E x) (hf:E≤F):TB F x:=⟨h.1,λy hy=>⟨(h.2 y hy).1,by have:=(h.2 y hy).2;omega⟩⟩
structure TH (E:Nat) (s:AL):Prop where
 r:s.Br.length≤100
 t:s.Bn.length≤100
 b:∀x∈s.Bn,TB s.AF x
 e:0≤s.AF/\s.AF≤E
theorem TH.zero (E:Nat):TH E ⟨0,[],[],0⟩:=⟨by simp,by simp,by simp,by simp,by simp⟩
theorem Zz {E:Nat} {s:AL} (h:TH E s) (hE:E≤100000):Ch s=some s:=by
 have hr:=h.r;have ht:=h.t;have he:=h.e
 have key:D6 (Ch s) λr=>r=s:=by
  unfold Ch
  refine tC (DK (by omega)) (XN s.Bn.length (λi o=>o=⟨s.PC,s.Br,s.Bn.take i,s.AF⟩) (F:=λn o i=>Ch.Aa s n o i) (by omega) rfl λn i o hi ho k=> ?_)
  subst ho
  unfold Ch.Aa Ch.L1 Ch.J1
  refine tD (λ_=>jM (by omega) ?_) λ_=>tR (by rw[AA3 (by omega)])
  have:=(h.b _ (AAi (show i<s.Bn.length by omega))).len he.1
  exact tC (DK (by omega)) (tC (DK (by simp;omega)) (k _ (by omega) (by rw[AAk])))
 obtain⟨r,h1,rfl⟩:=key
 exact h1
theorem rg1 {i:Ab} (h:i.Op=1):rg i=[i.A]:=by unfold rg AU AU.J1;simp[h]
theorem rg2 {i:Ab} (h:i.Op=2):rg i=[i.A,i.B]:=by unfold rg AU AU.J1 AU.J2;simp[h]
theorem rg3 {i:Ab} (h:i.Op=3):rg i=[i.A,i.B]:=by unfold rg AU AU.J1 AU.J2;simp[h]
theorem rg4 {i:Ab} (h:i.Op=4):rg i=[i.A,i.B,i.C]:=by unfold rg AU AU.J1 AU.J2;simp[h]
theorem rg6 {i:Ab} (h:i.Op=6):rg i=[i.A]:=by unfold rg AU AU.J1;simp[h]
theorem rg7 {i:Ab} (h:i.Op=7):rg i=[i.A,i.C]:=by unfold rg AU AU.J1 AU.J2;simp[h]
theorem rg8 {i:Ab} (h:i.Op=8):rg i=[i.B]:=by unfold rg AU AU.J1 AU.J2 AU.J3;simp[h]
theorem rg9 {i:Ab} (h:i.Op=9):rg i=[i.B,i.C]:=by unfold rg AU AU.J1 AU.J2 AU.J3;simp[h]
theorem rg10 {i:Ab} (h:i.Op=10):rg i=[i.A]:=by unfold rg AU AU.J1;simp[h]
theorem rg26 {i:Ab} (h:i.Op=26):rg i=[i.B]:=by unfold rg AU AU.J1 AU.J2 AU.J3;simp[h]
theorem rg27 {i:Ab} (h:i.Op=27):rg i=[i.A]:=by unfold rg AU AU.J1;simp[h]
theorem SD (n:Int):TT (Cj n):=by
 unfold Cj Cj.J1
 repeat' first|exact tR trivial|refine tI (λ_=> ?_) λ_=> ?_
theorem Ys (b:Bool):TT (Di b):=by
 unfold Di
 exact tI (λ_=>tR trivial) λ_=>tR trivial
theorem mI (o a:Int):TT (Hq o a):=by
 unfold Hq
 repeat' first|exact tR trivial|refine NN (Ys _) λ_=> ?_|refine tI (λ_=> ?_) λ_=> ?_
theorem eD (o a b:Int):TT (DW o a b):=by
 unfold DW DW.J1 DW.J2
 repeat' first|exact tR trivial|refine NN (Ys _) λ_=> ?_|refine tD (λ_=>tR trivial) λhb=>tC hb ?_|refine tI (λ_=> ?_) λ_=> ?_
theorem zW {E:Nat} {i:Ab} {s:AL} {P:Int->Prop} (hs:TH E s) (hP:∀x∈s.Bn,∀k∈x,P k) (hE:E≤100000) (hl:s.Bn.length=s.Br.length) (ho:UF i.Op=true):D6 (B4 i s) λr=>r.2=true->(TH E r.1/\r.1.Bn.length=r.1.Br.length)/\r.1.AF=s.AF/\∀x∈r.1.Bn,∀k∈x,P k:=by
 have N:∀{x} {P:AL×Bool->Prop},D6 (some (x,false)) λr:AL×Bool=>r.2=true->P r:=tR λh=>by cases h
 have he:=hs.e;have hr:=hs.r;have ht:=hs.t
 have j3:∀v ok t,0≤i.A/\i.A<s.Br.length->TB s.AF t->(∀k∈t,P k)->D6 (B4.J3 i s v ok t) λr=>r.2=true->(TH E r.1/\r.1.Bn.length=r.1.Br.length)/\r.1.AF=s.AF/\∀x∈r.1.Bn,∀k∈x,P k:=by
  intro v ok t ha htb htp
  have:=htb.len he.1
  unfold B4.J3
  refine tC (DK (by omega)) (tG ha λ_ _=>tG (by omega) λ_ _=>tR λ_=>⟨⟨⟨by simpa using hr,by simpa using ht,?_,he⟩,by simpa using hl⟩,rfl,?_⟩)
  . intro x hx
    rcases AAv hx with hx|rfl
    . exact hs.b x hx
    . exact htb
  . intro x hx
    rcases AAv hx with hx|rfl
    . exact hP x hx
    . exact htp
 have j2:(∀y∈rg i,0≤y/\y<s.Br.length)->D6 (B4.J2 i s) λr=>r.2=true->(TH E r.1/\r.1.Bn.length=r.1.Br.length)/\r.1.AF=s.AF/\∀x∈r.1.Bn,∀k∈x,P k:=by
  intro hg;unfold B4.J2
  refine tI (λ_=>tR λ_=>⟨⟨⟨hr,ht,hs.b,he⟩,hl⟩,rfl,hP⟩) λn5=>tI (λh1=> ?_) λn1=>tI (λh2=> ?_) λn2=>tI (λh3=> ?_) λn3=> ?_
  . simp only[rg1 (eq_of_beq h1),AA4,forall_eq]at hg
    exact j3 _ _ _ hg ⟨List.Pairwise.nil,by simp⟩ (by simp)
  . simp only[rg2 (eq_of_beq h2),AAp,ABn,ABd,forall_eq_or_imp,forall_eq]at hg
    exact tG hg.2 λ_ _=>tG (by omega) λx hx=>j3 _ _ _ hg.1 (hs.b x hx) (hP x hx)
  . simp only[rg3 (eq_of_beq h3),AAp,ABn,ABd,forall_eq_or_imp,forall_eq]at hg
    exact NN (SD _) λ_=>tG hg.2 λ_ _=>NN (mI _ _) λ_=>tG (by omega) λx hx=>j3 _ _ _ hg.1 (hs.b x hx) (hP x hx)
  . have h4:i.Op=4:=by simp[UF]at ho n5 n1 n2 n3;omega
    simp only[rg4 h4,AAp,ABn,ABd,forall_eq_or_imp,forall_eq]at hg
    refine NN (SD _) λ_=>tG hg.2.1 λ_ _=>tG hg.2.2 λ_ _=>NN (eD _ _ _) λ_=>tG (by omega) λx hx=>tG (by omega) λy hy=> ?_
    have lx:=(hs.b x hx).len he.1;have ly:=(hs.b y hy).len he.1
    refine tE (Z6 x y (by omega)) (j3 _ _ _ hg.1 ⟨NK _,λz hz=> ?_⟩ λz hz=> ?_)
    . rcases AAj.1 ((Pb _ _).1 hz)with hz|hz
      . exact(hs.b x hx).2 z hz
      . exact(hs.b y hy).2 z hz
    . rcases AAj.1 ((Pb _ _).1 hz)with hz|hz
      . exact hP x hx z hz
      . exact hP y hy z hz
 unfold B4
 refine tE (GF i).1 (XN (rg i).length (λj (_:Unit)=>∀y∈(rg i).take j,0≤y/\y<(s.Br.length:Int)) (s0:=()) (F:=λn _ j=>B4.Aa i s (rg i) n j) (by have:=(GF i).2;omega) (by simp) λn j _ hj sG k=> ?_)
 unfold B4.Aa B4.L1 B4.J1
 refine tD (λ_=>jM (by omega) (tD (λ_=>tI (λ_=>N) λh=>by cases h) λ_=>tD (λ_=>N) λ_=>k () (by omega) (take_one (by omega) sG (by omega)))) λ_=>j2 (XB (by omega) sG)
def PN:AL:=⟨0,[],[],0⟩
theorem eM {E:Nat} {c:An} {s:AL} {P:Int->Prop} (hs:TH E s) (hP:∀x∈s.Bn,∀k∈x,P k) (hE:E≤100000) (hc:c.A1.length≤8000000):D6 (Bf c s) λr=>TH E r.1/\(r.1=PN∨r.1.AF=s.AF/\∀x∈r.1.Bn,∀k∈x,P k):=by
 have Z:TH E PN/\(PN=PN∨PN.AF=s.AF/\∀x∈PN.Bn,∀k∈x,P k):=⟨TH.zero E,.inl rfl⟩
 have j1:∀b,(b=false->s.Bn.length=s.Br.length)->D6 (Bf.J1 c s b) λr=>TH E r.1/\(r.1=PN∨r.1.AF=s.AF/\∀x∈r.1.Bn,∀k∈x,P k):=by
  intro b hb;unfold Bf.J1
  refine tI (λ_=>tR Z) λh0=>tE (Zz hs hE) (XN (c.A1.length+1) (λ_ t=>(TH E t/\t.Bn.length=t.Br.length)/\t.AF=s.AF/\∀x∈t.Bn,∀k∈x,P k) (F:=λn s j=>Bf.Aa c n s j) (by omega) ⟨⟨hs,hb h0⟩,rfl,hP⟩ λn i t hi ht k=> ?_)
  unfold Bf.Aa Bf.L1 Bf.J2 Bf.J3
  refine tD (λ_=>tD (λ_=>tI (λ_=>tR Z) λh=>by cases h) λ_=>tD (λ_=>tR Z) λ_=>tG (by omega) λx _=>tE (PO _) (tI (λ_=>tR ⟨ht.1.1,.inr ht.2⟩) λh=>tI (λ_=>tR Z) λ_=> ?_)) λ_=>tR Z
  exact tB (zW ht.1.1 ht.2.2 hE ht.1.2 (by simpa using h)) λv hv=>tI (λ_=>tR Z) λh=>k _ (by omega) (by have:=hv (by simpa using h);rw[ht.2.1]at this;exact this)
 unfold Bf
 refine tI (λ_=>j1 _ λh=>by cases h) λh=>j1 _ λh2=> ?_
 simp at h h2;omega
def bV:List Ic:=[⟨⟨#[109]⟩,false⟩,⟨⟨#[110]⟩,false⟩,⟨⟨#[114]⟩,true⟩]
structure WF (T:ABq->Prop) (w:AD):Prop where
 c:w.Cells=QU
 l:w.AG=bV
 d:w.Af=[⟨cN,0⟩]
 f:w.AK=[⟨#[102]⟩]
 t:∀s,T s->s∈w.AA
 n:w.AA.length≤4
structure GW (T:ABq->Prop) (g:A5):Prop where
 w:WF T g.w
 l:g.locals=sB
structure GV (g r:A5) (lo hi:Int):Prop where
 w:r.w=g.w
 l:r.locals=g.locals
 n:g.out.length≤r.out.length
 p:∀i,i<g.out.length->r.out[i]? =g.out[i]?
 s:SG g.w lo hi r.out g.out.length r.out.length r.out.length
section
variable {T:ABq->Prop} {g h r:A5} {lo hi lo' hi':Int}
theorem GV.refl:GV g g lo hi:=⟨rfl,rfl,AAy _,λ_ _=>rfl,SG.nil (AAy _)⟩
theorem GV.trans (a:GV g h lo hi) (b:GV h r lo hi):GV g r lo hi:=by
 have an:=a.n;have bn:=b.n
 refine⟨b.w.trans a.w,b.l.trans a.l,by omega,λi hi=>(b.p i (by omega)).trans (a.p i hi),(a.s.frame (l':=r.out) (d:=r.out.length) (λi _ hi=>(b.p i hi).symm) (by omega) (by omega) (by omega) (by omega)).app ?_⟩
 have:=b.s
 rw[a.w]at this
 exact this
theorem GV.mono (a:GV g r lo hi) (h1:lo'≤lo) (h2:hi≤hi'):GV g r lo' hi':=⟨a.w,a.l,a.n,a.p,a.s.mono h1 h2 (AAy _)⟩
theorem GV.site (a:GV g r lo hi) (s n:Int):GV g ⟨r.w,r.locals,r.out,s,n⟩ lo hi:=⟨a.w,a.l,a.n,a.p,a.s⟩
theorem GW.next (a:GW T g) (b:GV g r lo hi):GW T r:=⟨by rw[b.w];exact a.w,b.l.trans a.l⟩
theorem GW.site (a:GW T g) (s n:Int):GW T ⟨g.w,g.locals,g.out,s,n⟩:=⟨a.w,a.l⟩
theorem GV.put {x:Ab} {s n:Int} (hv:LV g.w lo hi (g.out.length+1) x) (h5:x.Op≠5):GV g ⟨g.w,g.locals,g.out++[x],s,n⟩ lo hi:=by
 refine⟨rfl,rfl,by simp,λi hi=>by simp only;rw[AAr hi],?_⟩
 simp only[AA1,AA7,ABR]
 exact SG.one (by simp) hv h5
abbrev GK (g r:A5) (lo hi:Int):Prop:=GV g r lo hi/\r.site=g.site/\r.next=g.next
theorem GK.trans (a:GK g h lo hi) (b:GK h r lo hi):GK g r lo hi:=⟨a.1.trans b.1,b.2.1.trans a.2.1,b.2.2.trans a.2.2⟩
end
theorem uV {l:List DB} (hl:l.length≤12) {L:List ABq->Int->ABp (List ABq×Bool)} {i:Nat} {names:List ABq} {x:DB} {v:List ABq×Bool} (h1:1≤x.B0/\x.B0≤4) (hi:(i:Int)+x.B0≤l.length) (hv:v.2=true):
 ∀(n t:Nat) (want:DB),want.B0=x.B0->(t:Int)≤x.B0->AR.C2 L i l names x n want t=some v->
 (∀k:Nat,t≤k->(k:Int)<x.B0->∃c,l[i+k]? =some c/\c.Index=k/\c.B0=x.B0)/\L (names++[x.Name]) (i+x.B0)=some v:=by
 intro n
 induction n with
 |zero=>intro t want _ _ h;cases h
 |succ n ih=>
  intro t want hw ht h
  unfold AR.C2 AR.L2 at h
  by_cases D5:(t:Int)<x.B0
  . rw[BC D5,DR (n:=(i:Int)+t) (by omega) (by omega),show(i:Int)+t=((i+t:Nat):Int)from by omega,CU (by omega),AAO]at h
    split at h
    . cases h;cases hv
    . rename_i hc
      rw[Ao (by omega)]at h
      obtain⟨a,b⟩:=ih (t+1) ⟨want.Name,t,want.B0,want.Fv,want.Init⟩ hw (by omega) h
      refine⟨λk hk V1=> ?_,b⟩
      by_cases e:k=t
      . subst e
        refine⟨l[i+k],AAT (by omega),?_⟩
        simp only[ABU,Bool.not_eq_false,AAP,AAd]at hc
        exact⟨hc.2.1,hc.2.2.1.trans hw⟩
      . exact a k (by omega) V1
  . rw[Ac D5]at h
    unfold AR.J2 at h
    rw[hw,DR (by omega) (by omega)]at h
    exact⟨λk hk V1=>by omega,h⟩
theorem nK {l:List DB} (hl:l.length≤12) {v:List ABq×Bool} (hv:v.2=true):∀(n i:Nat) (names:List ABq),names.length≤i->i≤l.length->AR.Aa l n names i=some v->
 ∀(b:Nat) (c:DB),i≤b->l[b]? =some c->c.Index=0->c.B0≠0->(1≤c.B0/\c.B0≤4)/\∀k:Nat,(k:Int)<c.B0->∃d,l[b+k]? =some d/\d.B0≠0:=by
 intro n
 induction n with
 |zero=>intro i names _ _ h;cases h
 |succ n ih=>
  intro i names hn hil h b c hb hc h0 hs
  have hbl:=(AAQ.1 hc).1
  unfold AR.Aa AR.L1 at h
  have hi:i<l.length:=by omega
  rw[BC (by omega),CU hi,AAO,BL (by omega)]at h
  have hx:l[i]? =some l[i]:=AAT hi
  generalize l[i]=x at h hx
  by_cases e:x.B0=0
  . rw[AAY (by simpa using e)]at h
    split at h
    . cases h;cases hv
    . rw[Ao (by omega)]at h
      by_cases eb:b=i
      . subst eb;rw[hx]at hc;cases hc;exact absurd e hs
      . exact ih (i+1) _ (by simp;omega) (by omega) h b c (by omega) hc h0 hs
  . rw[AAX (by simpa using e)]at h
    have J:∀t,AR.J1 (AR.Aa l n) i l names x t=some v->t=false/\AR.C2 (AR.Aa l n) i l names x BT x 0=some v:=by
     intro t ht
     unfold AR.J1 at ht
     cases t with
     |true=>cases ht;cases hv
     |false=>exact⟨rfl,ht⟩
    have key:(1≤x.B0/\x.B0≤4)/\(i:Int)+x.B0≤l.length/\AR.C2 (AR.Aa l n) i l names x BT x 0=some v:=by
     rw[DR (n:=(l.length:Int)-i) (by omega) (by omega)]at h
     split at h
     . exact absurd (J _ h).1 (by simp)
     . rename_i a1
       split at h
       . exact absurd (J _ h).1 (by simp)
       . rename_i a2
         split at h
         . exact absurd (J _ h).1 (by simp)
         . obtain⟨q1,q2⟩:=J _ h
           simp at a1 a2 q1
           exact⟨by omega,by omega,q2⟩
    obtain⟨k1,k2,k3⟩:=key
    obtain⟨a,r⟩:=uV hl k1 k2 hv BT 0 x rfl (by omega) k3
    by_cases eb:(b:Int)<i+x.B0
    . obtain⟨d,d1,d2,d3⟩:=a (b-i) (by omega) (by omega)
      rw[show i+(b-i)=b from by omega,hc]at d1
      cases d1
      have:b=i:=by omega
      subst this
      rw[hx]at hc;cases hc
      refine⟨k1,λk hk=> ?_⟩
      obtain⟨d,d1,d2,d3⟩:=a k (by omega) hk
      exact⟨d,d1,by rw[d3];exact hs⟩
    . rw[show(i:Int)+x.B0=((i+x.B0.toNat:Nat):Int)from by omega]at r
      exact ih (i+x.B0.toNat) _ (by simp;omega) (by omega) r b c (by omega) hc h0 hs
theorem mP {w:AD} (hw:Ck w=true) {b n:Int} (h:QT w b n):(1≤n/\n≤4)/\∀k,0≤k->k<n->∃d,gt w.Cells (b+k)=some d/\d.B0≠0:=by
 have hl:=(EC hw).c
 obtain⟨x,hx,h0,hs,hn⟩:=h
 have hb:0≤b:=by
  unfold gt at hx
  split at hx
  . assumption
  . cases hx
 obtain⟨m,rfl⟩:∃m:Nat,b=m:=⟨b.toNat,by omega⟩
 rw[LG]at hx
 have hc:∃v,AR w.Cells=some v/\v.2=true:=by
  unfold Ck at hw
  cases hv:AR w.Cells with
  |none=>simp[hv]at hw
  |some v=>simp[hv]at hw;exact⟨v,rfl,hw.2.1.1.1⟩
 obtain⟨v,v1,v2⟩:=hc
 obtain⟨a1,a2⟩:=nK hl v2 BT 0 [] (by simp) (by omega) v1 m x (by omega) hx h0 hs
 rw[hn]at a1 a2
 refine⟨a1,λk k1 k2=> ?_⟩
 obtain⟨j,rfl⟩:∃j:Nat,k=j:=⟨k.toNat,by omega⟩
 rw[show(m:Int)+j=((m+j:Nat):Int)from by omega,LG]
 exact a2 j k2
structure FT (c:BF) (s:Ad):Prop where
 v:VC c
 f:G8 c.World s.Sync=true
 c':s.Cells.length=c.World.Cells.length
 u:s.AK.length=c.World.AK.length
 n:s.AA.length=c.AA.length
 t:∀(i:Nat) x y,s.AA[i]? =some x->c.AA[i]? =some y->(0≤x.PC/\x.PC<y.A1.length)/\(x.Br.length:Int)=y.Br/\(x.Bn.length:Int)=y.Br
theorem vJ {c:BF} (hc:CK c) (s:Ad):D6 (ES c s) λb=>b=true->FT c s:=by
 have N:∀{α:Prop},D6 (some false) λb:Bool=>b=true->α:=tR λh=>by cases h
 have hn:=hc.n
 have j1:∀b,(b=false->VC c/\G8 c.World s.Sync=true/\s.Cells.length=c.World.Cells.length/\s.AK.length=c.World.AK.length/\s.AA.length=c.AA.length)->D6 (ES.J1 c s b) λb=>b=true->FT c s:=by
  intro b hb;unfold ES.J1
  refine tI (λ_=>N) λh0=> ?_
  obtain⟨h1,h2,h3,h4,h5⟩:=hb h0
  refine XN c.AA.length (λi (_:Unit)=>∀(j:Nat) x y,j<i->s.AA[j]? =some x->c.AA[j]? =some y->(0≤x.PC/\x.PC<y.A1.length)/\(x.Br.length:Int)=y.Br/\(x.Bn.length:Int)=y.Br) (s0:=()) (F:=λn _ i=>ES.Aa c s n i) (by omega) (λj _ _ h=>by omega) λn i _ hi hs k=> ?_
  unfold ES.Aa ES.L1 ES.J2 ES.J3
  refine tD (λ_=>jM (by omega) (tD (λ_=>tI (λ_=>N) λh=>by cases h) λp1=>jM (by omega) (tD (λ_=>tI (λ_=>N) λh=>by cases h) λp2=>tI (λ_=>tI (λ_=>N) λh=>by cases h) λp3=>tI (λ_=>N) λp4=>k () (by omega) ?_))) λ_=>tR λ_=>⟨h1,h2,h3,h4,h5,λj x y hx hy=>hs j x y ?_ hx hy⟩
  . intro j x y hj hx hy
    by_cases e:j<i
    . exact hs j x y e hx hy
    . obtain rfl:j=i:=by omega
      rw[AAT (by omega)]at hx hy
      rw[← AAR hx,← AAR hy]
      simp at p3 p4
      exact⟨by omega,p3,p4⟩
  . have:=(AAQ.1 hy).1;omega
 unfold ES
 refine tB (VK hc) λv hv=>tI (λ_=>j1 _ λh=>by cases h) λh=> ?_
 have hv:=hv (by simpa using h)
 refine tE (Nr _ (EC hv.w) _) (tI (λ_=>j1 _ λh=>by cases h) λh1=>tI (λ_=>j1 _ λh=>by cases h) λh2=>tI (λ_=>j1 _ λh=>by cases h) λh3=>j1 _ λh4=>⟨hv,by simpa using h1,?_,?_,?_⟩)
 . simp at h2;omega
 . simp at h3;omega
 . simp at h4;omega
theorem X8 (i n:Int):D6 (F7 i n) λv=>1≤n/\n≤4->0≤v/\v<n:=by
 unfold F7 F7.J1
 refine tD (λ_=>tR (by omega)) λh=>tC (by omega) (tD (λh1=>tR λh2=> ?_) λh1=>tR λh2=> ?_)
 . have:=Int.lt_tmod_of_pos i (show 0<n by omega)
   rw[DR (by omega) (by omega)];omega
 . have:=Int.tmod_lt_of_pos i (show 0<n by omega)
   omega
def kindL:List Int:=[3,3,4,4,5,6,7,8,9,10,11,12,13,14,15,16,18,19,20,21,22,23,2]
def KO (o k:Int):Prop:=((k=3->o=6∨o=7)/\(k=4->o=8∨o=9)/\(k=5->o=10)/\(k=22->o=26)/\(k=23->o=27)/\(k=2↔o=28)/\(k=16->o=21)/\k≠1/\k≠17)/\(o=7->k=3)/\(o=9->k=4)/\(o=10->k=5)/\(o=8->k=4)/\(o=26->k=22)
instance (o k:Int):Decidable (KO o k):=by unfold KO;infer_instance
theorem bR:∀n:Fin 23,KO ((n.1:Int)+6) kindL[n.1]:=by decide
theorem xY {o:Int} (h:1≤o/\o≤28):D6 (HQ o) λk=>k=0∨KO o k:=by
 unfold HQ HQ.J1
 refine tD (λ_=>tI (λ_=>tR (.inl rfl)) λh=>by cases h) λh6=>tD (λh=>by omega) λ_=> ?_
 rw[DR (by omega) (by omega)]
 obtain⟨n,hn⟩:∃n:Nat,o-6=n:=⟨(o-6).toNat,by omega⟩
 rw[hn]
 have hl:n<23:=by omega
 refine jM (l:=kindL) hl (tR (.inr ?_))
 have:=bR ⟨n,hl⟩
 simp only at this
 rw[show(n:Int)+6=o from by omega]at this
 exact this
theorem iD {i:Ab} {t:AL} (h7:i.Op=7∨i.Op=9->0≤i.C/\i.C<t.Br.length):
 D6 (En i t) λo=>(i.Op=7->∃v,o=Ap (i.B+v)/\(1≤i.N/\i.N≤4->0≤v/\v<i.N))/\(i.Op=9->∃v,o=Ap (i.A+v)/\(1≤i.N/\i.N≤4->0≤v/\v<i.N)):=by
 have T:∀{o:ABp Int},TT o->i.Op≠7->i.Op≠9->D6 o λo=>(i.Op=7->∃v,o=Ap (i.B+v)/\(1≤i.N/\i.N≤4->0≤v/\v<i.N))/\(i.Op=9->∃v,o=Ap (i.A+v)/\(1≤i.N/\i.N≤4->0≤v/\v<i.N)):=λh a b=>tM h λ_ _=>⟨λh=>absurd h a,λh=>absurd h b⟩
 have j1:∀b,(b=true->i.Op≠7/\i.Op≠9)->D6 (En.J1 i t b) λo=>(i.Op=7->∃v,o=Ap (i.B+v)/\(1≤i.N/\i.N≤4->0≤v/\v<i.N))/\(i.Op=9->∃v,o=Ap (i.A+v)/\(1≤i.N/\i.N≤4->0≤v/\v<i.N)):=by
  intro b hb;unfold En.J1 En.J2
  refine tI (λh=>T (tR trivial) (hb h).1 (hb h).2) λ_=>tI (λh=>tG (h7 (.inl (eq_of_beq h))) λ_ _=>tB (X8 _ _) λv hv=>tR ⟨λ_=>⟨v,rfl,hv⟩,λh9=> ?_⟩) λn7=>tI (λh=>tG (h7 (.inr (eq_of_beq h))) λ_ _=>tB (X8 _ _) λv hv=>tR ⟨λh9=> ?_,λ_=>⟨v,rfl,hv⟩⟩) λn9=>T ?_ (by simpa using n7) (by simpa using n9)
  . rw[eq_of_beq h]at h9;cases h9
  . rw[eq_of_beq h]at h9;cases h9
  . repeat' first|exact tR trivial|refine tI (λ_=> ?_) λ_=> ?_
 unfold En
 refine tI (λh=>j1 _ λ_=> ?_) λ_=>j1 _ λh=> ?_<;>rw[eq_of_beq h]<;>decide
def mD (e:AH):Prop:=e.D9.length≤100000/\e.Db.length≤100000
structure PI (w:AD) (x:AL) (y:An) (z:Ab) (q:AE) (e:AH):Prop where
 a:e.Kind=3∨e.Kind=23∨e.Kind=5->0≤z.A/\z.A<y.Br
 b:e.Kind=4∨e.Kind=22->0≤z.B/\z.B<y.Br
 d:e.D9=[]∨e.D9∈x.Bn/\(e.Kind=5∨(e.Kind=3∨e.Kind=4)/\(ix w.Cells e.Obj).B0≠0)
 r:e.Db=[]∨e.Db∈x.Bn/\(e.Kind=4∨e.Kind=22)
 s:e.Kind=1/\e.Site= -1∨(q.Status=4/\e.Kind=17∨q.Status=2/\(e.Kind=2↔z.Op=28)/\e.Kind≠1/\e.Kind≠17/\(e.Kind=16->z.Op=21))/\e.Site=z.Site
 j:e.Kind=5->z.Op=10
structure PE (c:BF) (s:Ad) (th:Int) (e:AH):Prop where
 f:FT c s
 t:0≤th/\th<c.AA.length
 l:mD e
 h:e.Thread=th
 i:∀x y z q,s.AA[th.toNat]? =some x->c.AA[th.toNat]? =some y->y.A1[x.PC.toNat]? =some z->s.Sync.AA[th.toNat]? =some q->PI c.World x y z q e
theorem kN {α:Type} [Inhabited α] {l:List α} {i:Int} {x:α} (h:gt l i=some x):ix l i=x:=by
 unfold gt at h
 split at h
 . unfold ix;rw[h];rfl
 . cases h
theorem To {E:Nat} {c:BF} (hc:CK c) {s:Ad} (hs:∀t∈s.AA,TH E t) (hE:E≤100000) (th:Int):D6 (CD c s th) λr=>r.2=true->PE c s th r.1:=by
 have N:∀{x} {P:AH×Bool->Prop},D6 (some (x,false)) λr:AH×Bool=>r.2=true->P r:=tR λh=>by cases h
 have j1:∀b,(b=false->FT c s/\0≤th/\th<c.AA.length)->D6 (CD.J1 c s th b) λr=>r.2=true->PE c s th r.1:=by
  intro b hb;unfold CD.J1
  refine tI (λ_=>N) λh0=> ?_
  obtain⟨hf,ht⟩:=hb h0
  obtain⟨_,_,l3⟩:=FA hf.f
  have hn:=hf.n;have hn2:=hf.v.n
  obtain⟨x,x1,x2,x3⟩:=Fm (l:=s.AA) (i:=th) (by omega)
  obtain⟨y,y1,y2,y3⟩:=Fm (l:=c.AA) (i:=th) (by omega)
  obtain⟨p1,p2,p3⟩:=hf.t _ x y x2 y2
  obtain⟨z,z1,z2,z3⟩:=Fm (l:=y.A1) (i:=x.PC) (by omega)
  obtain⟨q,q1,q2,q3⟩:=Fm (l:=s.Sync.AA) (i:=th) (by omega)
  have hz:=(hf.v.t _ y y2).i z z3
  have ho:=hz.o;have hg:=hz.g
  have hx:=hs x x3
  have hTl:∀q∈x.Bn,q.length≤100000:=λq hq=>by have:=(hx.b q hq).len hx.e.1;have:=hx.e.2;omega
  refine tE x1 (tE y1 (tE z1 (tE q1 ?_)))
  have fin:∀e:AH,mD e->e.Thread=th->PI c.World x y z q e->PE c s th e:=by
   intro e h1 h2 h3
   refine⟨hf,ht,h1,h2,λx' y' z' q' KY hy' hz' hq'=> ?_⟩
   rw[x2]at KY;rw[y2]at hy';rw[q2]at hq'
   obtain rfl:=AAR KY
   obtain rfl:=AAR hy'
   obtain rfl:=AAR hq'
   rw[z2]at hz'
   obtain rfl:=AAR hz'
   exact h3
  refine tI (λ_=>tR λ_=>fin _ ⟨by simp,by simp⟩ rfl ⟨by simp,by simp,.inl rfl,.inl rfl,.inl ⟨rfl,rfl⟩,by simp⟩) λ_=>tI (λh=>tR λ_=>fin _ ⟨by simp,by simp⟩ rfl ⟨by simp,by simp,.inl rfl,.inl rfl,.inr ⟨.inl ⟨eq_of_beq h,rfl⟩,rfl⟩,by simp⟩) λ_=>tI (λBs=> ?_) λ_=>N
  have Bs:=eq_of_beq Bs
  refine tB (xY ho) λk hk=> ?_
  have hC:z.Op=7∨z.Op=9->0≤z.C/\z.C<y.Br:=by
   rintro(h|h)
   . simp[rg7 h]at hg;omega
   . simp[rg9 h]at hg;omega
  have hB:z.Op=8∨z.Op=9∨z.Op=26->0≤z.B/\z.B<y.Br:=by
   rintro(h|h|h)
   . simp[rg8 h]at hg;omega
   . simp[rg9 h]at hg;omega
   . simp[rg26 h]at hg;omega
  have hA:z.Op=6∨z.Op=7∨z.Op=10∨z.Op=27->0≤z.A/\z.A<y.Br:=by
   rintro(h|h|h|h)
   . simp[rg6 h]at hg;omega
   . simp[rg7 h]at hg;omega
   . simp[rg10 h]at hg;omega
   . simp[rg27 h]at hg;omega
  refine tB (iD λh=>by have:=hC h;omega) λo hobj=>tI (λ_=>N) λaZ=> ?_
  have hk:=hk.resolve_left (by simpa using aZ)
  obtain⟨⟨a1,a2,a3,a4,a5,a6,a7,a8,a9⟩,b1,b2,b3,b4,b5⟩:=hk
  have hel:z.Op=7∨z.Op=9->(k=3∨k=4)/\(ix c.World.Cells o).B0≠0:=by
   have key:∀b v,QT c.World b z.N->o=Ap (b+v)->(1≤z.N/\z.N≤4->0≤v/\v<z.N)->(ix c.World.Cells o).B0≠0:=by
    intro b v h1 h2 h3
    obtain⟨n1,n2⟩:=mP hf.v.w h1
    obtain⟨d,d1,d2⟩:=n2 v (h3 n1).1 (h3 n1).2
    have hd:=d1
    unfold gt at hd
    split at hd
    . have:=(AAQ.1 hd).1
      have:=(EC hf.v.w).c
      rw[h2,DR (by omega) (by omega),kN d1];exact d2
    . cases hd
   rintro(h|h)
   . obtain⟨v,v1,v2⟩:=hobj.1 h
     exact⟨.inl (b1 h),key _ v (hz.a.1 h) v1 v2⟩
   . obtain⟨v,v1,v2⟩:=hobj.2 h
     exact⟨.inr (b2 h),key _ v (hz.a.2 h) v1 v2⟩
  have mk:∀D F,(D=[]∨D∈x.Bn/\(k=5∨(k=3∨k=4)/\(ix c.World.Cells o).B0≠0))->(F=[]∨F∈x.Bn/\(k=4∨k=22))->D.length≤100000->F.length≤100000->PE c s th ⟨th,k,o,0,z.Site,D,F⟩:=
   λD F h1 h2 h3 h4=>fin _ ⟨h3,h4⟩ rfl ⟨λh=>hA (by simp only at h;omega),λh=>hB (by simp only at h;omega),h1,h2,.inr ⟨.inr ⟨Bs,a6,a8,a9,a7⟩,rfl⟩,a3⟩
  have j3:∀D,(D=[]∨D∈x.Bn/\(k=5∨(k=3∨k=4)/\(ix c.World.Cells o).B0≠0))->D.length≤100000->D6 (CD.J3 x z ⟨th,k,o,0,z.Site,D,[]⟩) λr=>r.2=true->PE c s th r.1:=by
   intro D h1 h2
   have j4:∀b,(b=true->z.Op=8∨z.Op=9∨z.Op=26)->D6 (CD.J4 ⟨th,k,o,0,z.Site,D,[]⟩ x z b) λr=>r.2=true->PE c s th r.1:=by
    intro b hb;unfold CD.J4 CD.J5
    refine tI (λh=>tG (by have:=hB (hb h);omega) λq hq=> ?_) λ_=>tR λ_=>mk _ _ h1 (.inl rfl) h2 (by simp)
    have hl:=hTl q hq
    refine tC (DK (by simp;omega)) (tR λ_=>mk _ _ h1 (.inr ⟨by simpa using hq,?_⟩) h2 (by simpa using hl))
    have:=hb h;omega
   unfold CD.J3
   exact tI (λh=>j4 _ λ_=>.inl (eq_of_beq h)) λ_=>tI (λh=>j4 _ λ_=>.inr (.inl (eq_of_beq h))) λ_=>j4 _ λh=>.inr (.inr (eq_of_beq h))
  have j2:∀b,(b=true->z.Op=7∨z.Op=9)->D6 (CD.J2 th k o x z b) λr=>r.2=true->PE c s th r.1:=by
   intro b h;unfold CD.J2
   refine tI (λhb=>tG (by have:=hC (h hb);omega) λq hq=> ?_) λ_=>j3 _ (.inl rfl) (by simp)
   have hl:=hTl q hq
   exact tC (DK (by omega)) (j3 _ (.inr ⟨hq,.inr (hel (h hb))⟩) hl)
  refine tI (λh=>tG (by have:=hA (.inr (.inr (.inl (eq_of_beq h))));omega) λq hq=> ?_) λ_=>tI (λh=>j2 _ λ_=>.inl (eq_of_beq h)) λ_=>j2 _ λh=>.inr (eq_of_beq h)
  have hl:=hTl q hq
  exact tC (DK (by omega)) (j3 _ (.inr ⟨hq,.inl (b3 (eq_of_beq h))⟩) hl)
 unfold CD
 refine tB (vJ hc s) λv hv=>tI (λ_=>j1 _ λh=>by cases h) λh=>tD (λ_=>j1 _ λh=>by cases h) λh1=>j1 _ λh2=>⟨hv (by simpa using h),by omega,?_⟩
 have:=of_decide_eq_false h2
 omega
def SI (N:Nat) (s:Ad):Prop:=RB N s.Sync/\∀t∈s.AA,TH N t
theorem TH.mono {E F:Nat} {t:AL} (h:TH E t) (hf:E≤F):TH F t:=⟨h.r,h.t,h.b,h.e.1,by have:=h.e.2;omega⟩
theorem Z0 {E:Nat} {s:Ad} (h:∀t∈s.AA,TH E t) (hE:E≤100000) (hf:Tn s.Sync) (hc:s.Cells.length≤1000) (hu:s.AK.length≤1000) (ht:s.AA.length≤1000):E5 s=some s:=by
 have key:D6 (E5 s) λr=>r=s:=by
  unfold E5
  refine tE (jQ _ hf) (tC (DK (by omega)) (tC (DK (by omega)) (XN s.AA.length (λi o=>o=⟨s.Sync,s.Cells,s.AK,s.AA.take i⟩) (F:=λn o i=>E5.Aa s n o i) (by omega) rfl λn i o hi ho k=> ?_)))
  subst ho
  unfold E5.Aa E5.L1 E5.J1
  refine tD (λ_=>jM (by omega) ?_) λ_=>tR (by rw[AA3 (by omega)])
  exact tE (Zz (h _ (AAi (by omega))) hE) (tC (DK (by simp;omega)) (k _ (by omega) (by rw[AAk])))
 obtain⟨r,h1,rfl⟩:=key
 exact h1
structure SR (c:BF) (s:Ad) (ch:BK) (s':Ad) (e:AH):Prop where
 p:PE c s ch.Thread e
 en:DC c.World s.Sync ch.Thread e.Kind e.Obj=true
 sy:s'.Sync=(EN c.World s.Sync ch.Thread e.Kind e.Obj ch.S8).1
 va:(e.Kind=3->gt s.Cells e.Obj=some e.Value)/\(e.Kind=23->gt s.AK e.Obj=some e.Value)/\(e.Kind=5->e.Value=0∨e.Value=1)/\(e.Kind≠3->e.Kind≠23->e.Kind≠5->e.Kind≠4->e.Kind≠22->e.Value=(EN c.World s.Sync ch.Thread e.Kind e.Obj ch.S8).2)
 ce:s'.Cells=if e.Kind=4 then s.Cells.set e.Obj.toNat e.Value else s.Cells
 fu:s'.AK=if e.Kind=22 then s.AK.set e.Obj.toNat e.Value else s.AK
 th:∃x x',s.AA[ch.Thread.toNat]? =some x/\s'.AA=s.AA.set ch.Thread.toNat x'/\(e.Kind=16->x'.PC=x.PC)/\(x'=PN∨x'.AF=x.AF+1/\∀l∈x'.Bn,∀k∈l,(∃m∈x.Bn,k∈m)∨k=x.AF/\(e.Kind=3∨e.Kind=23))
theorem dC {E:Nat} {c:BF} (hc:CK c) {s:Ad} (hs:SI E s) (hE:E≤10000) (ch:BK):D6 (BE c s ch) λr=>r.2.2=true->(SI (E+1) r.1/\mD r.2.1)/\SR c s ch r.1 r.2.1:=by
 obtain⟨hr,hs⟩:=hs
 have N:∀{x y} {P:Ad×AH×Bool->Prop},D6 (some (x,y,false)) λr:Ad×AH×Bool=>r.2.2=true->P r:=tR λh=>by cases h
 unfold BE
 refine tB (To hc hs (by omega) ch.Thread) λv hv=>tI (λ_=>N) λh=> ?_
 have hv:=hv (by simpa using h)
 obtain⟨hf,ht,hl,hh,hi⟩:=hv
 have hw:=EC hf.v.w
 have w1:=hw.c;have w2:=hw.f;have w3:=hw.t;have c1:=hf.c';have c2:=hf.u;have c3:=hf.n;have c4:=hf.v.n
 refine tE (Sd _ hw _ (hr.mono (by omega)) _ _ _ _) (tI (λ_=>N) λh2=> ?_)
 have XI:DC c.World s.Sync ch.Thread v.1.Kind v.1.Obj=true:=by
  cases he:DC c.World s.Sync ch.Thread v.1.Kind v.1.Obj with
  |true=>rfl
  |false=>simp[Nt,he]at h2
 have ha:CF c.World v.1.Kind v.1.Obj=true:=by
  have XI:=XI
  unfold DC at XI
  simp only[AAP]at XI
  exact XI.2.2.1
 have hap:Nt c.World s.Sync ch.Thread v.1.Kind v.1.Obj ch.S8=((EN c.World s.Sync ch.Thread v.1.Kind v.1.Obj ch.S8).1,(EN c.World s.Sync ch.Thread v.1.Kind v.1.Obj ch.S8).2,true):=by simp[Nt,XI]
 rw[hap]
 have hR:=hr.apply c.World ch.Thread v.1.Kind v.1.Obj ch.S8
 refine tE (Z0 hs (by omega) (Tn.of hw hf.f (hr.mono (by omega))) (by omega) (by omega) (by omega)) ?_
 obtain⟨x,x1,x2,x3⟩:=Fm (l:=s.AA) (i:=ch.Thread) (by omega)
 obtain⟨y,y1,y2,y3⟩:=Fm (l:=c.AA) (i:=ch.Thread) (by omega)
 obtain⟨p1,p2,p3⟩:=hf.t _ x y x2 y2
 obtain⟨z,z1,z2,z3⟩:=Fm (l:=y.A1) (i:=x.PC) (by omega)
 obtain⟨q,q1,q2,q3⟩:=Fm (l:=s.Sync.AA) (i:=ch.Thread) (by have:=(FA hf.f).2.2;omega)
 have iA:=(hi x y z q x2 y2 z2 q2).a;have iB:=(hi x y z q x2 y2 z2 q2).b
 have hx:=hs x x3
 refine tE x1 (tE y1 (tE z1 ?_))
 have hpe:∀val,PE c s ch.Thread ⟨v.1.Thread,v.1.Kind,v.1.Obj,val,v.1.Site,v.1.D9,v.1.Db⟩:=λval=>⟨hf,ht,hl,hh,λx y z q a b c d=>by
  have h:=hi x y z q a b c d
  exact⟨h.a,h.b,h.d,h.r,h.s,h.j⟩⟩
 generalize hapv:EN c.World s.Sync ch.Thread v.1.Kind v.1.Obj ch.S8=ap at hR ⊢
 let VAC:Int->List Int->List Int->Prop:=λval C F=>((v.1.Kind=3->gt s.Cells v.1.Obj=some val)/\(v.1.Kind=23->gt s.AK v.1.Obj=some val)/\(v.1.Kind=5->val=0∨val=1)/\(v.1.Kind≠3->v.1.Kind≠23->v.1.Kind≠5->v.1.Kind≠4->v.1.Kind≠22->val=ap.2))/\C=(if v.1.Kind=4 then s.Cells.set v.1.Obj.toNat val else s.Cells)/\F=(if v.1.Kind=22 then s.AK.set v.1.Obj.toNat val else s.AK)
 let TX:AL->Prop:=λt=>t=PN∨t.AF=x.AF+1/\∀l∈t.Bn,∀k∈l,(∃m∈x.Bn,k∈m)∨k=x.AF/\(v.1.Kind=3∨v.1.Kind=23)
 have j6:∀val C F t,VAC val C F->TX t->(v.1.Kind=16->t.PC=x.PC)->TH (E+1) t->D6 (BE.J6 ch ⟨v.1.Thread,v.1.Kind,v.1.Obj,val,v.1.Site,v.1.D9,v.1.Db⟩ C F (ap.1,ap.2,true) s t) λr=>r.2.2=true->(SI (E+1) r.1/\mD r.2.1)/\SR c s ch r.1 r.2.1:=by
  intro val C F t h1 h2 h3 h4;unfold BE.J6
  refine tE x1 (tR λ_=>⟨⟨⟨hR,?_⟩,hl⟩,hpe val,XI,by rw[hapv],?_,h1.2.1,h1.2.2,x,t,x2,rfl,h3,h2⟩)
  . intro q hq
    rcases AAv hq with hq|rfl
    . exact(hs q hq).mono (by omega)
    . exact h4
  . rw[hapv];exact h1.1
 have e1:Ap (x.AF+1)=x.AF+1:=by have:=hx.e;exact DR (by omega) (by omega)
 have j5:∀val n C F t b,VAC val C F->(v.1.Kind=16->n=x.PC/\b=false)->t.AF=x.AF->(∀l∈t.Bn,∀k∈l,(∃m∈x.Bn,k∈m)∨k=x.AF/\(v.1.Kind=3∨v.1.Kind=23))->TH (E+1) ⟨0,t.Br,t.Bn,Ap (t.AF+1)⟩->
  D6 (BE.J5 c ch ⟨v.1.Thread,v.1.Kind,v.1.Obj,val,v.1.Site,v.1.D9,v.1.Db⟩ n C F t (ap.1,ap.2,true) s b) λr=>r.2.2=true->(SI (E+1) r.1/\mD r.2.1)/\SR c s ch r.1 r.2.1:=by
  intro val n C F t b h1 hn he hP h2;unfold BE.J5
  have h3:∀n,TH (E+1) ⟨n,t.Br,t.Bn,Ap (t.AF+1)⟩:=λn=>⟨h2.r,h2.t,h2.b,h2.e⟩
  refine tI (λhb=>tE y1 (tB (eM (h3 n) hP (by omega) (hc.i y y3)) λu hu=>j6 _ _ _ _ h1 ?_ (λh=>by rw[(hn h).2]at hb;cases hb) hu.1)) λ_=>j6 _ _ _ _ h1 (.inr ⟨by rw[he,e1],hP⟩) (λh=>(hn h).1) (h3 n)
  exact hu.2.imp id λh=>⟨by rw[h.1,he,e1],h.2⟩
 have j3:∀val n C F b,VAC val C F->(v.1.Kind=16->n=x.PC)->(b=true->(v.1.Kind=3∨v.1.Kind=23))->D6 (BE.J3 c ch ⟨v.1.Thread,v.1.Kind,v.1.Obj,val,v.1.Site,v.1.D9,v.1.Db⟩ n C F (ap.1,ap.2,true) s x z b) λr=>r.2.2=true->(SI (E+1) r.1/\mD r.2.1)/\SR c s ch r.1 r.2.1:=by
  intro val n C F b h1 hn h2;unfold BE.J3 BE.J4
  have he:=hx.e
  have k16:∀{t},(∀l∈t.Bn,∀k∈l,(∃m∈x.Bn,k∈m)∨k=x.AF/\(v.1.Kind=3∨v.1.Kind=23))->t.AF=x.AF->TH (E+1) ⟨0,t.Br,t.Bn,Ap (t.AF+1)⟩->D6 (if(v.1.Kind != 16)=true then BE.J5 c ch ⟨v.1.Thread,v.1.Kind,v.1.Obj,val,v.1.Site,v.1.D9,v.1.Db⟩ n C F t (ap.1,ap.2,true) s (v.1.Kind != 2)else BE.J5 c ch ⟨v.1.Thread,v.1.Kind,v.1.Obj,val,v.1.Site,v.1.D9,v.1.Db⟩ n C F t (ap.1,ap.2,true) s false) λr=>r.2.2=true->(SI (E+1) r.1/\mD r.2.1)/\SR c s ch r.1 r.2.1:=λhP he hT=>
   tI (λh=>j5 _ _ _ _ _ _ h1 (λh'=>by rw[h']at h;cases h) he hP hT) λ_=>j5 _ _ _ _ _ _ h1 (λh=>⟨hn h,rfl⟩) he hP hT
  refine tI (λhb=> ?_) λ_=> ?_
  . have h2:=h2 hb
    have hA:=iA (by omega)
    refine tG (by omega) λ_ _=>tG (by omega) λ_ _=>k16 ?_ rfl ?_
    . intro l hl k hk
      rcases AAv hl with hl|rfl
      . exact .inl ⟨l,hl,hk⟩
      . exact .inr ⟨AA4.1 hk,h2⟩
    . simp only[e1]
      refine⟨by simpa using hx.r,by simpa using hx.t,?_,by simp only;omega⟩
      intro q hq
      rcases AAv hq with hq|rfl
      . exact(hx.b q hq).mono (by simp only;omega)
      . exact⟨by simp,by simp;omega⟩
  . refine k16 (λl hl k hk=>.inl ⟨l,hl,hk⟩) rfl ?_
    simp only[e1]
    exact⟨hx.r,hx.t,λq hq=>(hx.b q hq).mono (by simp only;omega),by simp only;omega⟩
 have j2:∀C F val n,VAC val C F->(v.1.Kind=16->n=x.PC)->D6 (BE.J2 c ch (ap.1,ap.2,true) s x z C F ⟨v.1.Thread,v.1.Kind,v.1.Obj,val,v.1.Site,v.1.D9,v.1.Db⟩ n) λr=>r.2.2=true->(SI (E+1) r.1/\mD r.2.1)/\SR c s ch r.1 r.2.1:=by
  intro C F val n h1 hn;unfold BE.J2
  exact tI (λh=>j3 _ _ _ _ _ h1 hn λ_=>.inl (eq_of_beq h)) λ_=>j3 _ _ _ _ _ h1 hn λh=>.inr (eq_of_beq h)
 have j1:∀b,(b=true->v.1.Kind=1∨v.1.Kind=16∨v.1.Kind=2)->(b=false->v.1.Kind≠16)->D6 (BE.J1 c ch v (ap.1,ap.2,true) s x z b) λr=>r.2.2=true->(SI (E+1) r.1/\mD r.2.1)/\SR c s ch r.1 r.2.1:=by
  intro b hb hb2;unfold BE.J1
  refine tI (λh=>j2 _ _ _ _ ⟨⟨by have:=hb h;omega,by have:=hb h;omega,by have:=hb h;omega,λ_ _ _ _ _=>rfl⟩,by rw[AAX (by have:=hb h;omega)],by rw[AAX (by have:=hb h;omega)]⟩ λ_=>rfl) λh0=>tI (λh=> ?_) λn3=>tI (λh=> ?_) λn23=>tI (λh=> ?_) λn4=>tI (λh=> ?_) λn22=>tI (λh=> ?_) λn5=> ?_
  . have h:=eq_of_beq h
    have:=B9.1 (show Ee v.1.Obj c.World.Cells.length=true by simpa[CF,h]using ha)
    obtain⟨d,d1,_⟩:=Fm (l:=s.Cells) (i:=v.1.Obj) (by omega)
    exact tE d1 (j2 _ _ _ _ ⟨⟨λ_=>d1,by omega,by omega,by omega⟩,by rw[AAX (by omega)],by rw[AAX (by omega)]⟩ (by omega))
  . have h:=eq_of_beq h
    have:=B9.1 (show Ee v.1.Obj c.World.AK.length=true by simpa[CF,h]using ha)
    obtain⟨d,d1,_⟩:=Fm (l:=s.AK) (i:=v.1.Obj) (by omega)
    exact tE d1 (j2 _ _ _ _ ⟨⟨by omega,λ_=>d1,by omega,by omega⟩,by rw[AAX (by omega)],by rw[AAX (by omega)]⟩ (by omega))
  . have h:=eq_of_beq h
    have:=B9.1 (show Ee v.1.Obj c.World.Cells.length=true by simpa[CF,h]using ha)
    have hb:=iB (.inl h)
    exact tG (by omega) λ_ _=>tG (by omega) λ_ _=>j2 _ _ _ _ ⟨⟨by omega,by omega,by omega,by omega⟩,by rw[AAY h],by rw[AAX (by omega)]⟩ (by omega)
  . have h:=eq_of_beq h
    have:=B9.1 (show Ee v.1.Obj c.World.AK.length=true by simpa[CF,h]using ha)
    have hb:=iB (.inr h)
    exact tG (by omega) λ_ _=>tG (by omega) λ_ _=>j2 _ _ _ _ ⟨⟨by omega,by omega,by omega,by omega⟩,by rw[AAX (by omega)],by rw[AAY h]⟩ (by omega)
  . have h:=eq_of_beq h
    have hb:=iA (.inr (.inr h))
    exact tG (by omega) λ_ _=>tI (λ_=>j2 _ _ _ _ ⟨⟨by omega,by omega,λ_=>.inl rfl,by omega⟩,by rw[AAX (by omega)],by rw[AAX (by omega)]⟩ (by omega)) λ_=>j2 _ _ _ _ ⟨⟨by omega,by omega,λ_=>.inr rfl,by omega⟩,by rw[AAX (by omega)],by rw[AAX (by omega)]⟩ (by omega)
  . simp only[beq_eq_false_iff_ne,ne_eq]at n3 n23 n4 n22 n5
    exact j2 _ _ _ _ ⟨⟨λh=>absurd h n3,λh=>absurd h n23,λh=>absurd h n5,λ_ _ _ _ _=>rfl⟩,by rw[AAX n4],by rw[AAX n22]⟩ λh=>absurd h (hb2 h0)
 exact tI (λh=>j1 _ (λ_=>.inl (eq_of_beq h)) λh'=>by rw[h']at h;cases h) λ_=>tI (λh=>j1 _ (λ_=>.inr (.inl (eq_of_beq h))) λh'=>by rw[h']at h;cases h) λn16=>j1 _ (λh=>.inr (.inr (eq_of_beq h))) λ_=>by simpa using n16
structure TM (n:Nat) (t:Az):Prop where
 n:t.AF.length≤n
 e:∀e∈t.AF,mD e
 w:t.AF≠[]->Ck t.World=true
theorem mD.ok {e:AH} (h:mD e):S7 e:=⟨by have:=h.1;omega,by have:=h.2;omega⟩
theorem getT {s:AN} {i:Int} {f:AE->AE} {u:Nat} {q:AE} (hi:0≤i/\i<s.AA.length) (h:(LB s i f).AA[u]? =some q):(u:Int)=i/\q=f (ix s.AA i)∨(u:Int)≠i/\s.AA[u]? =some q:=by
 unfold LB at h
 by_cases e:(u:Int)=i
 . have e':i.toNat=u:=by omega
   rw[e',AAS (by omega)]at h
   exact .inl ⟨e,(AAR h).symm⟩
 . rw[AAV (by omega)]at h
   exact .inr ⟨e,h⟩
theorem lH {α:Type} [Inhabited α] {l:List α} {u:Nat} {i:Int} {x:α} (h:l[u]? =some x) (hi:(u:Int)=i):ix l i=x:=by
 subst hi;unfold ix;simp[h]
theorem qD {wv:AD} {s:AN} {t k o:Int} (h:DC wv s t k o=true) (h1:k≠1) (h2:k≠17):(ix s.AA t).Status=2:=by
 unfold DC Kb at h
 simp only[AAP,AAX h1,AAX h2]at h
 exact eq_of_beq h.2.2.2.1
theorem Mt {wake:Int} {W:List Int} (h:W≠[]):EX wake W∈W:=by
 unfold EX
 rw[AAX h]
 split
 . rename_i h;simpa using h
 . cases W with
   |nil=>exact absurd rfl h
   |cons a r=>simp
theorem jG (o:Int) (T:List AE):∀(i:Nat) (u:Int),u∈Bz o i T->∃x,T[(u-i).toNat]? =some x/\x.Status=3:=by
 induction T with
 |nil=>intro i u h;cases h
 |cons x r ih=>
  intro i u h
  unfold Bz at h
  have key:u∈Bz o (i+1) r->∃y,(x::r)[(u-i).toNat]? =some y/\y.Status=3:=by
   intro h
   have hr:=(Ie o r (i+1) u h).1
   obtain⟨y,y1,y2⟩:=ih (i+1) u h
   refine⟨y,?_,y2⟩
   rw[show(u-(i:Int)).toNat=(u-((i+1:Nat):Int)).toNat+1 from by omega,ABA]
   exact y1
  split at h
  . rename_i hw
    rcases AAp.1 h with rfl|h
    . refine⟨x,by simp,?_⟩
      unfold Ia at hw
      simp only[AAP]at hw
      exact eq_of_beq hw.1
    . exact key h
  . exact key h
theorem jE {wv:AD} {s:AN} {t k o wake:Int} (h:DC wv s t k o=true) {u:Nat} {q':AE} (hq:(EN wv s t k o wake).1.AA[u]? =some q'):
 ((u:Int)=t->k=16∨q'.Status=2∨q'.Status=5)/\((u:Int)≠t->q'.Status=1∨∃q,s.AA[u]? =some q/\(q'=q∨q.Status=3/\q'.Status=4)):=by
 have h2:=λa b=>qD h (k:=k) a b
 have h':=h
 unfold DC at h'
 simp only[AAP]at h'
 obtain⟨hf,ht,ha,RF⟩:=h'
 obtain⟨_,_,l3⟩:=FA hf
 have ht:=B9.1 ht
 rw[← l3]at ht
 -- a thread's own place
 have own:∀(s2:AN) (f:AE->AE),s2.AA=s.AA->(LB s2 t f).AA[u]? =some q'->(k=16∨(f (ix s.AA t)).Status=2∨(f (ix s.AA t)).Status=5)->
  ((u:Int)=t->k=16∨q'.Status=2∨q'.Status=5)/\((u:Int)≠t->q'.Status=1∨∃q,s.AA[u]? =some q/\(q'=q∨q.Status=3/\q'.Status=4)):=by
  intro s2 f hs h1 h3
  rcases getT (by rw[hs];exact ht) h1 with⟨e,rfl⟩|⟨e,h4⟩
  . rw[hs];exact⟨λ_=>h3,λh=>absurd e h⟩
  . rw[hs]at h4;exact⟨λh=>absurd h e,λ_=>.inr ⟨q',h4,.inl rfl⟩⟩
 -- nobody's place
 have none_:∀(T:List AE),T=s.AA->T[u]? =some q'->(ix s.AA t).Status=2->((u:Int)=t->k=16∨q'.Status=2∨q'.Status=5)/\((u:Int)≠t->q'.Status=1∨∃q,s.AA[u]? =some q/\(q'=q∨q.Status=3/\q'.Status=4)):=by
  rintro _ rfl h1 h3
  exact⟨λe=>.inr (.inl (by rw[lH h1 e]at h3;exact h3)),λ_=>.inr ⟨q',h1,.inl rfl⟩⟩
 unfold EN at hq
 by_cases n1:k=1
 . rw[AAY n1]at hq;exact own s _ rfl hq (.inr (.inl rfl))
 rw[AAX n1]at hq
 by_cases n2:k=2
 . rw[AAY n2]at hq;exact own s _ rfl hq (.inr (.inr rfl))
 rw[AAX n2]at hq
 by_cases e:k=6∨k=10
 . rw[AAY e]at hq;exact none_ _ rfl hq (h2 n1 (by omega))
 rw[AAX e]at hq
 by_cases e:k=7∨k=11
 . rw[AAY e]at hq;exact none_ _ rfl hq (h2 n1 (by omega))
 rw[AAX e]at hq
 by_cases e:k=8
 . rw[AAY e]at hq;exact none_ _ rfl hq (h2 n1 (by omega))
 rw[AAX e]at hq
 by_cases e:k=9
 . rw[AAY e]at hq;exact none_ _ rfl hq (h2 n1 (by omega))
 rw[AAX e]at hq
 by_cases e:k=12
 . rw[AAY e]at hq;exact none_ _ rfl hq (h2 n1 (by omega))
 rw[AAX e]at hq
 by_cases e:k=13
 . rw[AAY e]at hq;exact none_ _ rfl hq (h2 n1 (by omega))
 rw[AAX e]at hq
 by_cases e:k=14
 . rw[AAY e]at hq;exact own s _ rfl hq (.inr (.inl (h2 n1 (by omega))))
 rw[AAX e]at hq
 by_cases e:k=15
 . rw[AAY e]at hq;exact own s _ rfl hq (.inr (.inl (h2 n1 (by omega))))
 rw[AAX e]at hq
 by_cases dN:k=16
 . rw[AAY dN]at hq;exact own (Kc s (ix wv.Af o).Mutex λx=>⟨-1,x.As⟩) _ rfl hq (.inl dN)
 rw[AAX dN]at hq
 by_cases n17:k=17
 . rw[AAY n17]at hq;exact own (Kc s (ix wv.Af o).Mutex λx=>⟨t,x.As⟩) _ rfl hq (.inr (.inl rfl))
 rw[AAX n17]at hq
 have s2:=h2 n1 n17
 by_cases e:k=18
 . rw[AAY e]at hq
   by_cases hW:Bz o 0 s.AA=[]
   . rw[AAY hW]at hq;exact none_ _ rfl hq s2
   . rw[AAX hW]at hq
     obtain⟨x,x1,x2⟩:=jG o s.AA 0 _ (Mt (wake:=wake) hW)
     have hm:=Ie o s.AA 0 _ (Mt (wake:=wake) hW)
     generalize EX wake (Bz o 0 s.AA)=d at hq x1 hm
     have x1:s.AA[d.toNat]? =some x:=by simpa using x1
     have hd:ix s.AA d=x:=lH x1 (by omega)
     rcases getT (by simp at hm;omega) hq with⟨e,rfl⟩|⟨e,h4⟩
     . refine⟨λh=> ?_,λ_=>.inr ⟨x,?_,.inr ⟨x2,rfl⟩⟩⟩
       . rw[← h,e,hd]at s2;omega
       . rw[show u=d.toNat from by omega];exact x1
     . exact none_ _ rfl h4 s2
 rw[AAX e]at hq
 by_cases e:k=19
 . rw[AAY e]at hq
   have hq:(s.AA.map (IM o))[u]? =some q':=hq
   rw[AAZ]at hq
   cases hx:s.AA[u]? with
   |none=>rw[hx]at hq;cases hq
   |some x=>
    rw[hx]at hq
    obtain rfl:=AAR hq
    unfold IM
    by_cases hw:Ia x o=true
    . have:x.Status=3:=by
       unfold Ia at hw
       simp only[AAP]at hw
       exact eq_of_beq hw.1
      rw[AAY hw]
      refine⟨λe=> ?_,λ_=>.inr ⟨x,rfl,.inr ⟨this,rfl⟩⟩⟩
      rw[lH hx e]at s2;omega
    . rw[AAX hw]
      exact⟨λe=>.inr (.inl (by rw[lH hx e]at s2;exact s2)),λ_=>.inr ⟨x,rfl,.inl rfl⟩⟩
 rw[AAX e]at hq
 by_cases aT:k=20
 . rw[AAY aT]at hq
   have ho:Ee o wv.AA.length=true:=by simpa[CF,aT]using ha
   have hot:o≠t:=by
    simp[Kb,aT]at RF
    exact RF.2.1
   have ho:=B9.1 ho
   rcases getT (by omega) hq with⟨e,rfl⟩|⟨e,h4⟩
   . exact⟨λh=>absurd (e.symm.trans h) hot,λ_=>.inl rfl⟩
   . exact none_ _ rfl h4 s2
 rw[AAX aT]at hq
 by_cases e:k=22
 . rw[AAY e]at hq;exact none_ _ rfl hq s2
 . rw[AAX e]at hq;exact none_ _ rfl hq s2
theorem VZ (wv:AD) (s:AN) (t k o wake:Int):(EN wv s t k o (if k=18 then(EN wv s t k o wake).2 else -1)).1=(EN wv s t k o wake).1:=by
 by_cases h:k=18
 . rw[AAY h,h]
   have key:∀w,(EN wv s t 18 o w)=(if Bz o 0 s.AA=[]then s else LB s (EX w (Bz o 0 s.AA)) Hv,EX w (Bz o 0 s.AA)):=λw=>by simp[EN]
   rw[key,key]
   by_cases hW:Bz o 0 s.AA=[]
   . simp[hW]
   . have:=Mt (wake:=wake) hW
     simp only[hW,AAe]
     rw[show EX (EX wake (Bz o 0 s.AA)) (Bz o 0 s.AA)=EX wake (Bz o 0 s.AA)from ?_]
     generalize EX wake (Bz o 0 s.AA)=d at this ⊢
     unfold EX
     rw[AAX hW,AAY (by simpa using this)]
 . rw[AAX h]
   unfold EN
   simp only[AAX h]
end Go.Abs
