/- What the typed programs give, in plain Lean. -/
import Derived.Test.YtdadohkcmclilaaGreatDoorWalkR
import Derived.Test.YtdadohkcmclilaaGreatDoorPlainA
import Derived.KernelRfl
import Derived.Shelf.Slices.SearchI
set_option linter.unusedSimpArgs false
set_option linter.unusedVariables false
namespace Go.Abs
set_option maxHeartbeats 4000000
theorem Lw {α:Type} [Inhabited α] {l:List α} {i j:Int} {a:α} (hi:Ee i l.length=true) (hj:Ee j l.length=true):ix (l.set i.toNat a) j=if j=i then a else ix l j:=by
 have hi:=B9.1 hi;have hj:=B9.1 hj
 unfold ix
 by_cases e:j=i
 . subst e;rw[AAY rfl,AAS (by omega)];rfl
 . rw[AAX e,AAV (by omega)]
theorem ix_map {α β:Type} [Inhabited α] [Inhabited β] {l:List α} {j:Int} {f:α->β} (hj:Ee j l.length=true):ix (l.map f) j=f (ix l j):=by
 have hj:=B9.1 hj
 have:j.toNat<l.length:=by omega
 unfold ix
 rw[AAZ,AAT this];rfl
structure TI (wv:AD) (B:Int->Prop) (L:List AW) (u:Int) (x:AE):Prop where
 s:0≤x.Status/\x.Status≤5
 b:B u↔2≤x.Status
 z:u=0->x.Status≠0
 c:x.Status=3∨x.Status=4->Ee x.D8 wv.Af.length=true/\(ix L (ix wv.Af x.D8).Mutex).CW≠u
 n:x.Status≠3->x.Status≠4->x.D8=0
 a:x.Atomic=true->2≤x.Status
structure LI (wv:AD) (B:Int->Prop) (i:Int) (x:AW):Prop where
 o:x.CW≠ -1->B x.CW
 w:x.As≠[]->(ix wv.AG i).RW=true/\x.CW= -1
 p:x.As.Pairwise (· < ·)
 r:∀y∈x.As,B y
structure YI (wv:AD) (B:Int->Prop) (s:AN):Prop where
 t:∀u,Ee u wv.AA.length=true->TI wv B s.AG u (ix s.AA u)
 l:∀i,Ee i wv.AG.length=true->LI wv B i (ix s.AG i)
 x:s.Tx≠ -1->B s.Tx
 b:∀u,B u->Ee u wv.AA.length=true
section
variable {wv:AD} {B:Int->Prop} {s:AN}
theorem YI.LB (h:YI wv B s) (hn:s.AA.length=wv.AA.length) {d:Int} {f:AE->AE} (hd:Ee d wv.AA.length=true) (hf:TI wv B s.AG d (f (ix s.AA d))):YI wv B (LB s d f):=by
 refine⟨λu hu=> ?_,h.l,h.x,h.b⟩
 show TI wv B s.AG u (ix (s.AA.set d.toNat (f (ix s.AA d))) u)
 rw[Lw (by rw[hn];exact hd) (by rw[hn];exact hu)]
 by_cases e:u=d
 . rw[AAY e,e];exact hf
 . rw[AAX e];exact h.t u hu
theorem YI.Kc (h:YI wv B s) (hc:∀o,Ee o wv.Af.length=true->Ee (ix wv.Af o).Mutex wv.AG.length=true) (hn:s.AG.length=wv.AG.length) {i:Int} {f:AW->AW} (hi:Ee i wv.AG.length=true) (hf:LI wv B i (f (ix s.AG i)))
 (ho:(f (ix s.AG i)).CW= -1∨(f (ix s.AG i)).CW=(ix s.AG i).CW∨Ee (f (ix s.AG i)).CW wv.AA.length=true/\(ix s.AA (f (ix s.AG i)).CW).Status=2):YI wv B (Kc s i f):=by
 refine⟨λu hu=> ?_,λj hj=> ?_,h.x,h.b⟩
 . have ht:=h.t u hu
   refine⟨ht.s,ht.b,ht.z,λh34=>⟨(ht.c h34).1,?_⟩,ht.n,ht.a⟩
   have h34:(ix s.AA u).Status=3∨(ix s.AA u).Status=4:=h34
   have hm:=hc _ (ht.c h34).1
   show(ix (s.AG.set i.toNat (f (ix s.AG i))) (ix wv.Af (ix s.AA u).D8).Mutex).CW≠u
   rw[Lw (by rw[hn];exact hi) (by rw[hn];exact hm)]
   by_cases e:(ix wv.Af (ix s.AA u).D8).Mutex=i
   . rw[AAY e]
     have hu:=B9.1 hu
     rcases ho with ho|ho|ho
     . omega
     . rw[ho,← e];exact(ht.c h34).2
     . intro e2
       rw[e2]at ho
       omega
   . rw[AAX e];exact(ht.c h34).2
 . show LI wv B j (ix (s.AG.set i.toNat (f (ix s.AG i))) j)
   rw[Lw (by rw[hn];exact hi) (by rw[hn];exact hj)]
   by_cases e:j=i
   . rw[AAY e,e];exact hf
   . rw[AAX e];exact h.l j hj
theorem YI.congr {B':Int->Prop} (h:YI wv B s) (hb:∀u,B' u↔B u):YI wv B' s:=by
 have:B'=B:=funext λu=>propext (hb u)
 rw[this];exact h
end
theorem Zc (l:List Int):(UE l).Pairwise (· < ·):=by
 exact NK l
theorem gA {wv:AD} {s:AN} (h:G8 wv s=true) (t k o wake:Int):G8 wv (EN wv s t k o wake).1=true:=by
  have hm:wv.Af.all (λc=>Ee c.Mutex wv.AG.length)=true:=by
    unfold G8 at h
    simp only[AAP]at h
    exact h.1
  have key:∀(p:Prop) [Decidable p] (a b:AN×Int),G8 wv a.1=true->G8 wv b.1=true->G8 wv (if p then a else b).1=true:=by
    intro p _ a b ha hb;split<;>assumption
  obtain⟨l1,l2,l3⟩:=FA h
  unfold EN
  repeat' refine key _ _ _ ?_ ?_
  all_goals first
    |exact h
    | (simp[G8,LB,Kc,hm,l1,l2,l3];done)
    | (by_cases hW:Bz o 0 s.AA=[]
       . simp only[hW,AAs];exact h
       . simp[hW,G8,LB,hm,l1,l2,l3])
theorem yK {wv:AD} {s:AN} (h:G8 wv s=true):∀o,Ee o wv.Af.length=true->Ee (ix wv.Af o).Mutex wv.AG.length=true:=λ_ ho=>HH h ho
theorem AAK {wv:AD} {s:AN} (hn:s.AA.length=wv.AA.length) {o u:Int} (h:u∈Bz o 0 s.AA):Ee u wv.AA.length=true/\(ix s.AA u).Status=3:=by
 have key:∀(T:List AE) (i:Nat) (u:Int),u∈Bz o i T->∃x,T[(u-i).toNat]? =some x/\x.Status=3:=by
  intro T
  induction T with
  |nil=>intro i u h;cases h
  |cons x r ih=>
   intro i u h
   unfold Bz at h
   have key:u∈Bz o (i+1) r->∃y,(x::r)[(u-i).toNat]? =some y/\y.Status=3:=by
    intro h
    have hr:=(Ie o r (i+1) u h).1
    obtain⟨y,y1,y2⟩:=ih (i+1) u h
    refine⟨y,?_,y2⟩
    rw[show(u-(i:Int)).toNat=(u-((i+1:Nat):Int)).toNat+1 from by omega,ABA]
    exact y1
   split at h
   . rename_i hw
     rcases AAp.1 h with rfl|h
     . refine⟨x,by simp,?_⟩
       unfold Ia at hw
       simp only[AAP]at hw
       exact eq_of_beq hw.1
     . exact key h
   . exact key h
 obtain⟨x,x1,x2⟩:=key _ _ _ h
 have hm:=Ie o s.AA 0 u h
 have x1:s.AA[u.toNat]? =some x:=by simpa using x1
 refine⟨B9.2 (by simp at hm;omega),?_⟩
 unfold ix;rw[x1];exact x2
theorem nN {wake:Int} {W:List Int} (h:W≠[]):EX wake W∈W:=by
 unfold EX
 rw[AAX h]
 split
 . rename_i h;simpa using h
 . cases W with
   |nil=>exact absurd rfl h
   |cons a r=>simp
theorem YI.apply {wv:AD} {B:Int->Prop} {s:AN} {t k o wake:Int} (hq:∀o,Ee o wv.Af.length=true->(ix wv.AG (ix wv.Af o).Mutex).RW=false) (h:YI wv B s) (he:DC wv s t k o=true):YI wv (λu=>B u∨u=t) (EN wv s t k o wake).1:=by
 unfold DC at he
 simp only[AAP]at he
 obtain⟨hf,ht,ha,hr⟩:=he
 obtain⟨l1,l2,l3⟩:=FA hf
 have hm:=yK hf
 have T:=h.t t ht
 unfold EN
 by_cases k1:k=1
 . rw[AAY k1]
   have hs:(ix s.AA t).Status=1:=by simpa[Kb,k1]using hr
   have up:∀{u},B u->B u∨u=t:=.inl
   refine⟨λu hu=> ?_,λi hi=> ?_,λhx=>up (h.x hx),λu hu=>hu.elim (h.b u) λe=>e▸ht⟩
   . show TI wv _ s.AG u (ix (s.AA.set t.toNat _) u)
     rw[Lw (by rw[l3];exact ht) (by rw[l3];exact hu)]
     have U:=h.t u hu
     by_cases e:u=t
     . rw[AAY e]
       exact⟨by simp,by simp[e],by simp,by simp,λ_ _=>T.n (by omega) (by omega),by simp⟩
     . rw[AAX e]
       exact⟨U.s,by simp[e,U.b],U.z,U.c,U.n,U.a⟩
   . have L:=h.l i hi
     exact⟨λh=>up (L.o h),L.w,L.p,λy hy=>up (L.r y hy)⟩
 rw[AAX k1]
 have h2:k≠17->(ix s.AA t).Status=2:=by
  intro gV
  unfold Kb at hr
  simp only[AAX k1,AAX gV,AAP]at hr
  exact eq_of_beq hr.1
 have h4:k=17->(ix s.AA t).Status=4/\(ix s.AA t).D8=o:=by
  intro gV
  unfold Kb at hr
  simp only[AAX k1,AAY gV,AAP]at hr
  exact⟨eq_of_beq hr.1,eq_of_beq hr.2.1⟩
 have hb:B t:=T.b.2 (by
  by_cases gV:k=17
  . have:=h4 gV;omega
  . have:=h2 gV;omega)
 refine YI.congr (B:=B) ?_ λu=>⟨λh=>h.elim id λe=>e▸hb,.inl⟩
 have own:∀{i},Ee i wv.AG.length=true->(ix s.AG i).As=[]->k≠17->YI wv B (Abs.Kc s i λx=>⟨t,x.As⟩):=λhi RF gV=>
  h.Kc hm l1 hi ⟨λ_=>hb,λh=>absurd RF h,(h.l _ hi).p,(h.l _ hi).r⟩ (.inr (.inr ⟨ht,h2 gV⟩))
 have off:∀{i},Ee i wv.AG.length=true->YI wv B (Abs.Kc s i λx=>⟨-1,x.As⟩):=λhi=>
  h.Kc hm l1 hi ⟨λh=>absurd rfl h,λh'=>⟨((h.l _ hi).w h').1,rfl⟩,(h.l _ hi).p,(h.l _ hi).r⟩ (.inl rfl)
 by_cases k2:k=2
 . rw[AAY k2]
   have h2:=h2 (by omega)
   dsimp only
   apply h.LB l3 ht
   exact⟨by simp,by simp[hb],by simp,by simp,λ_ _=>T.n (by omega) (by omega),by simp⟩
 rw[AAX k2]
 by_cases k6:k=6∨k=10
 . rw[AAY k6]
   have hi:Ee o wv.AG.length=true:=by
    rcases k6 with rfl|rfl<;>simp[CF]at ha<;>exact ha.1
   refine own hi ?_ (by omega)
   rcases k6 with rfl|rfl
   . have hw:(ix wv.AG o).RW=false:=by simp[CF]at ha;exact ha.2
     by_cases e:(ix s.AG o).As=[]
     . exact e
     . have:=(h.l o hi).w e;rw[hw]at this;simp at this
   . simp[Kb]at hr
     exact hr.2.2
 rw[AAX k6]
 by_cases k7:k=7∨k=11
 . rw[AAY k7]
   refine off ?_
   rcases k7 with rfl|rfl<;>simp[CF]at ha<;>exact ha.1
 rw[AAX k7]
 by_cases k8:k=8
 . rw[AAY k8]
   subst k8
   simp[CF]at ha
   simp[Kb]at hr
   have L:=h.l o ha.1
   dsimp only
   applyλx=>h.Kc hm l1 ha.1 x (.inr (.inl rfl))
   refine⟨L.o,λ_=>⟨ha.2,hr.2.1⟩,Zc _,?_⟩
   intro y hy
   have hy:y∈(ix s.AG o).As++[t]:=(Pb _ y).1 hy
   rcases AAj.1 hy with hy|hy
   . exact L.r y hy
   . rw[AA4.1 hy];exact hb
 rw[AAX k8]
 by_cases k9:k=9
 . rw[AAY k9]
   subst k9
   simp[CF]at ha
   have L:=h.l o ha.1
   dsimp only
   applyλx=>h.Kc hm l1 ha.1 x (.inr (.inl rfl))
   exact⟨L.o,λh'=>L.w λe=>h' (by simp[e]),L.p.sublist List.filter_sublist,λy hy=>L.r y (List.mem_filter.1 hy).1⟩
 rw[AAX k9]
 by_cases k12:k=12
 . rw[AAY k12];exact⟨h.t,h.l,λ_=>hb,h.b⟩
 rw[AAX k12]
 by_cases k13:k=13
 . rw[AAY k13];exact⟨h.t,h.l,λh=>absurd rfl h,h.b⟩
 rw[AAX k13]
 by_cases k14:k=14
 . rw[AAY k14]
   have h2:=h2 (by omega)
   dsimp only
   apply h.LB l3 ht
   exact⟨T.s,T.b,T.z,T.c,T.n,λ_=>by simp only;omega⟩
 rw[AAX k14]
 by_cases k15:k=15
 . rw[AAY k15]
   dsimp only
   apply h.LB l3 ht
   exact⟨T.s,T.b,T.z,T.c,T.n,λh=>by cases h⟩
 rw[AAX k15]
 by_cases k16:k=16
 . rw[AAY k16]
   have ho:Ee o wv.Af.length=true:=by simpa[CF,k16]using ha
   have hmu:=hm o ho
   dsimp only
   apply(off hmu).LB l3 ht
   refine⟨by simp,by simp[hb],by simp,λ_=>⟨ho,?_⟩,by simp,by simp⟩
   show(ix (s.AG.set _ _) _).CW≠t
   rw[Lw (by rw[l1];exact hmu) (by rw[l1];exact hmu),AAY rfl]
   have:=B9.1 ht
   simp only;omega
 rw[AAX k16]
 by_cases gV:k=17
 . rw[AAY gV]
   have ho:Ee o wv.Af.length=true:=by simpa[CF,gV]using ha
   have hmu:=hm o ho
   have hy:=h.LB l3 ht (f:=λx=>⟨2,0,x.Atomic⟩) ⟨by simp,by simp[hb],by simp,by simp,by simp,by simp⟩
   refine hy.Kc hm l1 (f:=λx=>⟨t,x.As⟩) hmu ⟨λ_=>hb,λh'=> ?_,(h.l _ hmu).p,(h.l _ hmu).r⟩ (.inr (.inr ⟨ht,?_⟩))
   . have hw:=((h.l _ hmu).w h').1
     rw[hq o ho]at hw;cases hw
   . show(ix (s.AA.set t.toNat _) t).Status=2
     rw[Lw (by rw[l3];exact ht) (by rw[l3];exact ht),AAY rfl]
 rw[AAX gV]
 by_cases UR:k=18
 . rw[AAY UR]
   by_cases hW:Bz o 0 s.AA=[]
   . simp only[hW,AAs];exact h
   . simp only[hW,AAe]
     obtain⟨d1,d2⟩:=AAK l3 (nN (wake:=wake) hW)
     have D:=h.t _ d1
     apply h.LB l3 d1
     exact⟨by simp[Hv],by simp[Hv];exact D.b.2 (by omega),by simp[Hv],λ_=>D.c (.inl d2),by simp[Hv],by simp[Hv]⟩
 rw[AAX UR]
 by_cases jK:k=19
 . rw[AAY jK]
   refine⟨λu hu=> ?_,h.l,h.x,h.b⟩
   show TI wv B s.AG u (ix (s.AA.map (IM o)) u)
   rw[ix_map (by rw[l3];exact hu)]
   have U:=h.t u hu
   unfold IM
   by_cases hw:Ia (ix s.AA u) o=true
   . have d2:(ix s.AA u).Status=3:=by
      unfold Ia at hw
      simp only[AAP]at hw
      exact eq_of_beq hw.1
     rw[AAY hw]
     exact⟨by simp[Hv],by simp[Hv];exact U.b.2 (by omega),by simp[Hv],λ_=>U.c (.inl d2),by simp[Hv],by simp[Hv]⟩
   . rw[AAX hw];exact U
 rw[AAX jK]
 by_cases k20:k=20
 . rw[AAY k20]
   have ho:Ee o wv.AA.length=true:=by simpa[CF,k20]using ha
   have O:=h.t o ho
   have hs:(ix s.AA o).Status=0:=by simp[Kb,k20]at hr;exact hr.2.2
   have nb:¬B o:=λh=>by have:=O.b.1 h;omega
   dsimp only
   apply h.LB l3 ho
   exact⟨by simp,by simp[nb],by simp,by simp,λ_ _=>O.n (by omega) (by omega),λh=>by have:=O.a h;omega⟩
 rw[AAX k20]
 by_cases Tk:k=22
 . rw[AAY Tk];exact⟨h.t,h.l,h.x,h.b⟩
 rw[AAX Tk];exact h
def begB (wv:AD) (c:List Int) (u:Int):Prop:=Ee u wv.AA.length=true/\1≤ix c u
structure WI (wv:AD) (pre:List AH) (s:AB):Prop where
 f:MJ wv s=true
 c:∀u,Ee u wv.AA.length=true->ix s.Count u=((OB pre u).length:Int)
 m:s.Count.sum=(pre.length:Int)
 y:YI wv (begB wv s.Count) s.Sync
 d:∀i,Ee i wv.AK.length=true->ix s.Sync.Bq i=false->ix s.AK i=0
theorem sum_set {l:List Int}:∀{i:Nat} {x:Int},i<l.length->(l.set i x).sum=l.sum+(x-l.getD i 0):=by
 induction l with
 |nil=>intro i x h;simp at h
 |cons a r ih=>
  intro i x h
  cases i with
  |zero=>simp;omega
  |succ i=>
   have:=ih (i:=i) (x:=x) (by simpa using h)
   simp only[List.set_cons_succ,List.sum_cons,List.getD_cons_succ,this];omega
theorem V6 {α:Type} [Inhabited α] {n:Nat} {a:α} {i:Int} (h:Ee i n=true):ix (List.replicate n a) i=a:=by
 have:=B9.1 h
 unfold ix
 rw[List.getElem?_replicate,AAY (by omega)];rfl
theorem PK {wv:AD} (h:Ck wv=true):wv.Af.all (NY wv)=true/\1≤wv.AA.length:=by
 unfold Ck at h
 simp only[AAP,AAf]at h
 obtain⟨h1,h⟩:=h
 refine⟨?_,by omega⟩
 split at h
 . simp only[AAP]at h;exact h.1.2
 . cases h
theorem Vk {wv:AD} (h:Ck wv=true):∀o,Ee o wv.Af.length=true->(ix wv.AG (ix wv.Af o).Mutex).RW=false:=by
 intro o ho
 have hc:=(PK h).1
 have:=B9.1 ho
 have hx:o.toNat<wv.Af.length:=by omega
 have:=AAU.1 hc (ix wv.Af o) (by unfold ix;rw[AAT hx];exact AAi hx)
 unfold NY at this
 simp only[AAP,ABU]at this
 exact this.2
theorem WI.start {wv:AD} (h:Ck wv=true):WI wv [] (Gg wv):=by
 have hw:=EC h
 have hc:=Vk h
 have h1:=(PK h).2
 have nb:∀u,¬begB wv (Gg wv).Count u:=λu ⟨hu,h2⟩=>by
  have:ix (Gg wv).Count u=0:=V6 hu
  omega
 have fm:wv.Af.all (λc=>Ee c.Mutex wv.AG.length)=true:=by
  have hc:=(PK h).1
  refine AAU.2 λx hx=> ?_
  have:=AAU.1 hc x hx
  unfold NY at this
  simp only[AAP]at this
  exact this.1
 refine⟨?_,λu hu=>V6 hu,?_,⟨λu hu=> ?_,λi hi=> ?_,λh=>absurd rfl h,λu hu=>hu.1⟩,λi hi _=>V6 hi⟩
 . unfold MJ G8 Gg Mj;simp[fm]
 . show(List.replicate wv.AA.length (0:Int)).sum=0
   induction wv.AA.length with
   |zero=>rfl
   |succ n ih=>rw[List.replicate_succ,List.sum_cons,ih];rfl
 . show TI wv _ _ u (ix ((List.replicate wv.AA.length (⟨0,0,false⟩:AE)).set (0:Int).toNat ⟨1,0,false⟩) u)
   rw[Lw (B9.2 (by simp;omega)) (by simpa using hu)]
   by_cases e:u=0
   . rw[AAY e];exact⟨by simp,by simp[nb],by simp,by simp,by simp,by simp⟩
   . rw[AAX e,V6 hu];exact⟨by simp,by simp[nb],λh=>absurd h e,by simp,by simp,by simp⟩
 . show LI wv _ i (ix (List.replicate wv.AG.length (⟨-1,[]⟩:AW)) i)
   rw[V6 hi];exact⟨by simp,by simp,by simp,by simp⟩
theorem WI.next {wv:AD} {pre:List AH} {s:AB} {e:AH} (hq:∀o,Ee o wv.Af.length=true->(ix wv.AG (ix wv.Af o).Mutex).RW=false) (h:WI wv pre s) (hl:pre.length≤100000) (hp:Kf wv s e=true):WI wv (pre++[e]) (GL wv s e):=by
 have xH:=hp
 unfold Kf at xH
 simp only[AAP]at xH
 obtain⟨hf,ht,he,_,_,_⟩:=xH
 obtain⟨f1,f2,f3,f4⟩:=Nn hf
 obtain⟨l1,l2,l3⟩:=FA f1
 have hr:=Ly pre e.Thread
 have hc:=h.c e.Thread ht
 have hw:Ap (ix s.Count e.Thread+1)=((OB pre e.Thread).length:Int)+1:=by rw[hc,DR (by omega) (by omega)]
 have hC:∀u,Ee u wv.AA.length=true->ix (GL wv s e).Count u=if u=e.Thread then((OB pre e.Thread).length:Int)+1 else ix s.Count u:=by
  intro u hu
  show ix (s.Count.set e.Thread.toNat _) u=_
  rw[Lw (by rw[f4];exact ht) (by rw[f4];exact hu),hw]
 refine⟨?_,λu hu=> ?_,?_,?_,λi hi hd=> ?_⟩
 . have:=gA f1 e.Thread e.Kind e.Obj (if e.Kind=18 then e.Value else -1)
   unfold MJ GL
   simp only[this,AA0,List.length_set,f4,ABB,Bool.and_true,AAP,AAd]
   constructor
   . split<;>simp[f2]
   . split<;>simp[f3]
 . rw[hC u hu,NF]
   by_cases e1:u=e.Thread
   . rw[AAY e1,AAY e1.symm];simp[e1]
   . rw[AAX e1,AAX (λh=>e1 h.symm),h.c u hu]
 . show(s.Count.set e.Thread.toNat _).sum=_
   have hi:=B9.1 ht
   have:ix s.Count e.Thread=s.Count.getD e.Thread.toNat 0:=by unfold ix;rw[List.getD_eq_getElem?_getD];rfl
   rw[sum_set (by omega),h.m,hw,← this,hc];simp;omega
 . refine(h.y.apply hq he (wake:=if e.Kind=18 then e.Value else -1)).congr λu=> ?_
   constructor
   . rintro⟨hu,h2⟩
     rw[hC u hu]at h2
     by_cases e1:u=e.Thread
     . exact .inr e1
     . rw[AAX e1]at h2;exact .inl ⟨hu,h2⟩
   . rintro(⟨hu,h2⟩|rfl)
     . refine⟨hu,?_⟩
       rw[hC u hu];split<;>omega
     . refine⟨ht,?_⟩
       rw[hC _ ht,AAY rfl];omega
 . unfold DC at he
   simp only[AAP]at he
   obtain⟨_,_,ha,hr⟩:=he
   have hD:(EN wv s.Sync e.Thread e.Kind e.Obj (if e.Kind=18 then e.Value else -1)).1.Bq=if e.Kind=22 then s.Sync.Bq.set e.Obj.toNat true else s.Sync.Bq:=by
    unfold EN
    by_cases Tk:e.Kind=22
    . simp[Tk]
    . rw[AAX Tk,AAX Tk]
      have key:∀(p:Prop) [Decidable p] (a b:AN×Int),a.1.Bq=s.Sync.Bq->b.1.Bq=s.Sync.Bq->(if p then a else b).1.Bq=s.Sync.Bq:=by
       intro p _ a b ha hb;split<;>assumption
      repeat' refine key _ _ _ ?_ ?_
      all_goals first
       |rfl
       | (by_cases hW:Bz e.Obj 0 s.Sync.AA=[]<;>simp only[hW,AAs,AAe]<;>rfl)
   have hd:ix (if e.Kind=22 then s.Sync.Bq.set e.Obj.toNat true else s.Sync.Bq) i=false:=by rw[← hD];exact hd
   show ix (if e.Kind=22 then s.AK.set e.Obj.toNat e.Value else s.AK) i=0
   by_cases Tk:e.Kind=22
   . rw[AAY Tk]at hd ⊢
     have ho:Ee e.Obj wv.AK.length=true:=by simpa[CF,Tk]using ha
     rw[Lw (by rw[l2];exact ho) (by rw[l2];exact hi)]at hd
     rw[Lw (by rw[f3];exact ho) (by rw[f3];exact hi)]
     by_cases e1:i=e.Obj
     . rw[AAY e1]at hd;cases hd
     . rw[AAX e1]at hd ⊢;exact h.d i hi hd
   . rw[AAX Tk]at hd ⊢;exact h.d i hi hd
def Gw (t:Az) (n:Nat):AB:=(t.AF.take n).foldl (GL t.World) (Gg t.World)
theorem OH {t:Az} {n:Nat} (h:n<t.AF.length):Gw t (n+1)=GL t.World (Gw t n) t.AF[n]:=by
 unfold Gw
 rw[← AAk h,List.foldl_append];rfl
theorem eU {t:Az} (hw:Ck t.World=true) (hl:t.AF.length≤400) (hc:Hg t.World [] (Gg t.World) t.AF=(0,0)):∀n,n≤t.AF.length->WI t.World (t.AF.take n) (Gw t n)/\Hg t.World (t.AF.take n) (Gw t n) (t.AF.drop n)=(0,0):=by
 have hq:=Vk hw
 intro n
 induction n with
 |zero=>intro _;exact⟨WI.start hw,hc⟩
 |succ n ih=>
  intro hn
  obtain⟨a,b⟩:=ih (by omega)
  rw[ABH (by omega),Hg]at b
  split at b
  . rename_i hp
    rw[AAP]at hp
    rw[OH (by omega),← AAk (by omega)]
    exact⟨a.next hq (by simp;omega) hp.1,b⟩
  . exact absurd (congrArg Prod.snd b) (λh:(12:Int)=0=>by cases h)
structure WinF (w:AO):Prop where
 v:Ck w.World=true
 f:MJ w.World w.Init=true
 e:w.AF.length≤16
structure l7 (w:AO):Prop where
 s:Small w.World
 l:w.Init.Sync.AG.length=w.World.AG.length
 d:w.Init.Sync.Bq.length=w.World.AK.length
 t:w.Init.Sync.AA.length=w.World.AA.length
 u:w.Init.AK.length=w.World.AK.length
 c:w.Init.Count.length=w.World.AA.length
 m:∀o,Ee o w.World.Af.length=true->Ee (ix w.World.Af o).Mutex w.World.AG.length=true
theorem WinF.l {w:AO} (h:WinF w):l7 w:=by
 obtain⟨f1,f2,f3,f4⟩:=Nn h.f
 obtain⟨l1,l2,l3⟩:=FA f1
 exact⟨EC h.v,l1,l2,l3,f3,f4,λo ho=>HH f1 ho⟩
theorem sL {c:Int}:∀(D:List Int) (last:Int),Gb c last D=true->∀k∈D,last<k/\k<c:=by
 intro D
 induction D with
 |nil=>intro _ _ k hk;cases hk
 |cons x r ih=>
  intro last h k hk
  unfold Gb at h
  simp only[AAP,AAf]at h
  rcases AAp.1 hk with rfl|hk
  . exact⟨h.1,h.2.1⟩
  . have:=ih x h.2.2 k hk;exact⟨by omega,this.2⟩
def CI (c:List Int) (nt:Nat) (pre:List AH) (s:AB):Prop:=s.Count.length=nt/\∀u,Ee u nt=true->ix s.Count u=ix c u+((OB pre u).length:Int)
theorem CI.next {wv:AD} {c:List Int} {nt:Nat} {pre:List AH} {s:AB} (h:CI c nt pre s) {x:AH} (hx:Ee x.Thread nt=true) (hc:∀u,Ee u nt=true->0≤ix c u/\ix c u≤400) (hp:pre.length≤1000):CI c nt (pre++[x]) (GL wv s x):=by
 refine⟨by simpa[GL]using h.1,λu hu=> ?_⟩
 obtain⟨b1,b2⟩:=B9.1 hx
 obtain⟨c1,c2⟩:=B9.1 hu
 rw[NF]
 show ix (s.Count.set x.Thread.toNat (Ap (ix s.Count x.Thread+1))) u=_
 have hq:=hc _ hx;have hr:=h.2 _ hx;have hn:=Ly pre x.Thread
 by_cases e:x.Thread=u
 . subst e
   rw[AAY rfl]
   unfold ix
   rw[AAS (by have:=h.1;omega)]
   show Ap (ix s.Count x.Thread+1)=ix c x.Thread+_
   rw[hr,DR (by omega) (by omega)]
   simp only[AA1,AA7,ABR];omega
 . rw[AAX e,← h.2 u hu]
   unfold ix
   rw[AAV (by omega)]
section
variable {w:AO}
end
theorem nL (wv:AD) (l:List AH):∀pre s,Hg wv pre s l=(0,0)∨(Hg wv pre s l).2=12/\(pre.length:Int)≤(Hg wv pre s l).1:=by
 induction l with
 |nil=>exactλ_ _=>.inl rfl
 |cons x r ih=>
  intro pre s
  unfold Hg
  split
  . refine(ih (pre++[x]) _).imp id λh=>⟨h.1,?_⟩
    have:=h.2;simp at this ⊢;omega
  . exact .inr ⟨rfl,by simp⟩
structure AT (t:Az):Prop where
 w:Ck t.World=true
 l:t.AF.length≤400
 c:Hg t.World [] (Gg t.World) t.AF=(0,0)
 e:∀e∈t.AF,S7 e
theorem AT.of {t:Az} (hE:∀e∈t.AF,S7 e) (h:(Io t).2=0):AT t:=by
 unfold Io at h
 split at h
 . cases h
 . split at h
   . rename_i hl hw
     rcases nL t.World t.AF [] (Gg t.World)with hc|⟨hc,_⟩
     . exact⟨hw,by omega,hc,hE⟩
     . rw[hc]at h;cases h
   . cases h
theorem AT.check {t:Az} (h:AT t):Io t=(0,0):=by
 unfold Io
 rw[AAX (by have:=h.l;omega),AAY h.w,h.c]
theorem AT.poss {t:Az} (h:AT t) {i:Nat} (hi:i<t.AF.length):Kf t.World (Gw t i) t.AF[i]=true:=by
 obtain⟨_,b⟩:=eU h.w h.l h.c i (by omega)
 rw[ABH hi,Hg]at b
 split at b
 . rename_i hp
   rw[AAP]at hp
   exact hp.1
 . exact absurd (congrArg Prod.snd b) (λh:(12:Int)=0=>by cases h)
theorem AT.rb {t:Az}:∀i,i≤t.AF.length->RB i (Gw t i).Sync
 |0,_=>RB.start _
 |i+1,hi=>by
  rw[OH (by omega)]
  exact(AT.rb i (by omega)).apply _ _ _ _ _
theorem AT.step {t:Az} (h:AT t) {i:Nat} (hi:i<t.AF.length):XV t.World (Gw t i) t.AF[i]=(Gw t (i+1),true):=by
 unfold XV
 rw[AAY (h.poss hi),OH hi]
theorem AT.vstep {t:Az} (h:AT t) {i:Nat} (hi:i<t.AF.length):BQ t.World (Gw t i) t.AF[i]=some (Gw t (i+1),true):=by
 rw[qZ _ (EC h.w) _ ((AT.rb i (by omega)).mono (by have:=h.l;omega)) _ (h.e _ (AAi hi)),h.step hi]
def snapS (t:Az) (n:Int):AB×Int:=if(Io t).2≠0 then(OC,12)else if n<0∨n>(t.AF.length:Int)then(OC,1)else(Gw t n.toNat,0)
theorem snap_loop {t:Az} (h:AT t) {b:Nat} (hb:b≤t.AF.length):∀(n i:Nat),i≤b->b<n+i->Cf.Aa (b:Int) t n (Gw t i) (i:Int)=some (Gw t b,0)
 |0,i,h1,h2=>by omega
 |n+1,i,h1,h2=>by
  have hl:=h.l
  rw[Cf.Aa]
  unfold Cf.L1
  have hlen:((t.AF.take (b:Int).toNat).length:Int)=b:=by rw[ABE,List.length_take_of_le hb]
  rw[hlen]
  by_cases hi:i<b
  . have hg:gt (t.AF.take (b:Int).toNat) (i:Int)=some t.AF[i]:=by
     rw[LG,ABE,List.getElem?_take_of_lt hi];simp
    rw[BC (by omega),hg,AAO,h.vstep (by omega),AAO,Ao (by omega)]
    exact snap_loop h hb n (i+1) (by omega) (by omega)
  . have:i=b:=by omega
    subst this
    rw[Ac (by omega)];rfl
theorem q8 (t:Az) (hE:∀e∈t.AF,S7 e) (n:Int):Cf t n=some (snapS t n):=by
 unfold Cf snapS
 rw[Check_eq t hE,AAO]
 by_cases hc:(Io t).2=0
 . have h:=AT.of hE hc
   rw[AAX (c:=((Io t).2 != 0)=true) (by simp[hc]),AAX (c:=(Io t).2≠0) (by simp[hc])]
   unfold Cf.J1
   by_cases g1:n<0
   . rw[BC g1,AAY rfl,AAY (.inl g1)];rfl
   . rw[Ac g1]
     by_cases g2:n>(t.AF.length:Int)
     . rw[AAY (by simpa using g2),AAY (.inr g2)];rfl
     . rw[AAX (by simpa using g2),AAX (by omega),MN _ (EC h.w),AAO,AAY ⟨by omega,by omega⟩]
       have:=snap_loop h (b:=n.toNat) (by omega) BT 0 (by omega) (by have:=B1;have:=h.l;omega)
       rw[show((n.toNat:Nat):Int)=n from by omega]at this
       exact this
 . rw[AAY (c:=((Io t).2 != 0)=true) (by simp[hc]),AAY (c:=(Io t).2≠0) hc];rfl
structure mG (s:AB):Prop where
 c:s.Cells.length≤100
 f:s.AK.length≤100
 n:s.Count.length≤100
 d:s.Sync.Bq.length≤100
 t:s.Sync.AA.length≤100
 l:s.Sync.AG.length≤100
 r:RB 1000000 s.Sync
def q7 (e:AH):Prop:=e.D9.length≤1000/\e.Db.length≤1000
theorem yN {c:Int}:∀(D:List Int) (last:Int),last<c->Gb c last D=true->(D.length:Int)+last+1≤c:=by
 intro D
 induction D with
 |nil=>intro last h _;simp;omega
 |cons x r ih=>
  intro last h hn
  unfold Gb at hn
  simp only[AAP,AAf]at hn
  have:=ih x hn.2.1 hn.2.2
  simp only[AA7];omega
theorem AT.small {t:Az} (h:AT t) {i:Nat} (hi:i≤t.AF.length):mG (Gw t i):=by
 obtain⟨a,_⟩:=eU h.w h.l h.c i hi
 obtain⟨f1,f2,f3,f4⟩:=Nn a.f
 obtain⟨l1,l2,l3⟩:=FA f1
 have hw:=EC h.w
 have h1:=hw.c;have h2:=hw.l;have h3:=hw.d;have h4:=hw.f;have h5:=hw.t
 exact⟨by omega,by omega,by omega,by omega,by omega,by omega,(AT.rb i hi).mono (by have:=h.l;omega)⟩
theorem AT.ev {t:Az} (h:AT t) {e:AH} (he:e∈t.AF):q7 e:=by
 obtain⟨i,hi,rfl⟩:=List.getElem_of_mem he
 obtain⟨a,_⟩:=eU h.w h.l h.c i (by omega)
 have hp:=h.poss hi
 have hc:=a.c _ (Pc hp)
 have hr:=Ly (t.AF.take i) t.AF[i].Thread
 have hl:=h.l
 rw[List.length_take_of_le (by omega)]at hr
 unfold Kf FN at hp
 simp only[AAP]at hp
 obtain⟨_,_,_,_,⟨⟨_,h1⟩,_,h2⟩,_⟩:=hp
 rw[hc]at h1 h2
 have key:∀D:List Int,Gb ((OB (t.AF.take i) t.AF[i].Thread).length:Int) 0 D=true->D.length≤1000:=by
  intro D hD
  cases D with
  |nil=>simp
  |cons x r=>
   have h0:0<((OB (t.AF.take i) t.AF[i].Thread).length:Int):=by
    have:=sL _ _ hD x (by simp);omega
   have:=yN _ _ h0 hD;omega
 exact⟨key _ h1,key _ h2⟩
theorem Nq {L:Nat->Int->ABp Bool} {N:Nat} {R:ABp Bool} (hs:∀(n i:Nat),i<N->L (n+1) (i:Int)=L n ((i+1:Nat):Int)) (he:∀n,L (n+1) (N:Int)=R):∀n i:Nat,i≤N->N<n+i->L n (i:Int)=R
 |0,i,h1,h2=>by omega
 |n+1,i,h1,h2=>by
  by_cases hi:i<N
  . rw[hs n i hi];exact Nq hs he n (i+1) (by omega) (by omega)
  . have:i=N:=by omega
    subst this;exact he n
end Go.Abs
namespace Go.Abs
theorem AAL:Ew=some true:=by decide +kernel
end Go.Abs
namespace Go.Abs
set_option maxHeartbeats 4000000
def D6 {α:Type} (o:ABp α) (Q:α->Prop):Prop:=∃r,o=some r/\Q r
theorem tR {α:Type} {r:α} {Q:α->Prop} (h:Q r):D6 (some r) Q:=⟨r,rfl,h⟩
theorem tB {α β:Type} {o:ABp α} {Q:α->Prop} {f:α->ABp β} {R:β->Prop} (h:D6 o Q) (k:∀x,Q x->D6 (f x) R):D6 (o.bind f) R:=by
 obtain⟨x,rfl,hx⟩:=h;exact k x hx
theorem tG {α β:Type} {l:List α} {i:Int} {f:α->ABp β} {R:β->Prop} (h:0≤i/\i<(l.length:Int)) (k:∀x,x∈l->D6 (f x) R):D6 ((gt l i).bind f) R:=by
 obtain⟨n,rfl⟩:∃n:Nat,i=n:=⟨i.toNat,by omega⟩
 have hn:n<l.length:=by omega
 rw[CU hn,AAO]
 exact k _ (AAi hn)
theorem tC {α:Type} {p:Prop} [Decidable p] {a:ABp α} {R:α->Prop} (h:p) (k:D6 a R):D6 (if p then a else none) R:=by rw[AAY h];exact k
theorem tI {α:Type} {c:Bool} {a b:ABp α} {R:α->Prop} (h1:c=true->D6 a R) (h2:c=false->D6 b R):D6 (if c=true then a else b) R:=by
 cases c with
 |true=>simpa using h1 rfl
 |false=>simpa using h2 rfl
theorem tM {α:Type} {o:ABp α} {Q R:α->Prop} (h:D6 o Q) (k:∀x,Q x->R x):D6 o R:=by
 obtain⟨x,e,hx⟩:=h;exact⟨x,e,k x hx⟩
structure OG (t:EH):Prop where
 l:t.L.length≤4000000000000000000
 a:0≤t.At/\t.At≤t.L.length
 u:∀x∈t.L,0≤x/\x<256
theorem Kv {t:EH} (ht:OG t) {n:Int} (hn:0<n/\n<1000):D6 (BU t n) λr=>(0≤r.1/\r.1<n)/\OG r.2:=by
 have h1:=ht.l;have h2:=ht.a
 unfold BU BU.J1
 rw[DR (n:=t.At+1) (by omega) (by omega),DR (n:=t.At+1-1) (by omega) (by omega)]
 refine tI (λ_=> ?_) λh=> ?_
 . exact tI (λ_=>tR ⟨⟨by omega,hn.1⟩,ht⟩) λh=>by cases h
 . have h':¬t.At≥(t.L.length:Int):=by simpa using h
   refine tI (λh=>absurd (AAa h) (by omega)) λ_=> ?_
   refine tG (by omega) λx hx=>tC (by omega) (tR ⟨?_,ht.l,by simp only;omega,ht.u⟩)
   have hx:=ht.u x hx
   rw[DR (by omega) (by omega)]
   exact⟨Int.tmod_nonneg _ hx.1,Int.tmod_lt_of_pos _ hn.1⟩
def qS:ABq:=⟨#[113]⟩
def vN:List ABq:=[⟨#[97]⟩,⟨#[98]⟩,⟨#[120]⟩,⟨#[121]⟩,⟨#[118]⟩]
theorem sK {l k:List ABq} (h:(l.all λx=>k.any λy=>decide (x=y))=true) {x:ABq} (hx:x∈l):x∈k:=by
 obtain⟨y,h1,h2⟩:=List.any_eq_true.1 (AAU.1 h x hx)
 rw[AAa h2];exact h1
theorem yH {x:ABq} (h:(vN.any λy=>decide (x=y))=true):x∈vN:=sK (l:=[x]) (by simpa using h) (AA4.2 rfl)
def Zw:Nat->A4->Prop
 |0,_=>False
 |n+1,e=>e.Op=1/\e.L=[]∨(e.Op=2/\e.L=[]/\e.Name∈vN)∨(e.Op=3/\e.Name=qS/\∃a,e.L=[a]/\Zw n a)∨(e.Op∈[(6:Int),7,8,11,13,17]/\∃a b,e.L=[a,b]/\Zw n a/\Zw n b)
theorem okE_mono {n:Nat}:∀{e:A4},Zw n e->Zw (n+1) e:=by
 induction n with
 |zero=>exactλh=>h.elim
 |succ n ih=>
  intro e h
  rcases h with h|h|⟨h1,h2,a,h3,h4⟩|⟨h1,a,b,h2,h3,h4⟩
  . exact .inl h
  . exact .inr (.inl h)
  . exact .inr (.inr (.inl ⟨h1,h2,a,h3,ih h4⟩))
  . exact .inr (.inr (.inr ⟨h1,a,b,h2,ih h3,ih h4⟩))
def rC (m m':AM):Prop:=OG m'.t/\m'={m with t:=m'.t}
theorem nX {R:AM->Int->ABp (A4×AM)} {depth:Int} {m:AM} {v:Int×EH} (hv:OG v.2) (hr:0≤v.1/\v.1<10) {c:Bool} {j:Nat}
 (h:c=false->7≤v.1->∀m' d',(d'=0∨d'=Ap (depth-1))->OG m'.t->D6 (R m' d') λr=>Zw j r.1/\rC m' r.2):
 D6 (ED.J1 R depth m v c) λr=>Zw (j+1) r.1/\rC m r.2:=by
 unfold ED.J1 Kh Ja JB
 simp only[AAO]
 refine tI (λ_=> ?_) λhc=>tI (λ_=> ?_) λh7=> ?_
 . refine tB (Kv hv (by omega)) ?_
   rintro v1 ⟨_,h1⟩
   exact tR ⟨.inl ⟨rfl,rfl⟩,h1,rfl⟩
 . refine tB (Kv hv (by omega)) ?_
   rintro v1 ⟨h0,h1⟩
   exact tG h0 λx hx=>tR ⟨.inr (.inl ⟨rfl,rfl,sK (by decide) hx⟩),h1,rfl⟩
 . have h7:=of_decide_eq_false h7
   have h:=h hc (by omega)
   refine tI (λ_=> ?_) λ_=> ?_
   . refine tB (h _ _ (.inl rfl) hv) ?_
     rintro e ⟨h1,h2,h3⟩
     exact tR ⟨.inr (.inr (.inl ⟨rfl,rfl,_,rfl,h1⟩)),h2,by rw[h3]⟩
   . refine tB (Kv hv (by omega)) ?_
     rintro v1 ⟨h0,h1⟩
     refine tG h0 λx hx=>tB (h _ _ (.inr rfl) h1) ?_
     rintro e ⟨g1,g2,g3⟩
     refine tB (h _ _ (.inr rfl) g2) ?_
     rintro e2 ⟨k1,k2,k3⟩
     exact tR ⟨.inr (.inr (.inr ⟨hx,_,_,rfl,g1,k1⟩)),k2,by rw[k3,g3]⟩
theorem okE_le {a b:Nat} (h:a≤b) {e:A4} (he:Zw a e):Zw b e:=by
 induction h with
 |refl=>exact he
 |step _ ih=>exact okE_mono ih
theorem nW {n:Nat} {m:AM} (hn:0<n) (ht:OG m.t):D6 (CT n m 0) λr=>Zw 1 r.1/\rC m r.2:=by
 obtain⟨n,rfl⟩:∃k,n=k+1:=⟨n-1,by omega⟩
 show D6 (ED (CT n) m 0) _
 unfold ED
 refine tB (Kv ht (by omega)) ?_
 rintro v ⟨hv,oW⟩
 refine tI (λ_=>nX oW hv (λh=>by cases h)) λ_=>tI (λ_=>nX oW hv λh h7=> ?_) λh=> ?_
 . exact absurd (of_decide_eq_false h) (by omega)
 . simp at h
theorem expr_tot (d:Nat):∀(n:Nat) (m:AM),d<n->d<100->OG m.t->D6 (CT n m d) λr=>Zw (d+1) r.1/\rC m r.2:=by
 induction d with
 |zero=>exactλn m hn _ ht=>nW hn ht
 |succ d ih=>
  intro n m hn hd ht
  obtain⟨n,rfl⟩:∃k,n=k+1:=⟨n-1,by omega⟩
  show D6 (ED (CT n) m _) _
  unfold ED
  refine tB (Kv ht (by omega)) ?_
  rintro v ⟨hv,oW⟩
  have key:∀c,D6 (ED.J1 (CT n) ((d+1:Nat):Int) m v c) λr=>Zw (d+1+1) r.1/\rC m r.2:=by
   intro c
   refine nX oW hv λ_ _ m' d' Ri U9=> ?_
   rcases Ri with rfl|rfl
   . exact tM (nW (by omega) U9) λr h=>⟨okE_le (by omega) h.1,h.2⟩
   . rw[DR (by omega) (by omega),show((d+1:Nat):Int)-1=(d:Int)from by omega]
     exact ih n m' (by omega) (by omega) U9
  exact tI (λ_=>key _) λ_=>tI (λ_=>key _) λ_=>key _
theorem TD {m:AM} {d:Int} (hd:d=0∨d=1) (ht:OG m.t):D6 (CT BT m d) λr=>Zw 2 r.1/\rC m r.2:=by
 have hb:=B1
 rcases hd with rfl|rfl
 . exact tM (nW (by omega) ht) λr h=>⟨okE_le (by omega) h.1,h.2⟩
 . exact expr_tot 1 BT m (by omega) (by omega) ht
theorem Yw (l:List ABq) (s:ABq) (hl:l.length<1000000):D6 (Ca l s) λr=> -1≤r/\r<l.length:=by
 have hb:=B1
 have key:∀n (i:Nat),l.length<n+i->i≤l.length->D6 (Ca.Aa l s n i) λr=> -1≤r/\r<l.length:=by
  intro n
  induction n with
  |zero=>intro i h1 h2;omega
  |succ n ih=>
   intro i h1 h2
   unfold Ca.Aa Ca.L1 Ca.J1
   refine tI (λh=> ?_) λ_=>tR (by omega)
   have h:=AAa h
   refine tG (by omega) λx _=>tI (λ_=>tR (by omega)) λ_=> ?_
   rw[Ao (by omega)]
   exact ih (i+1) (by omega) (by omega)
 exact key BT 0 (by omega) (by omega)
theorem dD {m:AM} (hm:m.held.length<1000) (s:ABq):D6 (Dw m s) λr=>r.2=m:=by
 unfold Dw
 exact tB (Yw _ _ (by omega)) λ_ _=>tR rfl
def cN:ABq:=⟨#[99]⟩
def noE:A4:=⟨0,0,⟨#[]⟩,[]⟩
def nmF (T:ABq->Prop) (o:Int) (s a:ABq) (i:List A4):Prop:=
 (o=1->i=[]->s∈vN)/\(o=4->s=⟨#[109]⟩∨s=⟨#[110]⟩)/\(o=5∨o=6->s=⟨#[114]⟩)/\(o=12∨o=13->T s)/\(o=14->s=⟨#[102]⟩)/\(o=15->s=⟨#[97]⟩/\a=⟨#[102]⟩)
def bdF (o:Int) (b e:List AP):Prop:=(o∉[(2:Int),3,4,5,6,7,8]->b=[])/\(o≠2->e=[])
def K8 (T:ABq->Prop):Nat->AP->Prop
 |0,_=>False
 |n+1,s=>(1≤s.Op/\s.Op≤15)/\(s.Index=[]∨s.Op=1/\s.Name=qS/\∃a,s.Index=[a]/\Zw 2 a)/\(Zw 2 s.Expr∨s.Op∉[(1:Int),2,3,14]/\s.Expr=noE)/\(s.Op∈[(9:Int),10,11]->s.Name=cN)/\
  s.Body.length≤4/\s.Else.length≤4/\(∀x∈s.Body,K8 T n x)/\(∀x∈s.Else,K8 T n x)/\bdF s.Op s.Body s.Else/\nmF T s.Op s.Name s.Arg s.Index
structure MK (H:Nat) (m:AM):Prop where
 t:OG m.t
 h:m.held.length≤H/\H≤500
structure MQ (m m':AM):Prop where
 t:OG m'.t
 h:m'.held=m.held
theorem rC.keep {m m':AM} (h:rC m m'):MQ m m':=⟨h.1,by rw[h.2]⟩
theorem MQ.mk' {H:Nat} {m m':AM} (hm:MK H m) (h:MQ m m'):MK H m':=⟨h.t,by rw[h.h];exact hm.h⟩
theorem MQ.trans {a b c:AM} (h:MQ a b) (g:MQ b c):MQ a c:=⟨g.t,g.h.trans h.h⟩
def okL (T:ABq->Prop) (k:Nat) (l:List AP):Prop:=l.length≤2/\∀x∈l,K8 T k x
theorem VL {T:ABq->Prop} {s:ABq} {e:A4} (h:Zw 2 e) (hs:s∈vN) (k:Nat):K8 T (k+1) ⟨1,0,s,⟨#[]⟩,[],e,[],[]⟩:=⟨⟨by simp,by simp⟩,.inl rfl,.inl h,by simp,by simp,by simp,by simp,by simp,⟨λ_=>rfl,λ_=>rfl⟩,λ_ _=>hs,by simp,by simp,by simp,by simp,by simp⟩
theorem cB {T:ABq->Prop} {o l:Int} {s a:ABq} (h:1≤o/\o≤15) (h2:o∉[(1:Int),2,3,14]) (h3:o∈[(9:Int),10,11]->s=cN) (h4:nmF T o s a []) {k:Nat}:K8 T (k+1) ⟨o,l,s,a,[],noE,[],[]⟩:=
 ⟨h,.inl rfl,.inr ⟨h2,rfl⟩,h3,by simp,by simp,by simp,by simp,⟨λ_=>rfl,λ_=>rfl⟩,h4⟩
theorem dF {T:ABq->Prop} {o l:Int} {s a:ABq} (ho:o∈[(2:Int),3,4,5,6,7,8]) (h:1≤o/\o≤15) (h2:o∉[(1:Int),2,3,14]) (h3:o∉[(9:Int),10,11]) (h4:nmF T o s a []) {k:Nat} {b:List AP} (hb:b.length≤4) (hb2:∀x∈b,K8 T k x):K8 T (k+1) ⟨o,l,s,a,[],noE,b,[]⟩:=
 ⟨h,.inl rfl,.inr ⟨h2,rfl⟩,λh=>absurd h h3,hb,by simp,hb2,by simp,⟨λh=>absurd ho h,λ_=>rfl⟩,h4⟩
section
variable {T:ABq->Prop} {R158:AM->ABq->Int->ABp (List AP×AM)} {R86:AM->Int->Int->ABp (List AP×AM)} {depth:Int} {nested:Bool} {k H:Nat}
structure Z2 (T:ABq->Prop) (R158:AM->ABq->Int->ABp (List AP×AM)) (R86:AM->Int->Int->ABp (List AP×AM)) (depth:Int) (k H:Nat):Prop where
 d:0≤depth/\depth<100
 b:0<depth->∀m s,MK H m->D6 (R158 m s (depth-1)) λr=>okL T (k+1) r.1/\MQ m r.2
 s:0<depth->∀m d n,MK H m->(d=0∨d=depth-1)->(n=1∨n=2)->D6 (R86 m d n) λr=>okL T (k+1) r.1/\MQ m r.2
abbrev Good (T:ABq->Prop) (k:Nat) (m:AM) (r:AP×AM):Prop:=K8 T (k+2) r.1/\MQ m r.2
theorem J12_tot {m:AM} (hm:MK H m) (b:Bool):D6 (BW.J12 m b) (Good T k m):=by
 unfold BW.J12 Fh
 refine tI (λ_=>tR ⟨cB (by decide) (by decide) (by decide) (by simp[nmF]),hm.t,rfl⟩) λ_=> ?_
 refine tB (TD (.inr rfl) hm.t) ?_
 rintro e ⟨h1,h2⟩
 exact tR ⟨VL h1 (yH (by decide)) _,h2.keep⟩
theorem sH {m:AM} (hm:MK H m) (v:Int×EH) (b:Bool):D6 (BW.jJ m v b) (Good T k m):=by
 unfold BW.jJ
 refine tI (λ_=> ?_) λ_=>tI (λ_=>tI (λ_=> ?_) λ_=>J12_tot hm _) λ_=>J12_tot hm _
 . refine tB (TD (.inr rfl) hm.t) ?_
   rintro e ⟨h1,h2⟩
   exact tR ⟨⟨⟨by simp,by simp⟩,.inl rfl,.inl h1,by simp,by simp,by simp,by simp,by simp,⟨λ_=>rfl,λ_=>rfl⟩,by simp[nmF]⟩,h2.1,by rw[h2.2]⟩
 . refine tB (Kv hm.t (by omega)) ?_
   rintro e ⟨_,h2⟩
   exact tM (J12_tot (k:=k) (m:={m with t:=e.2}) ⟨h2,hm.h⟩ _) λr h=>⟨h.1,h.2.t,h.2.h⟩
theorem J10_tot {m:AM} (hm:MK H m) (v:Int×EH) (b:Bool):D6 (BW.Th v m b) (Good T k m):=by
 unfold BW.Th
 refine tI (λ_=> ?_) λ_=>tI (λ_=>tI (λ_=>tI (λ_=>sH hm _ _) λ_=>sH hm _ _) λ_=>sH hm _ _) λ_=>sH hm _ _
 refine tB (Kv hm.t (by omega)) ?_
 rintro e ⟨h1,h2⟩
 refine tR ⟨dF (by decide) (by decide) (by decide) (by decide) (by simp[nmF]) (by simp) ?_,h2,rfl⟩
 intro x hx
 simp only[AA4]at hx
 subst hx
 rw[DR (by omega) (by omega)]
 refine cB (by omega) ?_ (λ_=>rfl) ⟨by omega,by omega,by omega,by omega,by omega,by omega⟩
 simp;omega
theorem J9_tot {m:AM} (hm:MK H m) (v:Int×EH) (b:Bool):D6 (BW.J9 nested v m b) (Good T k m):=by
 unfold BW.J9 Ja Fh
 refine tI (λ_=> ?_) λ_=>tI (λ_=>tI (λ_=> ?_) λ_=>J10_tot hm _ _) λ_=>J10_tot hm _ _
 . simp only[AAO]
   refine tR ⟨dF (by decide) (by decide) (by decide) (by decide) (by simp[nmF]) (by simp) ?_,hm.t,rfl⟩
   intro x hx
   simp only[AAp,ABn,ABd]at hx
   rcases hx with rfl|rfl
   . exact cB (by decide) (by decide) (λ_=>rfl) (by simp[nmF])
   . exact VL (.inr (.inl ⟨rfl,rfl,yH (by decide)⟩)) (yH (by decide)) _
 . refine tB (dD (by have:=hm.h;omega) _) ?_
   rintro e rfl
   exact J10_tot hm _ _
theorem J8_tot (hp:Z2 T R158 R86 depth k H) (hn:nested=true->0<depth) {m:AM} (hm:MK H m) (v:Int×EH) {b:Bool} (hb:b=true->0<depth):D6 (BW.J8 R86 depth m nested v b) (Good T k m):=by
 have hd:=hp.d
 unfold BW.J8
 refine tI (λh=> ?_) λ_=>tI (λ_=>tI (λ_=>tI (λ_=> ?_) λ_=>J9_tot hm _ _) λ_=>J9_tot hm _ _) λ_=>J9_tot hm _ _
 . refine tB (hp.s (hb h) _ _ _ ⟨hm.t,hm.h⟩ (.inr (DR (by omega) (by omega))) (.inr rfl)) ?_
   rintro e ⟨h1,h2⟩
   exact tR ⟨dF (by decide) (by decide) (by decide) (by decide) (by simp[nmF]) (by have:=h1.1;omega) h1.2,h2.t,h2.h⟩
 . refine tB (dD (by have:=hm.h;omega) _) ?_
   rintro e rfl
   exact J9_tot hm _ _
theorem J7_tot (hp:Z2 T R158 R86 depth k H) (hn:nested=true->0<depth) {m:AM} (hm:MK H m) (v:Int×EH) {b:Bool} (hb:b=true->0<depth):D6 (BW.J7 R86 depth m nested v b) (Good T k m):=by
 unfold BW.J7
 refine tI (λh=> ?_) λ_=>tI (λ_=>tI (λh=>J8_tot hp hn hm _ λ_=>hn h) λ_=>J8_tot hp hn hm _ (by simp)) λ_=>J8_tot hp hn hm _ (by simp)
 refine tB (Kv hm.t (by omega)) ?_
 rintro e0 ⟨h0,h1⟩
 refine tB (hp.s (hb h) {m with t:=e0.2,tx:=true} _ _ ⟨h1,hm.h⟩ (.inl rfl) (by rw[DR (by omega) (by omega)];omega)) ?_
 rintro e ⟨h1,h2⟩
 exact tR ⟨dF (by decide) (by decide) (by decide) (by decide) (by simp[nmF]) (by have:=h1.1;omega) h1.2,h2.t,h2.h⟩
theorem J6_tot (hp:Z2 T R158 R86 depth k H) (hn:nested=true->0<depth) {m:AM} (hm:MK H m) (v:Int×EH) {b:Bool} (hb:b=true->0<depth/\(v.1=10∨v.1=11)):D6 (BW.J6 R158 R86 depth nested v m b) (Good T k m):=by
 have hd:=hp.d
 unfold BW.J6
 refine tI (λh=> ?_) λ_=>tI (λ_=>J7_tot hp hn hm _ hn) λ_=>J7_tot hp hn hm _ (by simp)
 obtain⟨h1,h2⟩:=hb h
 rw[DR (n:=depth-1) (by omega) (by omega)]
 refine tB (hp.b h1 m _ hm) ?_
 rintro e ⟨g1,g2⟩
 refine tR ⟨?_,g2⟩
 rcases h2 with h2|h2<;>rw[h2]<;>exact dF (by decide) (by decide) (by decide) (by decide) (by first| (rw[show Ap (Ap ((10:Int)-10)+5)=5 from rfl];simp[nmF])| (rw[show Ap (Ap ((11:Int)-10)+5)=6 from rfl];simp[nmF])) (by have:=g1.1;omega) g1.2
theorem J5_tot (hp:Z2 T R158 R86 depth k H) (hn:nested=true->0<depth) {m:AM} (hm:MK H m) (v:Int×EH) {b:Bool} (hb:b=true->0<depth/\(v.1=8∨v.1=9)):D6 (BW.J5 R158 R86 depth nested v m b) (Good T k m):=by
 have hd:=hp.d;have hh:=hm.h
 have o:∀{c:Bool} {i:Int},(v.1==i)=true->(i=10∨i=11)->nested=true->c=true->0<depth/\(v.1=10∨v.1=11):=λh1 h2 h3 _=>⟨hn h3,by have:=eq_of_beq h1;omega⟩
 unfold BW.J5
 refine tI (λh=> ?_) λ_=>tI (λe1=>tI (λe2=> ?_) λ_=>J6_tot hp hn hm _ (by simp)) λ_=>tI (λe1=>tI (λe2=> ?_) λ_=>J6_tot hp hn hm _ (by simp)) λ_=>J6_tot hp hn hm _ (by simp)
 . obtain⟨h1,h2⟩:=hb h
   rw[DR (n:=depth-1) (by omega) (by omega),DR (by omega) (by omega)]
   refine tG (by simp;omega) λx hx=>tB (hp.b h1 m _ hm) ?_
   rintro e ⟨g1,g2⟩
   exact tR ⟨dF (by decide) (by decide) (by decide) (by decide) ⟨by simp,λ_=>by simpa using hx,by simp,by simp,by simp,by simp⟩ (by have:=g1.1;omega) g1.2,g2⟩
 all_goals
  refine tB (dD (by omega) _) ?_
  rintro e rfl
  exact J6_tot hp hn hm _ (o e1 (by omega) e2)
theorem J4_tot (hp:Z2 T R158 R86 depth k H) (hn:nested=true->0<depth) {m:AM} (hm:MK H m) {v:Int×EH} (hv:OG v.2) {b:Bool} (hb:b=true->0<depth):D6 (BW.J4 R158 R86 depth m nested v b) (Good T k m):=by
 have hd:=hp.d;have hh:=hm.h
 have o:∀{c:Bool} {i:Int},(v.1==i)=true->(i=8∨i=9)->nested=true->c=true->0<depth/\(v.1=8∨v.1=9):=λh1 h2 h3 _=>⟨hn h3,by have:=eq_of_beq h1;omega⟩
 have U9:MK H (AM.mk v.2 m.BV (Ap (m.left-1)) m.HY m.tx m.atomic m.loop m.held):=⟨hv,hm.h⟩
 have w:∀{r:AP×AM},Good T k (AM.mk v.2 m.BV (Ap (m.left-1)) m.HY m.tx m.atomic m.loop m.held) r->Good T k m r:=λh=>⟨h.1,h.2.t,h.2.h⟩
 unfold BW.J4
 refine tI (λh=> ?_) λ_=>tI (λe1=>tI (λe2=> ?_) λ_=>tM (J5_tot hp hn U9 _ (by simp)) λ_=>w) λ_=>tI (λe1=>tI (λe2=> ?_) λ_=>tM (J5_tot hp hn U9 _ (by simp)) λ_=>w) λ_=>tM (J5_tot hp hn U9 _ (by simp)) λ_=>w
 . unfold Ja Kh JB Fh
   simp only[AAO]
   refine tB (hp.s (hb h) _ _ _ ⟨hv,hm.h⟩ (.inr (DR (by omega) (by omega))) (.inl rfl)) ?_
   rintro e ⟨g1,g2⟩
   have:=g1.1
   refine tC (DK (by omega)) (tR ⟨⟨by simp,.inl rfl,.inl ?_,by simp,by simp;omega,by simp,?_,by simp,⟨λh=>absurd (by simp) h,λ_=>rfl⟩,by simp[nmF]⟩,g2.t,g2.h⟩)
   . exact .inr (.inr (.inr ⟨by simp,_,_,rfl,.inr (.inl ⟨rfl,rfl,yH (by decide)⟩),.inl ⟨rfl,rfl⟩⟩))
   . intro x hx
     rcases AAj.1 hx with hx|hx
     . exact g1.2 x hx
     . simp only[AA4]at hx
       subst hx
       exact VL (.inr (.inr (.inr ⟨by decide,_,_,rfl,.inr (.inl ⟨rfl,rfl,yH (by decide)⟩),.inl ⟨rfl,rfl⟩⟩))) (yH (by decide)) _
 all_goals
  have h8:=eq_of_beq e1
  rw[h8]
  refine tG (by decide) λx _=>tB (dD (by simpa using by omega) _) ?_
  rintro e he
  rw[he]
  exact tM (J5_tot hp hn U9 _ (o e1 (by omega) e2)) λ_=>w
theorem J2_tot (hp:Z2 T R158 R86 depth k H) (hn:nested=true->0<depth) {m:AM} (hm:MK H m) {v:Int×EH} (hv:OG v.2) {b:Bool} (hb:b=true->0<depth):D6 (BW.J2 R158 R86 depth m nested v b) (Good T k m):=by
 have hd:=hp.d
 unfold BW.J2 BW.J3
 refine tI (λh=> ?_) λ_=>tI (λ_=>J4_tot hp hn hm hv λh=>by simpa using h) λ_=>J4_tot hp hn hm hv (by simp)
 have h:=hb h
 refine tB (TD (.inr rfl) (m:=AM.mk v.2 m.BV (Ap (m.left-1)) m.HY m.tx m.atomic m.loop m.held) hv) ?_
 rintro e ⟨e1,e2⟩
 have k1:=e2.keep
 have U9:MK H (AM.mk v.2 m.BV (Ap (m.left-1)) m.HY m.tx m.atomic m.loop m.held):=⟨hv,hm.h⟩
 rw[DR (n:=depth-1) (by omega) (by omega)]
 refine tB (hp.s h _ _ _ (MQ.mk' U9 k1) (.inr rfl) (.inl rfl)) ?_
 rintro b1 ⟨⟨b1,b2⟩,k2⟩
 refine tB (Kv k2.t (by omega)) ?_
 rintro c ⟨_,c2⟩
 have kh:=k2.h.trans k1.h
 refine tI (λ_=> ?_) λ_=>tR ⟨⟨by simp,.inl rfl,.inl e1,by simp,by simp;omega,by simp,b2,by simp,⟨λh=>absurd (by simp) h,λ_=>rfl⟩,by simp[nmF]⟩,c2,kh⟩
 refine tB (hp.s h _ _ _ ⟨c2,by rw[show _=m.held from kh];exact hm.h⟩ (.inr rfl) (.inl rfl)) ?_
 rintro d ⟨⟨d1,d2⟩,k3⟩
 exact tR ⟨⟨by simp,.inl rfl,.inl e1,by simp,by simp;omega,by simp;omega,b2,d2,⟨λh=>absurd (by simp) h,λh=>absurd rfl h⟩,by simp[nmF]⟩,k3.t,k3.h.trans kh⟩
theorem J1_tot (hp:Z2 T R158 R86 depth k H) (hn:nested=true->0<depth) {m:AM} (hm:MK H m) {v:Int×EH} (hr:0≤v.1) (hv:OG v.2):D6 (BW.J1 R158 R86 depth m v nested) (Good T k m):=by
 have U9:MK H (AM.mk v.2 m.BV (Ap (m.left-1)) m.HY m.tx m.atomic m.loop m.held):=⟨hv,hm.h⟩
 unfold BW.J1 Fh
 refine tI (λh=> ?_) λ_=>tI (λ_=> ?_) λ_=>tI (λ_=> ?_) λ_=>tI (λ_=>J2_tot hp hn hm hv λh=>by simpa using h) λ_=>J2_tot hp hn hm hv (by simp)
 . have h:=AAa h
   refine tG (by simp;omega) λx hx=>tB (TD (.inr rfl) U9.t) ?_
   rintro e ⟨e1,e2⟩
   exact tR ⟨VL e1 (sK (by decide) hx) _,e2.keep.t,e2.keep.h⟩
 . refine tB (Kv hv (by omega)) ?_
   rintro c ⟨c1,c2⟩
   refine tG c1 λx hx=>tB (TD (.inr rfl) c2) ?_
   rintro e ⟨e1,e2⟩
   exact tR ⟨VL e1 (sK (by decide) hx) _,e2.keep.t,e2.keep.h⟩
 . refine tB (TD (.inl rfl) U9.t) ?_
   rintro e ⟨e1,e2⟩
   refine tB (TD (.inr rfl) e2.keep.t) ?_
   rintro g ⟨g1,g2⟩
   exact tR ⟨⟨by simp,.inr ⟨rfl,rfl,_,rfl,e1⟩,.inl g1,by simp,by simp,by simp,by simp,by simp,⟨λ_=>rfl,λ_=>rfl⟩,by simp[nmF]⟩,g2.keep.t,g2.keep.h.trans e2.keep.h⟩
theorem stmt_tot (hp:Z2 T R158 R86 depth k H) {m:AM} (hm:MK H m):D6 (BW R158 R86 m depth) (Good T k m):=by
 unfold BW
 refine tB (Kv hm.t (by omega)) ?_
 rintro v ⟨v1,v2⟩
 exact tI (λh=>tI (λ_=>J1_tot hp (λ_=>by simpa using h) hm v1.1 v2) λ_=>J1_tot hp (by simp) hm v1.1 v2) λ_=>J1_tot hp (by simp) hm v1.1 v2
end
section
variable {T:ABq->Prop}
theorem stmts_tot {R:AM->Int->ABp (AP×AM)} {depth:Int} {k H:Nat} (hR:∀m,MK H m->D6 (R m depth) λr=>K8 T k r.1/\MQ m r.2) {m:AM} (hm:MK H m) {nv:Int} (hn:0≤nv/\nv≤3):
 D6 (DM R m depth nv) λr=>((r.1.length:Int)≤nv/\∀x∈r.1,K8 T k x)/\MQ m r.2:=by
 have hb:=B1
 have key:∀n (i:Nat) (m':AM) (l:List AP),10<n+i->(i:Int)≤nv->l.length≤i->(∀x∈l,K8 T k x)->MQ m m'->D6 (DM.Aa R depth nv n m' l i) λr=>((r.1.length:Int)≤nv/\∀x∈r.1,K8 T k x)/\MQ m r.2:=by
  intro n
  induction n with
  |zero=>intro i m' l h1 h2;omega
  |succ n ih=>
   intro i m' l h1 h2 h3 h4 h5
   have J:∀b,(b=true->(i:Int)<nv)->D6 (DM.J1 (DM.Aa R depth nv n) R depth i l m' b) λr=>((r.1.length:Int)≤nv/\∀x∈r.1,K8 T k x)/\MQ m r.2:=by
    intro b hb
    unfold DM.J1 DM.J2
    refine tI (λh=> ?_) λ_=>tR ⟨⟨by simp only;omega,h4⟩,h5⟩
    have h:=hb h
    refine tB (hR _ (MQ.mk' hm h5)) ?_
    rintro e ⟨e1,e2⟩
    refine tC (DK (by omega)) ?_
    rw[Ao (by omega)]
    refine ih (i+1) _ _ (by omega) (by omega) (by simp;omega) ?_ (h5.trans e2)
    intro x hx
    rcases AAj.1 hx with hx|hx
    . exact h4 x hx
    . simp only[AA4]at hx;subst hx;exact e1
   unfold DM.Aa DM.L1
   exact tI (λh=>tI (λ_=>J _ λ_=>by simpa using h) λ_=>J _ λ_=>by simpa using h) λ_=>J _ (by simp)
 exact key BT 0 m [] (by omega) (by omega) (by simp) (by simp) ⟨hm.t,rfl⟩
theorem okS_mono {n:Nat}:∀{s:AP},K8 T n s->K8 T (n+1) s:=by
 induction n with
 |zero=>exactλh=>h.elim
 |succ n ih=>exactλ⟨h1,h2,h3,h4,h5,h6,h7,h8,h9⟩=>⟨h1,h2,h3,h4,h5,h6,λx hx=>ih (h7 x hx),λx hx=>ih (h8 x hx),h9⟩
theorem okS_le {a b:Nat} (h:a≤b) {s:AP} (hs:K8 T a s):K8 T b s:=by
 induction h with
 |refl=>exact hs
 |step _ ih=>exact okS_mono ih
theorem block_tot {R86:AM->Int->Int->ABp (List AP×AM)} {d:Int} {k H:Nat} {m:AM} (hm:MK H m) (hH:H<500) (s:ABq)
 (h:∀m n,MK (H+1) m->(n=1∨n=2)->D6 (R86 m d n) λr=>okL T k r.1/\MQ m r.2):D6 (IB R86 m s d) λr=>okL T k r.1/\MQ m r.2:=by
 have hh:=hm.h
 unfold IB
 refine tC (DK (by omega)) (tB (Kv hm.t (by omega)) ?_)
 rintro v ⟨v1,v2⟩
 refine tB (h (AM.mk v.2 m.BV m.left m.HY m.tx m.atomic m.loop (m.held++[s])) _ ⟨v2,by simp;omega⟩ (by rw[DR (by omega) (by omega)];omega)) ?_
 rintro e ⟨e1,e2⟩
 have e3:e.2.held=m.held++[s]:=e2.h
 simp only[e3,AA1,AA7,ABR]
 rw[DR (by omega) (by omega)]
 refine tC (by omega) (tR ⟨e1,e2.t,?_⟩)
 show(m.held++[s]).take _=m.held
 rw[show(((m.held.length+(0+1):Nat):Int)-1).toNat=m.held.length from by omega,List.take_left]
theorem made0_tot {H n:Nat} (h2:H<500) (h3:3≤n):
 (∀m,MK H m->D6 (ID n m (0:Nat)) (Good T 0 m))/\∀m nv,MK H m->0≤nv/\nv≤3->D6 (FP (n+1) m (0:Nat) nv) λr=>((r.1.length:Int)≤nv/\∀x∈r.1,K8 T 2 x)/\MQ m r.2:=by
 have key:∀m,MK H m->D6 (ID n m (0:Nat)) (Good T 0 m):=by
  intro m hm
  obtain⟨n,rfl⟩:∃k,n=k+1:=⟨n-1,by omega⟩
  exact stmt_tot (R158:=La n) (R86:=FP n) (H:=H) ⟨by omega,λh=>by simp at h,λh=>by simp at h⟩ hm
 exact⟨key,λm nv hm hn=>stmts_tot (R:=ID n) key hm hn⟩
theorem made_tot (d:Nat):∀(H n:Nat),d<50->H+d<500->3*d+3≤n->
 (∀m,MK H m->D6 (ID n m d) (Good T d m))/\∀m nv,MK H m->0≤nv/\nv≤3->D6 (FP (n+1) m d nv) λr=>((r.1.length:Int)≤nv/\∀x∈r.1,K8 T (d+2) x)/\MQ m r.2:=by
 induction d with
 |zero=>exactλH n _ h2 h3=>made0_tot (by omega) (by omega)
 |succ d ih=>
  intro H n h1 h2 h3
  have sub:∀(H' n':Nat) (m:AM) (d' nv:Int),H'≤H+1->3*d+4≤n'->MK H' m->(d'=0∨d'=((d+1:Nat):Int)-1)->(nv=1∨nv=2)->D6 (FP n' m d' nv) λr=>okL T (d+2) r.1/\MQ m r.2:=by
   intro H' n' m d' nv g1 g2 hm hd hn
   obtain⟨n',rfl⟩:∃k,n'=k+1:=⟨n'-1,by omega⟩
   rcases hd with rfl|rfl
   . exact tM ((made0_tot (n:=n') (by omega) (by omega)).2 m nv hm (by omega)) λr h=>⟨⟨by have:=h.1.1;omega,λx hx=>okS_le (by omega) (h.1.2 x hx)⟩,h.2⟩
   . rw[show((d+1:Nat):Int)-1=(d:Int)from by omega]
     exact tM ((ih H' n' (by omega) (by omega) (by omega)).2 m nv hm (by omega)) λr h=>⟨⟨by have:=h.1.1;omega,h.1.2⟩,h.2⟩
  have key:∀m,MK H m->D6 (ID n m (d+1:Nat)) (Good T (d+1) m):=by
   intro m hm
   obtain⟨n,rfl⟩:∃k,n=k+2:=⟨n-2,by omega⟩
   refine stmt_tot (R158:=La (n+1)) (R86:=FP (n+1)) (H:=H) (k:=d+1) ⟨by omega,λ_ m s hm=> ?_,λ_ m d' nv hm hd hn=> ?_⟩ hm
   . exact block_tot (R86:=FP n) hm (by omega) s λm nv hm hn=>sub (H+1) n m _ nv (by omega) (by omega) hm (.inr rfl) hn
   . exact sub H (n+1) m d' nv (by omega) (by omega) hm hd hn
  exact⟨key,λm nv hm hn=>stmts_tot (R:=ID n) key hm hn⟩
end
section
variable {T:ABq->Prop}
abbrev TT {α:Type} (o:ABp α):Prop:=D6 o λ_=>True
theorem tD {α:Type} {p:Prop} [Decidable p] {a b:ABp α} {R:α->Prop} (h1:p->D6 a R) (h2:¬p->D6 b R):D6 (if decide p=true then a else b) R:=by
 by_cases h:p
 . simpa[h]using h1 h
 . simpa[h]using h2 h
theorem NN {α β:Type} {o:ABp α} {f:α->ABp β} {R:β->Prop} (h:TT o) (k:∀x,D6 (f x) R):D6 (o.bind f) R:=tB h λx _=>k x
theorem tE {α β:Type} {o:ABp α} {y:α} {f:α->ABp β} {R:β->Prop} (h:o=some y) (k:D6 (f y) R):D6 (o.bind f) R:=by rw[h];exact k
theorem jM {α β:Type} {l:List α} {i:Nat} {f:α->ABp β} {R:β->Prop} (h:i<l.length) (k:D6 (f l[i]) R):D6 ((gt l (i:Int)).bind f) R:=by rw[CU h];exact k
theorem tL {α:Type} {Q:α->Prop} (N:Nat) {F:Nat->Int->ABp α} (hN:N<1000000000000) (h:∀n (i:Nat),i≤N->(i<N->D6 (F n (Ap (i+1))) Q)->D6 (F (n+1) i) Q):D6 (F BT 0) Q:=by
 have hb:=B1
 have key:∀n (i:Nat),N<n+i->i≤N->D6 (F n i) Q:=by
  intro n
  induction n with
  |zero=>intro i h1 h2;omega
  |succ n ih=>
   intro i h1 h2
   refine h n i h2 λh3=> ?_
   rw[Ao (by omega)]
   exact ih (i+1) (by omega) h3
 exact key BT 0 (by omega) (by omega)
theorem tLk {σ α:Type} {Q:α->Prop} (N j:Nat) (I:Nat->σ->Prop) {F:Nat->σ->Int->ABp α} (hN:N<1000000000000) (hj:j≤N) {s0:σ} (h0:I j s0)
 (h:∀n (i:Nat) s,i≤N->I i s->(∀s',i<N->I (i+1) s'->D6 (F n s' (Ap (i+1))) Q)->D6 (F (n+1) s i) Q):D6 (F BT s0 j) Q:=by
 have hb:=B1
 have key:∀n (i:Nat) s,N<n+i->i≤N->I i s->D6 (F n s i) Q:=by
  intro n
  induction n with
  |zero=>intro i s h1 h2;omega
  |succ n ih=>
   intro i s h1 h2 h3
   refine h n i s h2 h3 λs' h4 h5=> ?_
   rw[Ao (by omega)]
   exact ih (i+1) s' (by omega) h4 h5
 exact key BT j s0 (by omega) hj h0
theorem XN {σ α:Type} {Q:α->Prop} (N:Nat) (I:Nat->σ->Prop) {F:Nat->σ->Int->ABp α} (hN:N<1000000000000) {s0:σ} (h0:I 0 s0)
 (h:∀n (i:Nat) s,i≤N->I i s->(∀s',i<N->I (i+1) s'->D6 (F n s' (Ap (i+1))) Q)->D6 (F (n+1) s i) Q):D6 (F BT s0 0) Q:=tLk N 0 I hN (by omega) h0 h
theorem WO (s:ABq):TT (Bp s):=⟨_,QP s,trivial⟩
def dE:Nat->A4->Prop
 |0,_=>False
 |n+1,e=>e.L.length≤2/\∀x∈e.L,dE n x
theorem Zw.d {n:Nat}:∀{e:A4},Zw n e->dE n e:=by
 induction n with
 |zero=>exactλh=>h.elim
 |succ n ih=>
  intro e h
  rcases h with⟨_,h⟩|⟨_,h,_⟩|⟨_,_,a,h,h1⟩|⟨_,a,b,h,h1,h2⟩<;>refine⟨by simp[h],?_⟩<;>rw[h]<;>simp
  . exact ih h1
  . exact⟨ih h1,ih h2⟩
theorem K8.e {n:Nat} {s:AP} (h:K8 T n s):dE 2 s.Expr:=by
 cases n with
 |zero=>exact h.elim
 |succ n=>
  rcases h.2.2.1 with h|⟨_,h⟩
  . exact h.d
  . rw[h];exact⟨by simp[noE],by simp[noE]⟩
theorem K8.i {n:Nat} {s:AP} (h:K8 T n s):s.Index=[]∨∃a,s.Index=[a]/\dE 2 a:=by
 cases n with
 |zero=>exact h.elim
 |succ n=>exact h.2.1.imp id λ⟨_,_,a,h,k⟩=>⟨a,h,k.d⟩
theorem zO (d:EM):TT (Dc d):=by
 have j2:∀b,TT (Dc.J2 d b):=by
  intro b;unfold Dc.J2 Dc.J3
  repeat' first|exact tR trivial|refine tI (λ_=> ?_) λ_=> ?_
 have j1:∀b,TT (Dc.J1 d b):=by
  intro b;unfold Dc.J1
  repeat' first|exact tR trivial|exact j2 _|refine NN (WO _) λ_=> ?_|refine tI (λ_=> ?_) λ_=> ?_
 unfold Dc
 repeat' first|exact j1 _|refine NN (WO _) λ_=> ?_|refine tI (λ_=> ?_) λ_=> ?_
theorem Operands_tot (o:Int):TT (Ez o):=by
 unfold Ez Ez.J1 Ez.J2 Ez.J3
 repeat' first|exact tR trivial|refine tI (λ_=> ?_) λ_=> ?_
theorem sX (d:Nat):∀(n:Nat) (e:A4),d≤n->dE d e->TT (Dm n e):=by
 induction d with
 |zero=>exactλn e _ h=>h.elim
 |succ d ih=>
  intro n e hn ⟨h1,h2⟩
  obtain⟨n,rfl⟩:∃k,n=k+1:=⟨n-1,by omega⟩
  show TT (DN (Dm n) e)
  have j2:∀b,TT (DN.J2 (Dm n) e b):=by
   intro b;unfold DN.J2
   refine tI (λ_=>tR trivial) λ_=>tL e.L.length (by omega) λm i hi k=> ?_
   unfold DN.Aa DN.L1
   refine tD (λ_=>tG (by omega) λx hx=>NN (ih n x (by omega) (h2 x hx)) λ_=>tI (λ_=>tR trivial) λ_=>k (by omega)) λ_=>tR trivial
  have j1:∀b,TT (DN.J1 (Dm n) e b):=by
   intro b;unfold DN.J1
   refine NN (Operands_tot _) λ_=> ?_
   repeat' first|exact j2 _|refine NN (WO _) λ_=> ?_|refine tI (λ_=> ?_) λ_=> ?_
  unfold DN
  exact tI (λ_=>j1 _) λ_=>j1 _
theorem XR {n:Nat} (h:n≤1000):n≤BT:=by have:=B1;omega
theorem SE_tot {e:A4} (h:dE 2 e):TT (Dm BT e):=sX 2 _ e (XR (by omega)) h
theorem sY {k:Nat} {s:AP} {R:List AP->ABp Bool} (hs:K8 T k s) (hb:TT (R s.Body)) (he:TT (R s.Else)):TT (Ba R s):=by
 have j9:∀b,TT (Ba.J9 R s b):=by
  intro b;unfold Ba.J9 Ba.Th
  repeat' first|exact tR trivial|refine NN hb λ_=> ?_|refine NN he λ_=> ?_|refine tI (λ_=> ?_) λ_=> ?_
 have j8:∀b,TT (Ba.J8 R s b):=by
  intro b;unfold Ba.J8
  repeat' first|exact j9 _|refine tI (λ_=> ?_) λ_=> ?_
 have j7:∀b,TT (Ba.J7 R s b):=by
  intro b;unfold Ba.J7
  repeat' first|exact tR trivial|exact j8 _|refine tI (λ_=> ?_) λ_=> ?_
 have j6:∀b,TT (Ba.J6 R s b):=by
  intro b;unfold Ba.J6
  refine tI (λ_=>NN (SE_tot hs.e) λ_=>tI (λ_=>j7 _) λ_=>j7 _) λ_=>NN ?_ λ_=>j7 _
  unfold Ho Ho.J1
  repeat' first|exact tR trivial|refine tI (λ_=> ?_) λ_=> ?_
 have j5:∀b,TT (Ba.J5 R s b):=by
  intro b;unfold Ba.J5
  repeat' first|exact tR trivial|exact j6 _|refine tI (λ_=> ?_) λ_=> ?_
 have j4:∀b,TT (Ba.J4 R s b):=by
  intro b;unfold Ba.J4
  rcases hs.i with h|⟨a,h,ha⟩<;>rw[h]
  . repeat' first|exact tR trivial|exact j5 _|refine tI (λ_=> ?_) λ_=> ?_|contradiction
  . repeat' first|exact tR trivial|exact j5 _|refine tI (λ_=> ?_) λ_=> ?_|refine tE (y:=a) rfl ?_|refine NN (SE_tot ha) λ_=> ?_
 have j3:∀b,TT (Ba.J3 R s b):=by
  intro b;unfold Ba.J3
  repeat' first|exact tR trivial|exact j4 _|refine tI (λ_=> ?_) λ_=> ?_|refine NN (WO _) λ_=> ?_
 have j2:∀b,TT (Ba.J2 R s b):=by
  intro b;unfold Ba.J2
  repeat' first|exact j3 _|refine tI (λ_=> ?_) λ_=> ?_|refine NN (WO _) λ_=> ?_
 have j1:∀b,TT (Ba.J1 R s b):=by
  intro b;unfold Ba.J1
  repeat' first|exact tR trivial|exact j2 _|refine tI (λ_=> ?_) λ_=> ?_
 unfold Ba
 exact tI (λ_=>j1 _) λ_=>j1 _
def dT (T:ABq->Prop) (k:Nat) (l:List AP):Prop:=l.length≤10/\∀x∈l,K8 T k x
theorem K8.body {k:Nat} {s:AP} (h:K8 T (k+1) s):dT T k s.Body:=⟨by have:=h.2.2.2.2.1;omega,h.2.2.2.2.2.2.1⟩
theorem K8.els {k:Nat} {s:AP} (h:K8 T (k+1) s):dT T k s.Else:=⟨by have:=h.2.2.2.2.2.1;omega,h.2.2.2.2.2.2.2.1⟩
theorem rK (d:Nat):∀(n:Nat) (l:List AP),2*d+1≤n->dT T d l->TT (HP n l):=by
 induction d with
 |zero=>
  intro n l hn ⟨_,h⟩
  obtain⟨n,rfl⟩:∃k,n=k+1:=⟨n-1,by omega⟩
  have:l=[]:=ABj.2 λx hx=>(h x hx).elim
  subst this
  show TT (DU (Li n) [])
  exact tR trivial
 |succ d ih=>
  intro n l hn ⟨h1,h2⟩
  obtain⟨n,rfl⟩:∃k,n=k+2:=⟨n-2,by omega⟩
  show TT (DU (Li (n+1)) l)
  unfold DU
  refine tL l.length (by omega) λm i hi k=> ?_
  unfold DU.Aa DU.L1 DU.J1
  refine tD (λ_=>tG (by omega) λx hx=> ?_) λ_=>tR trivial
  refine NN (sY (R:=HP n) (h2 x hx) (ih n _ (by omega) (h2 x hx).body) (ih n _ (by omega) (h2 x hx).els)) λ_=>tI (λ_=>tR trivial) λ_=>k (by omega)
def XO:List ABq:=[⟨#[109,97,105,110]⟩,⟨#[116,49]⟩,⟨#[116,50]⟩,⟨#[116,51]⟩]
def sB:List ABq:=[⟨#[97]⟩,⟨#[98]⟩]
structure MP (p:AQ):Prop where
 d:G0=some p.Decls
 t:p.AA.length≤4
 l:∀t∈p.AA,t.HB.length≤2
 b:∀t∈p.AA,dT (λs=>s∈p.AA.map (·.Name)) 4 t.Body
 nm:∃n,1≤n/\n≤4/\p.AA.map (·.Name)=XO.take n
 lo:∀t∈p.AA,t.HB=sB
theorem MP.dl {p:AQ} (h:MP p):p.Decls.length=9:=by
 have h:=h.d
 unfold G0 at h
 rw[← AAR h];rfl
theorem sZ {p:AQ} (h:MP p):TT (D3 p):=by
 have hd:=h.dl;have ht:=h.t
 have j3:∀{F:Int->ABp Bool} {i:Int} (b:Bool),TT (F (Ap (i+1)))->TT (D3.J3 F i b):=by
  intro F i b k;unfold D3.J3 D3.J4
  exact tI (λ_=>tR trivial) λ_=>k
 unfold D3
 refine tL 9 (by omega) λm i hi k=> ?_
 unfold D3.Aa D3.L1 D3.J1
 refine tD (λ_=>tG (by omega) λx hx=>NN (zO x) λ_=>tI (λ_=>tR trivial) λ_=>k (by omega)) λ_=>tL p.AA.length (by omega) λm i hi k=> ?_
 unfold D3.C2 D3.L2 D3.J5
 refine tD (λ_=>tG (by omega) λx hx=>tL x.HB.length (by have:=h.l x hx;omega) λm i hi k2=> ?_) λ_=>tR trivial
 unfold D3.Gm D3.L3 D3.J2
 refine tD (λ_=>tG (by omega) λx hx=>NN (WO _) λ_=>tI (λ_=>tR trivial) λ_=>k2 (by omega)) λ_=>NN (WO _) λ_=>tI (λ_=>j3 _ (k (by omega))) λ_=>NN (rK 4 _ _ (XR (by omega)) (h.b x hx)) λ_=>j3 _ (k (by omega))
end
section
variable {T:ABq->Prop}
theorem eF (l:List EM) (s:ABq) (hl:l.length<1000000):D6 (DJ l s) λr=> -1≤r/\r<l.length:=by
 unfold DJ
 refine tL l.length (by omega) λn i hi k=> ?_
 unfold DJ.Aa DJ.L1 DJ.J1
 exact tD (λ_=>tG (by omega) λx _=>tI (λ_=>tR (by omega)) λ_=>k (by omega)) λ_=>tR (by omega)
theorem Uy (l:List CZ) (s:ABq) (hl:l.length<1000000):D6 (Cu l s) λr=> -1≤r/\r<l.length:=by
 unfold Cu
 refine tL l.length (by omega) λn i hi k=> ?_
 unfold Cu.Aa Cu.L1 Cu.J1
 exact tD (λ_=>tG (by omega) λx _=>tI (λ_=>tR (by omega)) λ_=>k (by omega)) λ_=>tR (by omega)
theorem decls_tot {p:AQ} (h:MP p):TT (Hp p.Decls):=by
 have hd:=h.dl
 have key:D6 (G0.bind Hp) λ_=>True:=⟨(0,0),by decide +kernel,trivial⟩
 rw[h.d]at key
 exact key
theorem rE {p:AQ} (h:MP p):TT (DO p):=by
 have hd:=h.dl;have ht:=h.t
 have j1:∀{F:Int->ABp (Int×Int)} {i:Int} {x:CZ} (b:Bool),TT (F (Ap (i+1)))->TT (DO.J1 F i x b):=by
  intro F i x b k;unfold DO.J1
  exact tI (λ_=>tR trivial) λ_=>k
 have j3:∀{F:Int->ABp (Int×Int)} {i:Int} {x:CZ} (b:Bool),TT (F (Ap (i+1)))->TT (DO.J3 F i x b):=by
  intro F i x b k;unfold DO.J3
  exact tI (λ_=>tR trivial) λ_=>k
 unfold DO
 refine tL p.AA.length (by omega) λn i hi k=> ?_
 unfold DO.Aa DO.L1 DO.J2
 refine tD (λ_=>tG (by omega) λx hx=>tB (eF _ _ (by omega)) λ_ _=>tI (λ_=>j1 _ (k (by omega))) λ_=>tC (by omega) (tB (Uy _ _ (by simp;omega)) λ_ _=>j1 _ (k (by omega)))) λ_=> ?_
 refine tL p.AA.length (by omega) λn i hi k=> ?_
 unfold DO.C2 DO.L2
 refine tD (λ_=>tG (by omega) λx hx=>tI (λ_=>tR trivial) λ_=>tL x.HB.length (by have:=h.l x hx;omega) λm j hj k2=> ?_) λ_=>tR trivial
 have hl:=h.l x hx
 unfold DO.Gm DO.L3 DO.J4
 refine tD (λ_=>tG (by omega) λy hy=>tB (eF _ _ (by omega)) λ_ _=>tI (λ_=>j3 _ (k2 (by omega))) λ_=>tB (Uy _ _ (by omega)) λ_ _=>tI (λ_=>j3 _ (k2 (by omega))) λ_=>tC (by omega) (tB (Yw _ _ (by simp;omega)) λ_ _=>j3 _ (k2 (by omega)))) λ_=>k (by omega)
theorem Count_tot (d:Nat):∀(n:Nat) (l:List AP),d+1≤n->dT T d l->TT (IF n l):=by
 induction d with
 |zero=>
  intro n l hn ⟨_,h⟩
  obtain⟨n,rfl⟩:∃k,n=k+1:=⟨n-1,by omega⟩
  have:l=[]:=ABj.2 λx hx=>(h x hx).elim
  subst this
  show TT (EU (IF n) [])
  exact tR trivial
 |succ d ih=>
  intro n l hn ⟨h1,h2⟩
  obtain⟨n,rfl⟩:∃k,n=k+1:=⟨n-1,by omega⟩
  show TT (EU (IF n) l)
  unfold EU
  refine XN l.length (λ_ _=>True) (F:=λn s i=>EU.Aa _ l n s i) (by omega) trivial λm i s hi _ k=> ?_
  unfold EU.Aa EU.L1 EU.J1
  exact tD (λ_=>tG (by omega) λx hx=>NN (ih n _ (by omega) (h2 x hx).body) λ_=>NN (ih n _ (by omega) (h2 x hx).els) λ_=>k _ (by omega) trivial) λ_=>tR trivial
theorem inside_tot {wv:BA} (h:wv.GH.length≤100) (a b:Int) (s:ABq):D6 (Bj wv a b s) λr=>r.2=wv:=by
 have j1:∀{F:Int->ABp (Bool×BA)} {i:Int} (b:Bool),D6 (F (Ap (i+1))) (λr=>r.2=wv)->D6 (Bj.J1 F i wv b) λr=>r.2=wv:=by
  intro F i b k;unfold Bj.J1
  exact tI (λ_=>tR rfl) λ_=>k
 unfold Bj
 refine tL wv.GH.length (by omega) λn i hi k=> ?_
 unfold Bj.Aa Bj.L1 Bj.J2
 refine tD (λ_=>tG (by omega) λx hx=> ?_) λ_=>tR rfl
 repeat' first|exact j1 _ (k (by omega))|refine tI (λ_=> ?_) λ_=> ?_
theorem KindOf_tot {p:AQ} (h:MP p) (t:Int) (s:ABq):TT (Ft p t s):=by
 have hd:=h.dl;have ht:=h.t
 have j1:∀b,TT (Ft.J1 p s b):=by
  intro b;unfold Ft.J1
  refine tI (λ_=>tR trivial) λ_=>tB (eF _ _ (by omega)) λv hv=>tD (λ_=>tB (Uy _ _ (by omega)) λ_ _=>tI (λ_=>tR trivial) λ_=>tR trivial) λ_=>tG (by omega) λx _=> ?_
  have j2:∀b,TT (Ft.J2 p v b):=by
   intro b;unfold Ft.J2
   exact tI (λ_=>tG (by omega) λ_ _=>tR trivial) λ_=>tR trivial
  repeat' first|exact tR trivial|exact j2 _|refine tI (λ_=> ?_) λ_=> ?_
 unfold Ft
 exact tD (λ_=>tD (λ_=>tG (by omega) λx hx=>tB (Yw _ _ (by have:=h.l x hx;omega)) λ_ _=>j1 _) λ_=>j1 _) λ_=>j1 _
theorem UG {p:AQ} (h:MP p) (t:Int) (s:ABq) (a b:Int):TT (DH p t s a b):=by
 unfold DH DH.J1
 refine NN (KindOf_tot h t s) λ_=> ?_
 repeat' first|exact tR trivial|refine tI (λ_=> ?_) λ_=> ?_
theorem Nodes_tot (d:Nat):∀(n:Nat) (e:A4),d≤n->dE d e->TT (Kr n e):=by
 induction d with
 |zero=>exactλn e _ h=>h.elim
 |succ d ih=>
  intro n e hn ⟨h1,h2⟩
  obtain⟨n,rfl⟩:∃k,n=k+1:=⟨n-1,by omega⟩
  show TT (Gf (Kr n) e)
  unfold Gf
  refine XN e.L.length (λ_ _=>True) (F:=λn (s:Int×Int) i=>Gf.Aa _ e n s.1 s.2 i) (by omega) (s0:=(1,0)) trivial λm i s hi _ k=> ?_
  unfold Gf.Aa Gf.L1 Gf.J1
  exact tD (λ_=>tG (by omega) λx hx=>NN (ih n x (by omega) (h2 x hx)) λv=>k (_,_) (by omega) trivial) λ_=>tR trivial
theorem names_tot {p:AQ} (h:MP p) (t:Int) (d:Nat):∀(n:Nat) (e:A4),d≤n->dE d e->TT (KE n p t e):=by
 induction d with
 |zero=>exactλn e _ h=>h.elim
 |succ d ih=>
  intro n e hn ⟨h1,h2⟩
  obtain⟨n,rfl⟩:∃k,n=k+1:=⟨n-1,by omega⟩
  show TT (Fi (KE n) p t e)
  have j1:∀r,TT (Fi.J1 (KE n) e p t r):=by
   intro r;unfold Fi.J1
   refine XN e.L.length (λ_ _=>True) (F:=λm s i=>Fi.Aa _ e p t m s i) (by omega) trivial λm i s hi _ k=> ?_
   unfold Fi.Aa Fi.L1 Fi.J2 Fi.J3
   exact tD (λ_=>tI (λ_=>tG (by omega) λx hx=>NN (ih n x (by omega) (h2 x hx)) λv=>k _ (by omega) trivial) λ_=>tR trivial) λ_=>tI (λh=>by cases h) λ_=>tR trivial
  unfold Fi
  exact tI (λ_=>NN (UG h _ _ _ _) λ_=>j1 _) λ_=>tI (λ_=>NN (UG h _ _ _ _) λ_=>j1 _) λ_=>j1 _
theorem Expr_tot {p:AQ} (h:MP p) (t:Int) {e:A4} (he:dE 2 e):TT (FZ p t e):=by
 have j1:∀b,TT (FZ.J1 e p t b):=by
  intro b;unfold FZ.J1
  exact tI (λ_=>tR trivial) λ_=>NN (names_tot h t 2 _ e (XR (by omega)) he) λ_=>tR trivial
 unfold FZ
 exact NN (SE_tot he) λ_=>tI (λ_=>tR trivial) λ_=>NN (Nodes_tot 2 _ e (XR (by omega)) he) λ_=>tI (λ_=>j1 _) λ_=>j1 _
theorem ZO (a b:Int):TT (E0 a b):=by
 unfold E0;exact tI (λ_=>tR trivial) λ_=>tR trivial
theorem Oi (b:Bool):TT (Bm b):=by
 unfold Bm;exact tI (λ_=>tR trivial) λ_=>tR trivial
structure WK (p:AQ) (A K:Nat) (wv:BA):Prop where
 p:wv.p=p
 a:wv.GH.length=A
 s:wv.LM.length≤K
 t:wv.XM.length≤K
theorem WK.mono {p:AQ} {A K L:Nat} {wv:BA} (h:WK p A K wv) (hl:K≤L):WK p A L wv:=⟨h.p,h.a,by have:=h.s;omega,by have:=h.t;omega⟩
theorem one_tot {p:AQ} (h:MP p) {A K:Nat} {wv:BA} (hw:WK p A K wv) (hA:A≤100) (hK:K≤900000) {k:Nat} {s:AP} (hs:K8 T (k+1) s):D6 (B2 wv s) λr=>WK p A (K+1) r.2:=by
 have hd:=h.dl;have ht:=h.t;have ha:=hw.a;have h1:=hw.s;have h2:=hw.t
 obtain rfl:=hw.p
 have W:WK wv.p A (K+1) wv:=hw.mono (by omega)
 have I:=λa b s=>inside_tot (wv:=wv) (by omega) a b s
 have E:=Expr_tot h wv.BV hs.e
 have j12:∀(b:Bool) e,D6 (B2.J12 s (b,wv) wv e) λr=>WK wv.p A (K+1) r.2:=by
  intro b e;unfold B2.J12
  exact tC (DK (by simp only;omega)) (NN E λ_=>NN (ZO _ _) λ_=>tR ⟨rfl,ha,W.s,by simp;omega⟩)
 have j11:∀(b c:Bool) e,D6 (B2.jJ e s (b,wv) wv c) λr=>WK wv.p A (K+1) r.2:=by
  intro b c e;unfold B2.jJ
  exact tI (λ_=>j12 _ _) λ_=>j12 _ _
 have j10:∀(b:Bool) e,D6 (B2.Th s (b,wv) wv e) λr=>WK wv.p A (K+1) r.2:=by
  intro b e;unfold B2.Th
  exact tI (λ_=>tB (Yw _ _ (by simp only;omega)) λ_ _=>j11 _ _ _) λ_=>j11 _ _ _
 have j8:∀(b c:Bool),D6 (B2.J8 s (b,wv) c) λr=>WK wv.p A (K+1) r.2:=by
  intro b c;unfold B2.J8
  exact tI (λ_=>tR W) λ_=>tB (Yw _ _ (by simp only;omega)) λ_ _=>tI (λ_=>tR W) λ_=>tC (DK (by simp only;omega)) (tR ⟨rfl,ha,by simp;omega,W.t⟩)
 have hc:s.Op∈[(9:Int),10,11]->D6 (DJ wv.p.Decls s.Name) λr=>0≤r/\r<9:=by
  intro ho
  rw[hs.2.2.2.1 ho]
  have key:G0.bind (λl=>DJ l cN)=some 7:=by decide +kernel
  rw[h.d]at key
  exact⟨7,key,by omega⟩
 have j6:∀(b c d t:Bool),(t=true->s.Op∈[(9:Int),10,11])->D6 (B2.J6 s (b,wv) (c,wv) (d,wv) wv t) λr=>WK wv.p A (K+1) r.2:=by
  intro b c d t h9;unfold B2.J6 B2.J7 B2.J9
  refine tI (λht=>NN (UG h _ _ _ _) λ_=>tI (λ_=>tR W) λ_=>tB (hc (h9 ht)) λ_ _=>tG (by omega) λx _=>tB (I _ _ _) ?_) λ_=> ?_
  . rintro⟨e,_⟩ rfl
    repeat' first|exact tR W|refine NN (Oi _) λ_=> ?_|refine tI (λ_=> ?_) λ_=> ?_
  . repeat' first|exact tR W|refine NN (UG h _ _ _ _) λ_=> ?_|refine NN (Oi _) λ_=> ?_|refine NN (ZO _ _) λ_=> ?_|exact j8 _ _|exact j10 _ _|refine tB (Uy _ _ (by omega)) λ_ _=> ?_|refine tI (λ_=> ?_) λ_=> ?_
 have j3:∀(b c d t:Bool),D6 (B2.J3 s (b,wv) (c,wv) (d,wv) wv t) λr=>WK wv.p A (K+1) r.2:=by
  intro b c d t;unfold B2.J3 B2.J4 B2.J5
  refine tI (λht=>NN (UG h _ _ _ _) λ_=>tI (λ_=>NN (Oi _) λ_=>NN (ZO _ _) λ_=>tR W) λ_=>tB (I _ _ _) ?_) λ_=> ?_
  . rintro⟨e,_⟩ rfl
    exact NN (Oi _) λ_=>NN (ZO _ _) λ_=>tR W
  . repeat' first|exact tR W|refine NN (Oi _) λ_=> ?_|exact j6 _ _ _ _ (λh=>by simp_all)|refine tI (λ_=> ?_) λ_=> ?_
 have j1:∀(b c d t:Bool),D6 (B2.J1 s (b,wv) (c,wv) (d,wv) wv t) λr=>WK wv.p A (K+1) r.2:=by
  intro b c d t;unfold B2.J1 B2.J2
  refine tI (λht=>NN E λ_=>tR W) λ_=>tI (λ_=>NN (UG h _ _ _ _) λ_=>tI (λ_=>NN (Oi _) λ_=>NN (ZO _ _) λ_=>tR W) λ_=>tB (I _ _ _) ?_) λ_=>tI (λ_=>j3 _ _ _ _) λ_=>j3 _ _ _ _
  rintro⟨e,_⟩ rfl
  exact NN (Oi _) λ_=>NN (ZO _ _) λ_=>tR W
 unfold B2
 refine tB (I _ _ _) ?_
 rintro⟨b,w⟩ e
 obtain rfl:wv=w:=e.symm
 refine tB (I _ _ _) ?_
 rintro⟨c,w⟩ e
 obtain rfl:wv=w:=e.symm
 refine tB (I _ _ _) ?_
 rintro⟨d,w⟩ e
 obtain rfl:wv=w:=e.symm
 refine tI (λ_=> ?_) λ_=>tI (λ_=>j1 _ _ _ _) λ_=>j1 _ _ _ _
 refine tI (λ_=>NN (UG h _ _ _ _) λ_=>NN E λ_=>NN (ZO _ _) λ_=>tR W) λhi=>NN (UG h _ _ _ _) λ_=> ?_
 rcases hs.i with e|⟨a,e,ha⟩
 . rw[e]at hi;cases hi
 . rw[e]
   exact tE (y:=a) rfl (NN (Expr_tot h wv.BV ha) λ_=>NN E λ_=>NN (ZO _ _) λ_=>NN (ZO _ _) λ_=>tR W)
def MS:Nat->Nat
 |0=>0
 |d+1=>1+20*MS d
theorem all_tot {p:AQ} (h:MP p) (d:Nat):∀(n A K:Nat) (wv:BA) (l:List AP),d+1≤n->A+d≤50->K+10*MS d≤900000->WK p A K wv->dT T d l->D6 (GY n wv l) λr=>WK p A (K+10*MS d) r.2.2:=by
 induction d with
 |zero=>
  intro n A K wv l hn hA hK hw ⟨_,h⟩
  obtain⟨n,rfl⟩:∃k,n=k+1:=⟨n-1,by omega⟩
  have:l=[]:=ABj.2 λx hx=>(h x hx).elim
  subst this
  show D6 (Cv (GY n) wv []) _
  exact tR hw
 |succ d ih=>
  intro n A K wv l hn hA hK hw ⟨h1,h2⟩
  obtain⟨n,rfl⟩:∃k,n=k+1:=⟨n-1,by omega⟩
  show D6 (Cv (GY n) wv l) _
  unfold Cv
  have hc:MS (d+1)=1+20*MS d:=rfl
  refine XN l.length (λi wv=>WK p A (K+i*MS (d+1)) wv) (F:=λn s i=>Cv.Aa _ l n s i) (by omega) (by simpa using hw) λm i s hi hs k=> ?_
  have hm:i*MS (d+1)≤10*MS (d+1):=ABN _ (by omega)
  have fin:∀{w},WK p A (K+i*MS (d+1)) w->WK p A (K+10*MS (d+1)) w:=λh=>h.mono (by omega)
  unfold Cv.Aa Cv.L1 Cv.J3
  refine tD (λD5=>tG (by omega) λx hx=>tB (one_tot h hs (by omega) (by omega) (h2 x hx)) λv hv=> ?_) λ_=>tR (fin hs)
  have U9:(i+1)*MS (d+1)≤10*MS (d+1):=ABN _ (by omega)
  have he:(i+1)*MS (d+1)=i*MS (d+1)+MS (d+1):=ABa _ _
  have j2:∀(w:BA) (e c:Int),WK p (A+1) (K+(i+1)*MS (d+1)) w->D6 (Cv.J2 (Cv.Aa (GY n) l m) i w e c) λr=>WK p A (K+10*MS (d+1)) r.2.2:=by
   intro w e c hw
   have ha:=hw.a
   unfold Cv.J2
   rw[DR (n:=(w.GH.length:Int)-1) (by omega) (by omega)]
   have wk:WK p A (K+(i+1)*MS (d+1)) (BA.mk w.p w.BV (w.GH.take ((w.GH.length:Int)-1).toNat) w.LM w.XM):=⟨hw.p,by simp;omega,hw.s,hw.t⟩
   exact tC (by omega) (tI (λ_=>tR (wk.mono (by omega))) λ_=>k _ (by omega) wk)
  have j1:∀e,D6 (Cv.J1 (Cv.Aa (GY n) l m) (GY n) i v x e) λr=>WK p A (K+10*MS (d+1)) r.2.2:=by
   intro e
   have ha:=hv.a
   unfold Cv.J1
   refine tI (λ_=>tR (hv.mono (by omega))) λ_=>tC (DK (by omega)) (tG (by simp;omega) λ_ _=> ?_)
   refine tB (ih n (A+1) (K+i*MS (d+1)+1) _ _ (by omega) (by omega) (by omega) ⟨hv.p,by simp;omega,hv.s,hv.t⟩ (h2 x hx).body) λv1 hv1=> ?_
   refine tI (λ_=> ?_) λ_=>j2 _ _ _ (hv1.mono (by omega))
   exact tB (ih n (A+1) _ _ _ (by omega) (by omega) (by omega) hv1 (h2 x hx).els) λv2 hv2=>j2 _ _ _ (hv2.mono (by omega))
  exact tI (λ_=>j1 _) λ_=>j1 _
theorem check_tot {p:AQ} (h:MP p):TT (Bg p):=by
 have hd:=h.dl;have ht:=h.t
 have hc:MS 4=8421:=rfl
 unfold Bg
 refine NN (sZ h) λ_=>tI (λ_=>tR trivial) λ_=>NN (decls_tot h) λ_=>tI (λ_=>tR trivial) λ_=>tI (λ_=>tR trivial) λ_=>NN (rE h) λ_=>tI (λ_=>tR trivial) λ_=> ?_
 refine XN p.AA.length (λ_ _=>True) (F:=λn s i=>Bg.Aa p n s i) (by omega) trivial λm i s hi _ k=> ?_
 unfold Bg.Aa Bg.L1 Bg.J1
 refine tD (λ_=>tG (by omega) λx hx=>NN (Count_tot 4 _ _ (XR (by omega)) (h.b x hx)) λ_=>k _ (by omega) trivial) λ_=>tI (λ_=>tR trivial) λ_=> ?_
 refine XN p.AA.length (λi w=>WK p 0 (i*84210) w) (F:=λn s i=>Bg.C2 p n s i) (by omega) ⟨rfl,rfl,by simp,by simp⟩ λm i s hi hs k=> ?_
 unfold Bg.C2 Bg.L2 Bg.J2
 refine tD (λD5=>tG (by omega) λx hx=> ?_) λ_=>tR trivial
 refine tB (all_tot h 4 _ 0 (i*84210) _ _ (XR (by omega)) (by omega) (by omega) ⟨hs.p,hs.a,hs.s,hs.t⟩ (h.b x hx)) λv hv=>tI (λ_=>tR trivial) λ_=>k _ (by omega) (hv.mono (by omega))
end
section
variable {T:ABq->Prop}
structure MK1 (N i:Nat) (m:AM) (p:AQ):Prop where
 t:OG m.t
 h:m.held=[]
 d:G0=some p.Decls
 n:p.AA.length=i
 b:∀t∈p.AA,dT (λs=>s∈XO.take N) 4 t.Body
 nm:p.AA.map (·.Name)=XO.take i
 lo:∀t∈p.AA,t.HB=sB
theorem take_thr {i:Nat} (h:i<XO.length):XO.take i++[XO[i]]=XO.take (i+1):=AAk h
abbrev MPO (p:AQ):Prop:=MP p/\∃l,Bg p=some (0,l)
theorem Program_tot {l:List Int} (hl:l.length≤4000000000000000000) (hu:∀x∈l,0≤x/\x<256):D6 (C5 l) MPO:=by
 have hd:∃D,G0=some D:=⟨_,rfl⟩
 obtain⟨D,hD⟩:=hd
 have h4:XO.length=4:=rfl
 unfold C5
 refine tE hD (tB (Kv (t:=⟨l,0⟩) ⟨hl,by simp,hu⟩ (by omega)) ?_)
 rintro⟨v,tp⟩ ⟨hv,htp⟩
 simp only at hv htp
 have hw:Ap (2+v)=2+v:=DR (by omega) (by omega)
 refine XN (2+v).toNat (λi (s:AM×AQ)=>MK1 (2+v).toNat i s.1 s.2) (F:=λn s i=>C5.Aa (v,tp) n s.1 s.2 i) (by omega) (s0:=(_,_)) ⟨htp,rfl,hD,rfl,by simp,rfl,by simp⟩ λn i s hi hs k=> ?_
 unfold C5.Aa C5.L1
 simp only[hw]
 -- the end
 have j5:¬(i:Int)<2+v->D6 (C5.J5 s.2) MPO:=by
  intro l8
  have hi:i=(2+v).toNat:=by omega
  have hm:MP s.2:=⟨hs.d,by have:=hs.n;omega,λt ht=>by rw[hs.lo t ht];simp[sB],by rw[hs.nm,hi];exact hs.b,⟨i,by omega,by omega,hs.nm⟩,hs.lo⟩
  unfold C5.J5 Kh Fh
  obtain⟨q,hq,_⟩:=check_tot hm
  refine tE hq (tI (λ_=>tE hD ?_) λh=>tR ⟨hm,q.2,hq.trans (congrArg some (Prod.ext (by simpa using h) rfl))⟩)
  simp only[AAO]
  have key:G0.bind (λD=>Bg ⟨D,[⟨⟨#[109,97,105,110]⟩,0,[⟨#[97]⟩,⟨#[98]⟩],[⟨1,0,⟨#[120]⟩,⟨#[]⟩,[],⟨1,1,⟨#[]⟩,[]⟩,[],[]⟩]⟩]⟩)=some (0,0):=by decide +kernel
  rw[hD,AAO]at key
  refine tR ⟨⟨hD,by simp,by simp,?_,⟨1,by omega,by omega,rfl⟩,by simp[sB]⟩,0,key⟩
  simp only[AA4,forall_eq]
  refine⟨by simp,?_⟩
  simp only[AA4,forall_eq]
  exact VL (.inl ⟨rfl,rfl⟩) (yH (by decide)) _
 have j3:∀m t,(hi:i<(2+v).toNat)->OG m.t->m.held=[]->(t.HB=sB/\t.Name=XO[i]'(by omega))->dT (λs=>s∈XO.take (2+v).toNat) 4 t.Body->D6 (C5.J3 (λm p i=>C5.Aa (v,tp) n m p i) i s.2 m t) MPO:=by
  intro m t h0 h1 h2 h3 h4
  unfold C5.J3 C5.J4
  have hn:=hs.n
  refine tC (DK (by omega)) (k (m,_) h0 ⟨h1,h2,hs.d,by simp;omega,?_,?_,?_⟩)
  . simp only[AAj,AA4]
    rintro x (hx|rfl)
    . exact hs.b x hx
    . exact h4
  . simp only[AA9,hs.nm,AAg,AA2,h3.2]
    exact take_thr _
  . simp only[AAj,AA4]
    rintro x (hx|rfl)
    . exact hs.lo x hx
    . exact h3.1
 have j1:∀t,(hi:i<(2+v).toNat)->(t.HB=sB/\t.Name=XO[i]'(by omega))->t.Body.length≤3->(∀x∈t.Body,K8 (λs=>s∈XO.take (2+v).toNat) 4 x)->D6 (C5.J1 (λm p i=>C5.Aa (v,tp) n m p i) i s.1 s.2 t) MPO:=by
  intro t h0 h1 h2 h3
  have hh:s.1.held=[]:=hs.h
  unfold C5.J1
  refine tB (Kv hs.t (by omega)) λa ha=> ?_
  rw[DR (n:=1+a.1) (by omega) (by omega)]
  have hb:=B1
  obtain⟨b1,hb1⟩:∃n,BT=n+1:=⟨BT-1,by omega⟩
  rw[hb1]
  refine tB ((made_tot (T:=λs=>s∈XO.take (2+v).toNat) 2 0 b1 (by omega) (by omega) (by omega)).2 (AM.mk a.2 i s.1.left s.1.HY s.1.tx s.1.atomic s.1.loop s.1.held) (1+a.1) ⟨ha.2,by rw[show _=s.1.held from rfl,hh];simp⟩ (by omega)) λb hb=> ?_
  obtain⟨⟨g1,g2⟩,g3⟩:=hb
  have hb2:b.2.held=[]:=g3.h.trans hh
  have g0:∀x∈t.Body++b.1,K8 (λs=>s∈XO.take (2+v).toNat) 4 x:=λx hx=>(AAj.1 hx).elim (h3 x) (g2 x)
  refine tC (DK (by omega)) (tI (λ_=>tB (Kv g3.t (by omega)) λc hc=> ?_) λ_=> ?_)<;>unfold C5.J2
  . refine tI (λ_=>tC (DK (by simp;omega)) (j3 _ _ h0 hc.2 hb2 h1 ⟨by simp;omega,?_⟩)) λ_=>j3 _ _ h0 hc.2 hb2 h1 ⟨by simp;omega,g0⟩
    intro x hx
    rcases AAj.1 hx with hx|hx
    . exact g0 x hx
    . rw[AA4.1 hx]
      refine cB (by decide) (by decide) (by decide) ⟨by simp,by simp,by simp,λ_=> ?_,by simp,by simp⟩
      exact List.mem_take_iff_getElem.2 ⟨1,by omega,rfl⟩
  . exact tI (λh=>by cases h) λ_=>j3 _ _ h0 g3.t hb2 h1 ⟨by simp;omega,g0⟩
 refine tD (λh=>jM (l:=XO) (by omega) (tI (λ_=> ?_) λ_=>j1 _ (by omega) ⟨rfl,rfl⟩ (by simp) (by simp))) j5
 refine tLk (2+v).toNat 1 (λk (t:CZ)=>(t.HB=sB/\t.Name=XO[i]'(by omega))/\t.Body.length+1≤k/\∀x∈t.Body,K8 (λs=>s∈XO.take (2+v).toNat) 4 x) (F:=λn t k=>C5.C2 _ _ _ _ _ n t k) (by omega) (by omega) ⟨⟨rfl,rfl⟩,by simp,by simp⟩ λm q t hq ht k2=> ?_
 obtain⟨t1,t2,t3⟩:=ht
 unfold C5.C2 C5.L2
 simp only[hw]
 refine tD (λ_=>jM (l:=XO) (by omega) (tC (DK (by omega)) (k2 _ (by omega) ⟨t1,by simp;omega,?_⟩))) λ_=>j1 _ (by omega) t1 (by omega) t3
 intro x hx
 rcases AAj.1 hx with hx|hx
 . exact t3 x hx
 . rw[AA4.1 hx]
   refine cB (by decide) (by decide) (by simp) ⟨by simp,by simp,by simp,λ_=> ?_,by simp,by simp⟩
   exact List.mem_take_iff_getElem.2 ⟨q,by omega,rfl⟩
theorem Choices_tot {l:List Int} (hl:l.length≤1000):D6 (Fq l) λr=>r.length≤l.length:=by
 unfold Fq
 refine XN l.length (λi (s:List BK)=>s.length≤i) (F:=λn s i=>Fq.Aa l n s i) (by omega) (by simp) λn i s hi hs k=> ?_
 unfold Fq.Aa Fq.L1 Fq.J1
 exact tD (λ_=>tG (by omega) λx _=>tC (DK (by omega)) (k _ (by omega) (by simp;omega))) λ_=>tR (by omega)
theorem sites_tot (d:Nat):∀(n K:Nat) (o:List DL) (t nv:Int) (l:List AP),d+1≤n->K+10*MS d≤900000->o.length≤K->dT T d l->D6 (IG n o t nv l) λr=>r.1.length≤K+10*MS d:=by
 induction d with
 |zero=>
  intro n K o t nv l hn hK hw ⟨_,h⟩
  obtain⟨n,rfl⟩:∃k,n=k+1:=⟨n-1,by omega⟩
  have:l=[]:=ABj.2 λx hx=>(h x hx).elim
  subst this
  show D6 (EV (IG n) o t nv []) _
  exact tR hw
 |succ d ih=>
  intro n K o t nv l hn hK hw ⟨h1,h2⟩
  obtain⟨n,rfl⟩:∃k,n=k+1:=⟨n-1,by omega⟩
  show D6 (EV (IG n) o t nv l) _
  unfold EV
  have hc:MS (d+1)=1+20*MS d:=rfl
  refine XN l.length (λi (s:List DL×Int)=>s.1.length≤K+i*MS (d+1)) (F:=λm s i=>EV.Aa _ l t m s.1 s.2 i) (s0:=(o,nv)) (by omega) (by simpa using hw) λm i s hi hs k=> ?_
  have hm:i*MS (d+1)≤10*MS (d+1):=ABN _ (by omega)
  unfold EV.Aa EV.L1 EV.J1
  refine tD (λD5=>tG (by omega) λx hx=>tC (DK (by omega)) ?_) λ_=>tR (by simp only;omega)
  have U9:(i+1)*MS (d+1)≤10*MS (d+1):=ABN _ (by omega)
  have he:(i+1)*MS (d+1)=i*MS (d+1)+MS (d+1):=ABa _ _
  refine tB (ih n (K+i*MS (d+1)+1) _ _ _ _ (by omega) (by omega) (by simp;omega) (h2 x hx).body) λv hv=> ?_
  refine tB (ih n _ _ _ _ _ (by omega) (by omega) hv (h2 x hx).els) λw hw=>k (_,_) (by omega) (by simp only;omega)
structure MW (w:AD):Prop where
 q:D6 (CJ w qS) λr=>0≤r/\r<w.Cells.length
 c:w.Cells.length≤100
 l:w.AG.length≤100
 d:w.Af.length≤100
 f:w.AK.length≤100
 t:w.AA.length≤4
def QU:List DB:=[⟨⟨#[120]⟩,0,0,false,0⟩,⟨⟨#[121]⟩,0,0,false,1⟩,⟨⟨#[118]⟩,0,0,true,0⟩,⟨⟨#[113]⟩,0,2,false,0⟩,⟨⟨#[113]⟩,1,2,false,0⟩]
theorem World_tot {p:AQ} (h:MP p) (ho:∃l,Bg p=some (0,l)):D6 (DD p) MW:=by
 obtain⟨l,ho⟩:=ho
 have ht:=h.t
 have hc:MS 4=8421:=rfl
 unfold DD
 refine tE ho (tI (λh=>by cases h) λ_=> ?_)
 have key:∀D T,G0=some D->DD.Aa ⟨D,T⟩ BT (AD.mk [] [] [] [] [] []) 0=DD.J4 ⟨D,T⟩ ⟨QU,[⟨⟨#[109]⟩,false⟩,⟨⟨#[110]⟩,false⟩,⟨⟨#[114]⟩,true⟩],[⟨⟨#[99]⟩,0⟩],[⟨#[102]⟩],[],[]⟩:=by
  intro D T hD
  unfold G0 at hD
  obtain rfl:=AAR hD
  kernel_rfl
 rw[show DD.Aa p BT (AD.mk [] [] [] [] [] []) 0=_ from key p.Decls p.AA h.d]
 unfold DD.J4
 rw[show AQ.mk p.Decls p.AA=p from rfl]
 refine XN p.AA.length (λi w=>w.A7.length≤i*84210/\w.AA.length=i/\w.Cells=QU/\w.AG.length=3/\w.Af.length=1/\w.AK.length=1) (F:=λn s i=>DD.Gm _ n s i) (by omega) ⟨by simp,rfl,rfl,rfl,rfl,rfl⟩ λn i w hi hw k=> ?_
 obtain⟨w1,w2,w3,w4,w5,w6⟩:=hw
 unfold DD.Gm DD.L3 DD.J5
 refine tD (λ_=>tG (by omega) λx hx=>tC (DK (by omega)) (tB (sites_tot 4 _ (i*84210) _ _ _ _ (XR (by omega)) (by omega) w1 (h.b x hx)) λv hv=>k _ (by omega) ⟨by simp only;omega,by simp;omega,w3,w4,w5,w6⟩)) λ_=>tR ⟨?_,by rw[w3];decide,by omega,by omega,by omega,by omega⟩
 rw[w3]
 have key2:∀w:AD,w.Cells=QU->CJ w qS=some 3:=by
  intro w hw
  obtain⟨c,l,d,f,t,s⟩:=w
  simp only at hw
  subst hw
  kernel_rfl
 exact⟨3,key2 w w3,by omega,by decide⟩
end
section
variable {T:ABq->Prop}
structure GS (g:A5) (n:Nat) (r:A5):Prop where
 w:r.w=g.w
 l:r.locals=g.locals
 a:g.out.length≤r.out.length
 b:r.out.length≤g.out.length+n
structure GB (g:A5) (n:Nat):Prop where
 w:MW g.w
 l:g.locals.length≤2
 n:g.out.length+n≤8000000
theorem GS.refl (g:A5) (n:Nat):GS g n g:=⟨rfl,rfl,by omega,by omega⟩
theorem GS.trans {g h r:A5} {m n k:Nat} (a:GS g m h) (b:GS h n r) (hk:m+n≤k):GS g k r:=⟨b.w.trans a.w,b.l.trans a.l,by have:=a.a;have:=b.a;omega,by have:=a.b;have:=b.b;omega⟩
theorem GB.next {g h:A5} {m n k:Nat} (a:GB g k) (s:GS g m h) (hk:m+n≤k):GB h n:=⟨by rw[s.w];exact a.w,by rw[s.l];exact a.l,by have:=s.b;have:=a.n;omega⟩
theorem GB.less {g:A5} {n k:Nat} (a:GB g k) (hk:n≤k):GB g n:=a.next (GS.refl g 0) (by omega)
theorem dI {g:A5} (h:GB g 1) (i:Ab):D6 (A8 g i) λr=>GS g 1 r/\r.out.length=g.out.length+1:=by
 have:=h.n
 unfold A8
 exact tC (DK (by omega)) (tR ⟨⟨rfl,rfl,by simp,by simp⟩,by simp⟩)
theorem Oq {g:A5} (h:GB g 1) (i:Ab):D6 ((A8 g i).bind λv=>some v) (GS g 1):=tB (dI h i) λ_ h=>tR h.1
theorem sP {w:AD} (h:MW w) (s:ABq):TT (CJ w s):=by
 have hc:=h.c
 unfold CJ
 refine tL w.Cells.length (by omega) λn i hi k=> ?_
 unfold CJ.Aa CJ.L1 CJ.J1
 exact tD (λ_=>tG (by omega) λx _=>tI (λ_=>tR trivial) λ_=>k (by omega)) λ_=>tR trivial
theorem lockAt_tot {w:AD} (h:MW w) (s:ABq):TT (EY w.AG s):=by
 have hc:=h.l
 unfold EY
 refine tL w.AG.length (by omega) λn i hi k=> ?_
 unfold EY.Aa EY.L1 EY.J1
 exact tD (λ_=>tG (by omega) λx _=>tI (λ_=>tR trivial) λ_=>k (by omega)) λ_=>tR trivial
theorem cond_tot {g:A5} (h:MW g.w) (s:ABq):D6 (Cw g s) λr=>r.2=g:=by
 have hc:=h.d
 unfold Cw
 refine tL g.w.Af.length (by omega) λn i hi k=> ?_
 unfold Cw.Aa Cw.L1 Cw.J1
 exact tD (λ_=>tG (by omega) λx _=>tI (λ_=>tR rfl) λ_=>k (by omega)) λ_=>tR rfl
theorem cell_tot {w:AD} (h:MW w) {s:ABq} (hs:s=qS) {α:Type} {f:Int->DB->ABp α} {Q:α->Prop} (k:∀i c,D6 (f i c) Q):D6 ((CJ w s).bind λi=>(gt w.Cells i).bind (f i)) Q:=by
 rw[hs]
 exact tB h.q λi hi=>tG hi λc _=>k i c
theorem value_tot (d:Nat):∀(n:Nat) (g:A5) (e:A4) (r:Int),d≤n->Zw d e->GB g (3^d)->D6 (DP n g e r) (GS g (3^d)):=by
 induction d with
 |zero=>exactλn g e r _ h=>h.elim
 |succ d ih=>
  intro n g e r hn he hg
  obtain⟨n,rfl⟩:∃k,n=k+1:=⟨n-1,by omega⟩
  have hp:3^(d+1)=3*3^d:=by rw[Nat.pow_succ];omega
  have h0:0<3^d:=Nat.pow_pos (by omega)
  show D6 (HW (DP n) g e r) _
  have up:∀{r},GS g 1 r->GS g (3^(d+1)) r:=λh=>h.trans (GS.refl _ 0) (by omega)
  unfold HW
  rcases he with⟨e1,_⟩|⟨e1,_⟩|⟨e1,e2,a,e3,e4⟩|⟨e1,a,b,e3,e4,e5⟩
  . simp only[e1]
    exact tI (λ_=>tM (Oq (hg.less (by omega)) _) λ_=>up) λh=>by cases h
  . simp only[e1]
    refine tI (λh=>by cases h) λ_=>tI (λ_=>tB (Yw _ _ (by have:=hg.l;omega)) λ_ _=>tI (λ_=>tM (Oq (hg.less (by omega)) _) λ_=>up) λ_=> ?_) λh=>by cases h
    exact NN (sP hg.w _) λ_=>tM (Oq (hg.less (by omega)) _) λ_=>up
  . simp only[e1,e3]
    refine tI (λh=>by cases h) λ_=>tI (λh=>by cases h) λ_=>tI (λ_=>tE (y:=a) rfl ?_) λh=>by cases h
    refine tB (ih n g a r (by omega) e4 (hg.less (by omega))) λv hv=> ?_
    have hg2:GB v 1:=hg.next hv (by omega)
    exact cell_tot hg2.w e2 λi c=>tM (Oq hg2 _) λ_ h=>hv.trans h (by omega)
  . have n1:e.Op≠1:=λh=>by rw[h]at e1;simp at e1
    have n2:e.Op≠2:=λh=>by rw[h]at e1;simp at e1
    have n3:e.Op≠3:=λh=>by rw[h]at e1;simp at e1
    rw[AAX (by simpa using n1),AAX (by simpa using n2),AAX (by simpa using n3),e3]
    refine tI (λh=>by cases h) λ_=>tE (y:=a) rfl (tB (ih n g a r (by omega) e4 (hg.less (by omega))) λv hv=>tE (y:=b) rfl (tB (ih n v b _ (by omega) e5 (hg.next hv (by omega))) λu hu=> ?_))
    exact tM (Oq (hg.next (hv.trans hu (AAy _)) (by omega)) _) λ_ h=>(hv.trans hu (AAy _)).trans h (by omega)
theorem l6 {g:A5} {e:A4} (he:Zw 2 e) (hg:GB g 9) (r:Int):D6 (DP BT g e r) (GS g 9):=value_tot 2 _ g e r (XR (by omega)) he hg
theorem assign_tot {g:A5} (hg:GB g 30) {k:Nat} {s:AP} (hs:K8 T (k+1) s) (ho:s.Op=1):D6 (G3 g s) (GS g 30):=by
 have he:Zw 2 s.Expr:=hs.2.2.1.resolve_right λh=>h.1 (by simp[ho])
 unfold G3
 rcases hs.2.1 with h|⟨_,hq,a,h,ha⟩
 . rw[h]
   refine tI (λh=>by cases h) λ_=>tB (l6 he (hg.less (by omega)) _) λv hv=> ?_
   have h2:GB v 1:=hg.next hv (by omega)
   refine tB (Yw _ _ (by have:=h2.l;omega)) λ_ _=>tI (λ_=>tM (Oq h2 _) λ_ h=>hv.trans h (by omega)) λ_=>NN (sP h2.w _) λ_=>tM (Oq h2 _) λ_ h=>hv.trans h (by omega)
 . rw[h]
   refine tI (λ_=>tE (y:=a) rfl ?_) λh=>by cases h
   refine tB (l6 ha (hg.less (by omega)) _) λv hv=>tB (l6 he (hg.next hv (by omega)) _) λu hu=> ?_
   have h2:GB u 1:=hg.next (hv.trans hu (AAy _)) (by omega)
   exact cell_tot h2.w hq λi c=>tM (Oq h2 _) λ_ h=>(hv.trans hu (AAy _)).trans h (by omega)
def cg:Nat->Nat
 |0=>0
 |d+1=>40+20*cg d
theorem GS.site {g r:A5} {n:Nat} (h:GS g n r) (a b:Int):GS g n ⟨r.w,r.locals,r.out,a,b⟩:=⟨h.w,h.l,h.a,h.b⟩
theorem GS.set {g r:A5} {n:Nat} (h:GS g n r) (i:Nat) (x:Ab) (a b:Int):GS g n ⟨r.w,r.locals,r.out.set i x,a,b⟩:=⟨h.w,h.l,by simpa using h.a,by simpa using h.b⟩
section
variable {R:A5->List AP->ABp A5} {g:A5} {s:AP} {n:Nat}
theorem around_tot (hg:GB g (n+2)) (hR:∀g,GB g n->D6 (R g s.Body) (GS g n)) (a b c:Int):D6 (Es R g s a b c) (GS g (n+2)):=by
 unfold Es
 refine tB (dI (hg.less (by omega)) _) λv hv=>tB (hR v (hg.next hv.1 (by omega))) λu hu=> ?_
 have h1:GS g (n+1) ⟨u.w,u.locals,u.out,g.site,u.next⟩:=(hv.1.trans hu (by omega)).site _ _
 exact tM (Oq (hg.next h1 (by omega)) _) λ_ h=>h1.trans h (by omega)
theorem branches_tot (hg:GB g (2*n+11)) (he:Zw 2 s.Expr) (hR:∀g,GB g n->D6 (R g s.Body) (GS g n)) (hE:∀g,GB g n->D6 (R g s.Else) (GS g n)):D6 (EP R g s) (GS g (2*n+11)):=by
 unfold EP
 refine tB (l6 he (hg.less (by omega)) _) λv hv=>tB (dI (hg.next hv (by omega)) _) λu hu=> ?_
 have h1:GS g 10 u:=hv.trans hu.1 (by omega)
 refine tB (hR u (hg.next h1 (by omega))) λx hx=> ?_
 have h2:GS g (n+10) x:=h1.trans hx (by omega)
 have a1:=hu.2;have a2:=hx.a
 have h3:=h2.site g.site x.next
 refine tI (λ_=>tB (dI (hg.next h3 (by omega)) _) λy hy=>tG ?_ λ_ _=>tR ?_) λ_=>tI (λ_=>tG ?_ λ_ _=>tR ?_) λ_=>tB (dI (hg.next h3 (by omega)) _) λy hy=>tG ?_ λ_ _=> ?_
 . have:=hy.2;simp only at this;omega
 . exact((h3.trans hy.1 (AAy _)).set _ _ _ _).trans (GS.refl _ 0) (by omega)
 . omega
 . exact(h2.set _ _ _ _).trans (GS.refl _ 0) (by omega)
 . have:=hy.2;simp only at this;omega
 . have h4:=(h3.trans hy.1 (AAy _)).set v.out.length (Ab.mk (‹Ab›).Op (‹Ab›).A (y.out.length:Int) (‹Ab›).C (‹Ab›).N (‹Ab›).Site) y.site y.next
   refine tB (hE _ (hg.next h4 (by omega))) λz hz=>tG ?_ λ_ _=>tR (((h4.trans hz (AAy _)).set _ _ _ _).trans (GS.refl _ 0) (by omega))
   have b1:=hy.2;have b2:=hz.a
   simp only[List.length_set]at b1 b2;omega
variable {R1:A5->AP->ABp A5} {R2:A5->AP->Int->Int->Int->ABp A5}
theorem gstmt_tot (hn:30≤n) (hg:GB g n) {k:Nat} (hs:K8 T (k+1) s) (h1:Zw 2 s.Expr->∀g,GB g n->D6 (R1 g s) (GS g n)) (h2:∀g a b c,GB g n->D6 (R2 g s a b c) (GS g n)):D6 (Dj R1 R2 g s) (GS g n):=by
  have hl:=hg.l;have hf:=hg.w.f;have ht:=hg.w.t
  have h0:GB (A5.mk g.w g.locals g.out g.next (Ap (g.next+1))) n:=hg.next ((GS.refl g 0).site _ _) (by omega)
  have up:∀{r},GS (A5.mk g.w g.locals g.out g.next (Ap (g.next+1))) n r->GS g n r:=λh=>⟨h.w,h.l,h.a,h.b⟩
  have up1:∀{m r},m≤n->GS (A5.mk g.w g.locals g.out g.next (Ap (g.next+1))) m r->GS g n r:=λhm h=>up (h.trans (GS.refl _ 0) hm)
  have A:∀a b c,D6 ((R2 (A5.mk g.w g.locals g.out g.next (Ap (g.next+1))) s a b c).bind λv=>some v) (GS g n):=λa b c=>tB (h2 _ a b c h0) λ_ h=>tR (up h)
  have P:∀i,D6 ((A8 (A5.mk g.w g.locals g.out g.next (Ap (g.next+1))) i).bind λv=>some v) (GS g n):=λi=>tM (Oq (h0.less (by omega)) i) λ_ h=>up1 (by omega) h
  have j1:∀b,(b=true->s.Op∈[(2:Int),3])->D6 (Dj.J1 R1 R2 g s b) (GS g n):=by
    intro b hb;unfold Dj.J1
    refine tI (λh=>tB (h1 (hs.2.2.1.resolve_right λq=>q.1 ?_) _ h0) λ_ h=>tR (up h)) λ_=> ?_
    . have:=hb h;simp at this ⊢;omega
    repeat' first
      |exact A _ _ _
      |exact P _
      |exact tR (up (GS.refl _ _))
      |refine tI (λho=>tB (l6 (hs.2.2.1.resolve_right λq=>q.1 (by have:=eq_of_beq ho;simp[this])) (h0.less (by omega)) _) λv hv=>tB (Yw _ _ (by rw[hv.w];simp only;omega)) λ_ _=>tM (Oq (h0.next hv (by omega)) _) λ_ h=>up1 (by omega) (hv.trans h (AAy _))) λ_=> ?_
      |refine tI (λ_=> ?_) λ_=> ?_
      |refine NN (lockAt_tot hg.w _) λ_=> ?_
      | (refine tB (cond_tot h0.w _) ?_
         rintro⟨i,w⟩ rfl)
      |refine tB (Yw _ _ (by omega)) λ_ _=> ?_
  unfold Dj
  refine tI (λh=>tB (assign_tot (h0.less (by omega)) hs (eq_of_beq h)) λ_ h=>tR (up1 (by omega) h)) λ_=>tI (λh=>j1 _ λ_=> ?_) λ_=>j1 _ λh=> ?_
  . simp[eq_of_beq h]
  . simp[eq_of_beq h]
end
theorem vW (d:Nat):∀(n:Nat) (g:A5) (l:List AP),3*d+1≤n->GB g (10*cg d)->dT T d l->D6 (E4 n g l) (GS g (10*cg d)):=by
 induction d with
 |zero=>
  intro n g l hn hg ⟨_,h⟩
  obtain⟨n,rfl⟩:∃k,n=k+1:=⟨n-1,by omega⟩
  have:l=[]:=ABj.2 λx hx=>(h x hx).elim
  subst this
  show D6 (Cr (QQ n) g []) _
  exact tR (GS.refl _ _)
 |succ d ih=>
  intro n g l hn hg ⟨h1,h2⟩
  obtain⟨n,rfl⟩:∃k,n=k+3:=⟨n-3,by omega⟩
  show D6 (Cr (Dj (EP (E4 n)) (Es (E4 n))) g l) _
  have hc:cg (d+1)=40+20*cg d:=rfl
  unfold Cr
  refine XN l.length (λi s=>GS g (i*cg (d+1)) s) (F:=λm s i=>Cr.Aa _ l m s i) (by omega) (GS.refl _ _) λm i s hi hs k=> ?_
  have hm:i*cg (d+1)≤10*cg (d+1):=ABN _ (by omega)
  unfold Cr.Aa Cr.L1
  refine tD (λD5=>tG (by omega) λx hx=> ?_) λ_=>tR (hs.trans (GS.refl _ 0) (by omega))
  have U9:(i+1)*cg (d+1)≤10*cg (d+1):=ABN _ (by omega)
  have he:(i+1)*cg (d+1)=i*cg (d+1)+cg (d+1):=ABa _ _
  have hb:∀g,GB g (10*cg d)->D6 (E4 n g x.Body) (GS g (10*cg d)):=λg hg=>ih n g _ (by omega) hg (h2 x hx).body
  have hl:∀g,GB g (10*cg d)->D6 (E4 n g x.Else) (GS g (10*cg d)):=λg hg=>ih n g _ (by omega) hg (h2 x hx).els
  refine tB (gstmt_tot (n:=cg (d+1)) (by omega) (hg.next hs (by omega)) (h2 x hx) (λhe g hg=> ?_) λg a b c hg=> ?_) λv hv=>k _ (by omega) (hs.trans hv (by omega))
  . exact tM (branches_tot (n:=10*cg d) (hg.less (by omega)) he hb hl) λ_ h=>h.trans (GS.refl _ 0) (by omega)
  . exact tM (around_tot (n:=10*cg d) (hg.less (by omega)) hb a b c) λ_ h=>h.trans (GS.refl _ 0) (by omega)
def rg (i:Ab):List Int:=(AU i).getD []
theorem GF (i:Ab):AU i=some (rg i)/\(rg i).length≤3:=by
 have key:D6 (AU i) λr=>r.length≤3:=by
  unfold AU AU.J1 AU.J2 AU.J3
  repeat' first|exact tR (by simp)|refine tI (λ_=> ?_) λ_=> ?_
 obtain⟨r,h1,h2⟩:=key
 unfold rg
 rw[h1]
 exact⟨rfl,h2⟩
structure CK (c:BF):Prop where
 n:c.AA.length≤4
 i:∀t∈c.AA,t.A1.length≤8000000
theorem compile_tot {p:AQ} (h:MP p):D6 (BX p) λr=>CK r.1:=by
 have ht:=h.t
 have hc:cg 4=336840:=rfl
 unfold BX
 obtain⟨v,hv,_⟩:=check_tot h
 refine tE hv (tI (λ_=>tR ⟨by simp,by simp⟩) λhv0=>tB (World_tot h ⟨v.2,?_⟩) λw hw=> ?_)
 . rw[hv]
   have:v.1=0:=by simpa using hv0
   rw[← this]
 refine XN p.AA.length (λi (s:BF×Int)=>s.1.World=w/\s.1.AA.length=i/\∀t∈s.1.AA,t.A1.length≤8000000) (F:=λn s i=>BX.Aa p n s.1 s.2 i) (s0:=(_,_)) (by omega) ⟨rfl,rfl,by simp⟩ λn i s hi hs k=> ?_
 obtain⟨s1,s2,s3⟩:=hs
 unfold BX.Aa BX.L1 BX.J4
 refine tD (λ_=>tG (by omega) λx hx=> ?_) λ_=>tR ⟨by simp only;omega,s3⟩
 have hl:=h.l x hx
 have g0:GB (A5.mk s.1.World x.HB [] 0 s.2) 4000000:=⟨by rw[s1];exact hw,hl,by simp⟩
 refine tB (vW 4 _ _ _ (XR (by omega)) (g0.less (by omega)) (h.b x hx)) λv hv=> ?_
 refine tB (dI (g0.next (hv.site (-1) v.next) (by omega)) _) λu hu=> ?_
 have hu2:=hu.2;have hv2:=hv.b
 simp only[ABR]at hu2 hv2
 refine XN u.out.length (λ_ (t:An)=>t.A1=u.out) (F:=λn t k=>BX.C2 _ _ _ _ _ n t k) (by omega) rfl λm q t hq ht k2=> ?_
 unfold BX.C2 BX.L2 BX.J2 BX.J3
 refine tD (λ_=>tG (by omega) λy _=> ?_) λ_=>tC (DK (by omega)) (k (_,_) (by omega) ⟨s1,by simp;omega,?_⟩)
 . obtain⟨r1,r2⟩:=GF y
   refine tE r1 (XN (rg y).length (λ_ (t:An)=>t.A1=u.out) (F:=λn t k=>BX.Gm _ _ _ n t k) (by omega) ht λm q t hq ht k3=> ?_)
   unfold BX.Gm BX.L3 BX.J1
   exact tD (λ_=>tG (by omega) λ_ _=>k3 _ (by omega) ht) λ_=>k2 _ (by omega) ht
 . intro z hz
   rcases AAj.1 hz with hz|hz
   . exact s3 z hz
   . rw[AA4.1 hz,ht];omega
end
theorem take_one {α:Type} {l:List α} {i:Nat} (h:i<l.length) {P:α->Prop} (h1:∀x∈l.take i,P x) (h2:P l[i]):∀x∈l.take (i+1),P x:=by
 intro x hx
 rw[← AAk h]at hx
 rcases AAj.1 hx with hx|hx
 . exact h1 x hx
 . rw[AA4.1 hx];exact h2
theorem XB {α:Type} {l:List α} {i:Nat} (h:l.length≤i) {P:α->Prop} (h1:∀x∈l.take i,P x):∀x∈l,P x:=by rwa [AA3 h]at h1
theorem Fm {α:Type} {l:List α} {i:Int} (h:0≤i/\i<l.length):∃x,gt l i=some x/\l[i.toNat]? =some x/\x∈l:=by
 have:i.toNat<l.length:=by omega
 exact⟨l[i.toNat],by simp[gt,h.1,this],by simp[this],AAi this⟩
theorem Lu (i n:Int):D6 (DS i n) λb=>b=true->0≤i/\i<n:=by
 unfold DS DS.J1
 exact tD (λh=>tR λh2=>⟨h,AAa h2⟩) λ_=>tR λh=>by cases h
def QT (w:AD) (b n:Int):Prop:=∃x,gt w.Cells b=some x/\x.Index=0/\x.B0≠0/\x.B0=n
theorem YE (w:AD) (b n:Int):D6 (E3 w b n) λr=>r=true->QT w b n:=by
 have N:∀{α:Prop},D6 (some false) λb:Bool=>b=true->α:=tR λh=>by cases h
 unfold E3 E3.J1
 refine tB (Lu _ _) λv hv=>tI (λh=> ?_) λ_=>N
 obtain⟨x,hx,_⟩:=Fm (hv h)
 exact tE hx (tI (λh1=>tI (λh2=>tR λh3=>⟨x,hx,eq_of_beq h1,by simpa using h2,eq_of_beq h3⟩) λ_=>N) λ_=>N)
theorem bY (w:AD) (i:Ab):D6 (AY w i) λb=>b=true->(i.Op=7->QT w i.B i.N)/\(i.Op=9->QT w i.A i.N):=by
 have j8:∀b,TT (AY.J8 i w b):=by
  intro b;unfold AY.J8 AY.J9 AY.Th
  repeat' first|exact tR trivial|refine tB (Lu _ _) λ_ _=> ?_|refine tI (λ_=> ?_) λ_=> ?_
 have j7:∀b,TT (AY.J7 i w b):=by
  intro b;unfold AY.J7
  repeat' first|exact tR trivial|exact j8 _|refine tB (Lu _ _) λ_ _=> ?_|refine tI (λ_=> ?_) λ_=> ?_
 have j5:∀b,TT (AY.J5 i w b):=by
  intro b;unfold AY.J5 AY.J6
  refine tI (λ_=>tB (Lu _ _) λv hv=>tI (λh=>tG (hv h) λx _=>tR trivial) λ_=>tR trivial) λ_=> ?_
  repeat' first|exact j7 _|refine tI (λ_=> ?_) λ_=> ?_
 have j3:∀b,TT (AY.J3 i w b):=by
  intro b;unfold AY.J3 AY.J4
  refine tI (λ_=>tB (Lu _ _) λv hv=>tI (λh=>tG (hv h) λx _=>tR trivial) λ_=>tR trivial) λ_=> ?_
  repeat' first|exact j5 _|refine tI (λ_=> ?_) λ_=> ?_
 unfold AY AY.J1 AY.J2
 have M:∀{o:ABp Bool},TT o->i.Op≠7->i.Op≠9->D6 o λb=>b=true->(i.Op=7->QT w i.B i.N)/\(i.Op=9->QT w i.A i.N):=λh h7 h9=>tM h λ_ _ _=>⟨λh=>absurd h h7,λh=>absurd h h9⟩
 refine tI (λh=>M (tB (Lu _ _) λv hv=>tI (λh=>tG (hv h) λx _=>tR trivial) λ_=>tR trivial) ?_ ?_) λn6=>tI (λh=>M (tB (Lu _ _) λv hv=>tI (λh=>tG (hv h) λx _=>tR trivial) λ_=>tR trivial) ?_ ?_) λn8=> ?_
 . rw[eq_of_beq h];decide
 . rw[eq_of_beq h];decide
 . rw[eq_of_beq h];decide
 . rw[eq_of_beq h];decide
 . refine tI (λh=>tB (YE _ _ _) λv hv=>tR λh1=>⟨λ_=>hv h1,λh2=> ?_⟩) λn7=>tI (λh=>tB (YE _ _ _) λv hv=>tR λh1=>⟨λh2=> ?_,λ_=>hv h1⟩) λn9=> ?_
   . rw[eq_of_beq h]at h2;cases h2
   . rw[eq_of_beq h]at h2;cases h2
   . exact M (tI (λ_=>j3 _) λ_=>j3 _) (by simpa using n7) (by simpa using n9)
def UF (o:Int):Bool:=decide (1≤o)&&decide (o≤5)
theorem PO (o:Int):FE o=some (UF o):=by
 unfold FE FE.J1 UF
 by_cases h:o≥1<;>simp[h]
theorem pL {l:List Ab} (hl:l.length≤8000000) (a:Int):TT (CP l a):=by
 unfold CP
 refine XN (l.length+1) (λ_ _=>True) (F:=λn s i=>CP.Aa l n s i) (by omega) trivial λn i s hi _ k=> ?_
 unfold CP.Aa CP.L1 CP.J1 CP.J2 CP.J3
 refine tD (λ_=>tD (λ_=>tR trivial) λ_=>tD (λ_=>tR trivial) λ_=>tG (by omega) λx _=>tE (PO _) ?_) λ_=>tR trivial
 exact tI (λ_=>tR trivial) λ_=>tI (λ_=>k _ (by omega) trivial) λ_=>k _ (by omega) trivial
def W5 (w:AD) (t:Int) (x:Ab):Prop:=if x.Op=28 then x.Site= -1 else∃y,gt w.A7 x.Site=some y/\y.Thread=t
structure VI (w:AD) (t R:Int) (x:Ab):Prop where
 o:1≤x.Op/\x.Op≤28
 g:∀y∈rg x,0≤y/\y<R
 s:W5 w t x
 a:(x.Op=7->QT w x.B x.N)/\(x.Op=9->QT w x.A x.N)
structure VT (w:AD) (t:Int) (c:An):Prop where
 r:0≤c.Br/\c.Br≤32
 i:∀x∈c.A1,VI w t c.Br x
theorem Uv (w:AD) (t:Int) {c:An} (hc:c.A1.length≤8000000):D6 (AZ w t c) λb=>b=true->VT w t c:=by
 have N:∀{α:Prop},D6 (some false) λb:Bool=>b=true->α:=tR λh=>by cases h
 have j1:∀b,(b=false->0≤c.Br/\c.Br≤32)->D6 (AZ.J1 c t w b) λb=>b=true->VT w t c:=by
  intro b hb;unfold AZ.J1
  refine tI (λ_=>N) λh0=>XN c.A1.length (λi (_:Unit)=>∀x∈c.A1.take i,VI w t c.Br x) (s0:=()) (F:=λn _ i=>AZ.Aa c t w n i) (by omega) (by simp) λn i _ hi hs k=> ?_
  unfold AZ.Aa AZ.L1 AZ.J6
  refine tD (λD5=>jM (by omega) ?_) λl8=>tR λ_=>⟨hb h0,XB (by omega) hs⟩
  have D5:i<c.A1.length:=by omega
  generalize hx:c.A1[i]=x
  have j4:∀b,(b=false->(1≤x.Op/\x.Op≤28)/\W5 w t x/\(x.Op=7->QT w x.B x.N)/\(x.Op=9->QT w x.A x.N))->D6 (AZ.J4 (AZ.Aa c t w n) c i x b) λb=>b=true->VT w t c:=by
   intro b ho;unfold AZ.J4
   refine tI (λ_=>N) λh1=>tE (GF x).1 (XN (rg x).length (λi (_:Unit)=>∀y∈(rg x).take i,0≤y/\y<c.Br) (s0:=()) (F:=λn _ i=>AZ.C2 _ c _ (rg x) n i) (by have:=(GF x).2;omega) (by simp) λm j _ hj sG k2=> ?_)
   unfold AZ.C2 AZ.L2 AZ.J5
   refine tD (λ_=>jM (by omega) (tB (Lu _ _) λv hv=>tI (λ_=>N) λh=>k2 () (by omega) (take_one (by omega) sG (hv (by simpa using h))))) λ_=>k () D5 (take_one D5 hs (by rw[hx];exact⟨(ho h1).1,XB (by omega) sG,(ho h1).2.1,(ho h1).2.2⟩))
  have j3:∀b,(b=false->(1≤x.Op/\x.Op≤28)/\W5 w t x/\(x.Op=7->QT w x.B x.N)/\(x.Op=9->QT w x.A x.N))->D6 (AZ.J3 (AZ.Aa c t w n) c i x b) λb=>b=true->VT w t c:=by
   intro b ho;unfold AZ.J3
   refine tI (λ_=>N) λh1=> ?_
   repeat' first|exact j4 _ λ_=>ho h1|refine tB (Lu _ _) λ_ _=> ?_|refine tI (λ_=> ?_) λ_=> ?_
  have j2:∀b,(b=false->(1≤x.Op/\x.Op≤28)/\(x.Op=7->QT w x.B x.N)/\(x.Op=9->QT w x.A x.N))->D6 (AZ.J2 (AZ.Aa c t w n) c i t w x b) λb=>b=true->VT w t c:=by
   intro b ho;unfold AZ.J2
   refine tI (λ_=>N) λh1=> ?_
   obtain⟨o1,o2⟩:=ho h1
   have T:∀b,b=true->D6 (AZ.J3 (AZ.Aa c t w n) c i x b) λb=>b=true->VT w t c:=λb hb=>j3 b λh=>by rw[hb]at h;cases h
   refine tI (λh28=>tI (λ_=>T _ rfl) λhs28=>tI (λh=>by rw[eq_of_beq h28]at h;cases h) λ_=>j3 _ λ_=>⟨o1,?_,o2⟩) λh28=>tI (λ_=> ?_) λh=>by simp at h h28;omega
   . unfold W5;rw[AAY (eq_of_beq h28)];simpa using hs28
   . refine tB (Lu _ _) λv hv=>tI (λ_=>T _ rfl) λh=> ?_
     obtain⟨y,hy,_⟩:=Fm (hv (by simpa using h))
     refine tE hy (j3 _ λht=>⟨o1,?_,o2⟩)
     unfold W5
     rw[AAX (by simpa using h28)]
     exact⟨y,hy,by simpa using ht⟩
  refine tD (λ_=>j2 _ λh=>by cases h) λ_=>tD (λ_=>j2 _ λh=>by cases h) λ_=> ?_
  have ho:1≤x.Op/\x.Op≤28:=by omega
  exact tI (λ_=>j2 _ λh=>by cases h) λ_=>tB (bY _ _) λv hv=>tI (λ_=>j2 _ λh=>by cases h) λh=>NN (pL hc _) λ_=>j2 _ λ_=>⟨ho,hv (by simpa using h)⟩
 unfold AZ
 exact tD (λ_=>j1 _ λh=>by cases h) λ_=>tD (λ_=>j1 _ λh=>by cases h) λ_=>j1 _ λ_=>by omega
structure VC (c:BF):Prop where
 w:Ck c.World=true
 n:c.AA.length=c.World.AA.length
 t:∀(i:Nat) t,c.AA[i]? =some t->VT c.World i t
theorem VK {c:BF} (hc:CK c):D6 (CB c) λb=>b=true->VC c:=by
 have N:∀{α:Prop},D6 (some false) λb:Bool=>b=true->α:=tR λh=>by cases h
 have hn:=hc.n
 have j1:∀b,(b=false->Ck c.World=true/\c.AA.length=c.World.AA.length)->D6 (CB.J1 c b) λb=>b=true->VC c:=by
  intro b hb;unfold CB.J1
  refine tI (λ_=>N) λh0=>XN c.AA.length (λi (_:Unit)=>∀(j:Nat) x,j<i->c.AA[j]? =some x->VT c.World j x) (s0:=()) (F:=λn _ i=>CB.Aa c n i) (by omega) (λj _ h=>by omega) λn i _ hi hs k=> ?_
  unfold CB.Aa CB.L1 CB.J2
  refine tD (λD5=>jM (by omega) (tB (Uv _ _ (hc.i _ (AAi (by omega)))) λv hv=>tI (λ_=>N) λh=>k () (by omega) ?_)) λ_=>tR λ_=>⟨(hb h0).1,(hb h0).2,λj x hx=>hs j x ?_ hx⟩
  . intro j x hj hx
    by_cases e:j<i
    . exact hs j x e hx
    . obtain rfl:j=i:=by omega
      rw[AAT (by omega)]at hx
      rw[← AAR hx]
      exact hv (by simpa using h)
  . have:=(AAQ.1 hx).1;omega
 unfold CB
 refine tE (Ot _) (tI (λ_=>j1 _ λh=>by cases h) λh=>j1 _ λh2=>⟨by simpa using h,?_⟩)
 have:=AAa (by simpa using h2:decide ((c.AA.length:Int)=(c.World.AA.length:Int))=true)
 omega
def Kl {α:Type} (o:ABp α) (Q:α->Prop):Prop:=∀r,o=some r->Q r
theorem pR {α:Type} {r:α} {Q:α->Prop} (h:Q r):Kl (some r) Q:=λ_ e=>by cases e;exact h
theorem pN {α:Type} {Q:α->Prop}:Kl (none:ABp α) Q:=λ_ e=>by cases e
theorem pB {α β:Type} {o:ABp α} {Q:α->Prop} {f:α->ABp β} {R:β->Prop} (h:Kl o Q) (k:∀x,Q x->Kl (f x) R):Kl (o.bind f) R:=by
 intro r e
 cases o with
 |none=>cases e
 |some x=>exact k x (h x rfl) r e
theorem pB' {α β:Type} {o:ABp α} {f:α->ABp β} {R:β->Prop} (k:∀x,Kl (f x) R):Kl (o.bind f) R:=pB (Q:=λ_=>True) (λ_ _=>trivial) λx _=>k x
theorem pE {α β:Type} {o:ABp α} {y:α} {f:α->ABp β} {R:β->Prop} (h:o=some y) (k:Kl (f y) R):Kl (o.bind f) R:=by rw[h];exact k
theorem pC {α:Type} {p:Prop} [Decidable p] {a:ABp α} {R:α->Prop} (k:p->Kl a R):Kl (if p then a else none) R:=by
 by_cases h:p
 . rw[AAY h];exact k h
 . rw[AAX h];exact pN
theorem pI {α:Type} {c:Bool} {a b:ABp α} {R:α->Prop} (h1:c=true->Kl a R) (h2:c=false->Kl b R):Kl (if c=true then a else b) R:=by
 cases c with
 |true=>exact h1 rfl
 |false=>exact h2 rfl
theorem pD {α:Type} {p:Prop} [Decidable p] {a b:ABp α} {R:α->Prop} (h1:p->Kl a R) (h2:¬p->Kl b R):Kl (if decide p=true then a else b) R:=by
 by_cases h:p
 . simpa[h]using h1 h
 . simpa[h]using h2 h
theorem pM {α:Type} {o:ABp α} {Q R:α->Prop} (h:Kl o Q) (k:∀x,Q x->R x):Kl o R:=λr e=>k r (h r e)
theorem pT {α:Type} {o:ABp α} {Q:α->Prop} (h:D6 o Q):Kl o Q:=by
 obtain⟨x,rfl,hx⟩:=h;exact pR hx
theorem pA {α:Type} {o:ABp α} {P Q:α->Prop} (h:Kl o P) (k:Kl o Q):Kl o λr=>P r/\Q r:=λr e=>⟨h r e,k r e⟩
theorem tP {α:Type} {o:ABp α} {P Q:α->Prop} (h:D6 o P) (k:Kl o Q):D6 o λr=>P r/\Q r:=by
 obtain⟨x,e,hx⟩:=h;exact⟨x,e,hx,k x e⟩
theorem pLs {σ α:Type} {Q:α->Prop} (N:Nat) (I:Nat->σ->Prop) {F:Nat->σ->Int->ABp α} (hF:∀s i,F 0 s i=none) (hN:N<1000000000000) {s0:σ} (h0:I 0 s0)
 (h:∀n (i:Nat) s,i≤N->I i s->(∀s',i<N->I (i+1) s'->Kl (F n s' (Ap (i+1))) Q)->Kl (F (n+1) s i) Q):Kl (F BT s0 0) Q:=by
 have key:∀n (i:Nat) s,i≤N->I i s->Kl (F n s i) Q:=by
  intro n
  induction n with
  |zero=>intro i s _ _;rw[hF];exact pN
  |succ n ih=>
   intro i s h2 h3
   refine h n i s h2 h3 λs' h4 h5=> ?_
   rw[Ao (by omega)]
   exact ih (i+1) s' (by omega) h5
 exact key BT 0 s0 (by omega) h0
def StI (l:List Ab) (k m:Nat):Prop:=∃x,l[k]? =some x/\UF x.Op=true/\(x.Op=5/\x.A=(m:Int)∨x.Op≠5/\m=k+1)
def UI (l:List Ab) (a b:Nat):Nat->Nat->Nat->Prop
 |0,k,m=>k=m
 |n+1,k,m=>(a≤k/\k<b)/\∃j,StI l k j/\UI l a b n j m
def Ev (l:List Ab) (m:Nat):Prop:=∃x,l[m]? =some x/\UF x.Op=false
theorem UI.frame {l l':List Ab} {a b a' b':Nat} (h:∀i,a≤i->i<b->l[i]? =l'[i]?) (ha:a'≤a) (hb:b≤b'):∀{n k m},UI l a b n k m->UI l' a' b' n k m
 |0,_,_,e=>e
 |n+1,k,m,⟨⟨h1,h2⟩,j,⟨x,x1,x2⟩,h4⟩=>⟨⟨by omega,by omega⟩,j,⟨x,by rw[← h k h1 h2];exact x1,x2⟩,h4.frame h ha hb⟩
theorem UI.trans {l:List Ab} {a b:Nat}:∀{n k m p q},UI l a b n k m->UI l a b p m q->UI l a b (n+p) k q
 |0,_,_,p,_,e,h=>by cases e;rw[ABS];exact h
 |n+1,_,_,p,_,⟨h1,j,h2,h3⟩,h=>by rw[Nat.succ_add];exact⟨h1,j,h2,h3.trans h⟩
theorem UI.one {l:List Ab} {a b k m:Nat} (h:a≤k/\k<b) (s:StI l k m):UI l a b 1 k m:=⟨h,m,s,rfl⟩
structure LV (w:AD) (lo hi:Int) (c:Nat) (x:Ab):Prop where
 o:1≤x.Op/\x.Op≤27
 ob:AY w x=some true
 g:∀y∈rg x,0≤y/\y<32
 s:lo≤x.Site/\x.Site<hi
 j:x.Op=5->0≤x.A/\x.A≤c
 b:x.Op=10->0≤x.B/\x.B≤c
structure SG (w:AD) (lo hi:Int) (l:List Ab) (a b c:Nat):Prop where
 h:a≤b/\b≤l.length
 i:∀k x,a≤k->k<b->l[k]? =some x->LV w lo hi c x
 f:∀k,a≤k->k<b->(∃n m,UI l a b n k m/\(a≤m/\m<b)/\Ev l m/\n+a+1≤b)∨∃n,UI l a b n k b/\n+k≤b
section
variable {w:AD} {lo hi lo' hi':Int} {l l':List Ab} {a b c d:Nat}
theorem LV.mono {x:Ab} (h:LV w lo hi c x) (h1:lo'≤lo) (h2:hi≤hi') (h3:c≤d):LV w lo' hi' d x:=
 ⟨h.o,h.ob,h.g,⟨by have:=h.s;omega,by have:=h.s;omega⟩,λe=>by have:=h.j e;omega,λe=>by have:=h.b e;omega⟩
theorem SG.frame (h:SG w lo hi l a b c) (hl:∀i,a≤i->i<b->l[i]? =l'[i]?) (hb:b≤l'.length) (h1:lo'≤lo) (h2:hi≤hi') (h3:c≤d):SG w lo' hi' l' a b d:=by
 refine⟨⟨h.h.1,hb⟩,λk x k1 k2 hx=>(h.i k x k1 k2 (by rw[hl k k1 k2];exact hx)).mono h1 h2 h3,λk k1 k2=> ?_⟩
 rcases h.f k k1 k2 with⟨n,m,r,m1,⟨x,x1,x2⟩,hn⟩|⟨n,r,hn⟩
 . exact .inl ⟨n,m,r.frame hl (by omega) (by omega),m1,⟨x,by rw[← hl m m1.1 m1.2];exact x1,x2⟩,hn⟩
 . exact .inr ⟨n,r.frame hl (by omega) (by omega),hn⟩
theorem SG.mono (h:SG w lo hi l a b c) (h1:lo'≤lo) (h2:hi≤hi') (h3:c≤d):SG w lo' hi' l a b d:=h.frame (λ_ _ _=>rfl) h.h.2 h1 h2 h3
theorem SG.nil (h:a≤l.length):SG w lo hi l a a c:=⟨⟨by omega,h⟩,λk x _ _=>by omega,λk _ _=>by omega⟩
theorem SG.app {e:Nat} (h:SG w lo hi l a b c) (g:SG w lo hi l b e c):SG w lo hi l a e c:=by
 have hh:=h.h;have gh:=g.h
 refine⟨⟨by omega,gh.2⟩,λk x k1 k2 hx=> ?_,λk k1 k2=> ?_⟩
 . by_cases hk:k<b
   . exact h.i k x k1 hk hx
   . exact g.i k x (by omega) k2 hx
 . have up:∀{n k m},UI l b e n k m->UI l a e n k m:=λr=>r.frame (λ_ _ _=>rfl) (by omega) (by omega)
   have up':∀{n k m},UI l a b n k m->UI l a e n k m:=λr=>r.frame (λ_ _ _=>rfl) (by omega) (by omega)
   by_cases hk:k<b
   . rcases h.f k k1 hk with⟨n,m,r,m1,ev,hn⟩|⟨n,r,hn⟩
     . exact .inl ⟨n,m,up' r,by omega,ev,by omega⟩
     . by_cases hbe:b<e
       . rcases g.f b (by omega) hbe with⟨n',m,r',m1,ev,oP⟩|⟨n',r',oP⟩
         . exact .inl ⟨n+n',m,(up' r).trans (up r'),by omega,ev,by omega⟩
         . exact .inr ⟨n+n',(up' r).trans (up r'),by omega⟩
       . have:b=e:=by omega
         subst this
         exact .inr ⟨n,up' r,by omega⟩
   . rcases g.f k (by omega) k2 with⟨n,m,r,m1,ev,hn⟩|⟨n,r,hn⟩
     . exact .inl ⟨n,m,up r,by omega,ev,by omega⟩
     . exact .inr ⟨n,up r,hn⟩
theorem SG.one {x:Ab} (hx:l[a]? =some x) (hv:LV w lo hi c x) (h5:x.Op≠5):SG w lo hi l a (a+1) c:=by
 have hl:=(AAQ.1 hx).1
 refine⟨⟨by omega,by omega⟩,λk y k1 k2 hy=> ?_,λk k1 k2=> ?_⟩
 . obtain rfl:k=a:=by omega
   rw[hx]at hy;cases hy;exact hv
 . obtain rfl:k=a:=by omega
   cases hs:UF x.Op with
   |false=>exact .inl ⟨0,k,rfl,by omega,⟨x,hx,hs⟩,by omega⟩
   |true=>exact .inr ⟨1,UI.one (by omega) ⟨x,hx,hs,.inr ⟨h5,rfl⟩⟩,by omega⟩
theorem SG.jump {j e:Nat} {x:Ab} (h:SG w lo hi l a j c) (hx:l[j]? =some x) (hv:LV w lo hi c x) (h5:x.Op=5) (hA:x.A=(e:Int)) (g:SG w lo hi l (j+1) e c):SG w lo hi l a e c:=by
 have hh:=h.h;have gh:=g.h
 have s:StI l j e:=⟨x,hx,by rw[h5];rfl,.inl ⟨h5,hA⟩⟩
 have up:∀{n k m},UI l (j+1) e n k m->UI l a e n k m:=λr=>r.frame (λ_ _ _=>rfl) (by omega) (by omega)
 have up':∀{n k m},UI l a j n k m->UI l a e n k m:=λr=>r.frame (λ_ _ _=>rfl) (by omega) (by omega)
 refine⟨⟨by omega,gh.2⟩,λk y k1 k2 hy=> ?_,λk k1 k2=> ?_⟩
 . by_cases hk:k<j
   . exact h.i k y k1 hk hy
   . by_cases V1:k=j
     . subst V1;rw[hx]at hy;cases hy;exact hv
     . exact g.i k y (by omega) k2 hy
 . by_cases hk:k<j
   . rcases h.f k k1 hk with⟨n,m,r,m1,ev,hn⟩|⟨n,r,hn⟩
     . exact .inl ⟨n,m,up' r,by omega,ev,by omega⟩
     . exact .inr ⟨n+1,(up' r).trans (UI.one (by omega) s),by omega⟩
   . by_cases V1:k=j
     . subst V1;exact .inr ⟨1,UI.one (by omega) s,by omega⟩
     . rcases g.f k (by omega) k2 with⟨n,m,r,m1,ev,hn⟩|⟨n,r,hn⟩
       . exact .inl ⟨n,m,up r,by omega,ev,by omega⟩
       . exact .inr ⟨n,up r,hn⟩
theorem SG.back {p j:Nat} {x y:Ab} (h:SG w lo hi l a p c) (hy:l[p]? =some y) (hy1:LV w lo hi c y) (hy2:UF y.Op=false) (g:SG w lo hi l (p+1) j c) (hx:l[j]? =some x) (hv:LV w lo hi c x) (h5:x.Op=5) (hA:x.A=(a:Int)):SG w lo hi l a (j+1) c:=by
 have hh:=h.h;have gh:=g.h
 have hl:=(AAQ.1 hx).1
 have s:StI l j a:=⟨x,hx,by rw[h5];rfl,.inl ⟨h5,hA⟩⟩
 have up:∀{n k m},UI l (p+1) j n k m->UI l a (j+1) n k m:=λr=>r.frame (λ_ _ _=>rfl) (by omega) (by omega)
 have up':∀{n k m},UI l a p n k m->UI l a (j+1) n k m:=λr=>r.frame (λ_ _ _=>rfl) (by omega) (by omega)
 have ey:Ev l p:=⟨y,hy,hy2⟩
 -- from the beginning on
 have beg:∃n m,UI l a (j+1) n a m/\(a≤m/\m<j+1)/\Ev l m/\n+a≤p:=by
  by_cases ha:a<p
  . rcases h.f a (by omega) ha with⟨n,m,r,m1,ev,hn⟩|⟨n,r,hn⟩
    . exact⟨n,m,up' r,by omega,ev,by omega⟩
    . exact⟨n,p,up' r,by omega,ey,by omega⟩
  . have:a=p:=by omega
    exact⟨0,p,this,by omega,ey,by omega⟩
 obtain⟨n0,m0,r0,b0,e0,l0⟩:=beg
 refine⟨⟨by omega,by omega⟩,λk z k1 k2 hz=> ?_,λk k1 k2=>.inl ?_⟩
 . by_cases hk:k<p
   . exact h.i k z k1 hk hz
   . by_cases V1:k=p
     . subst V1;rw[hy]at hz;cases hz;exact hy1
     . by_cases hk3:k<j
       . exact g.i k z (by omega) hk3 hz
       . obtain rfl:k=j:=by omega
         rw[hx]at hz;cases hz;exact hv
 . by_cases hk:k<p
   . rcases h.f k k1 hk with⟨n,m,r,m1,ev,hn⟩|⟨n,r,hn⟩
     . exact⟨n,m,up' r,by omega,ev,by omega⟩
     . exact⟨n,p,up' r,by omega,ey,by omega⟩
   . by_cases V1:k=p
     . subst V1;exact⟨0,k,rfl,by omega,ey,by omega⟩
     . by_cases hk3:k<j
       . rcases g.f k (by omega) hk3 with⟨n,m,r,m1,ev,hn⟩|⟨n,r,hn⟩
         . exact⟨n,m,up r,by omega,ev,by omega⟩
         . exact⟨n+(1+n0),m0,(up r).trans ((UI.one (by omega) s).trans r0),b0,e0,by omega⟩
       . obtain rfl:k=j:=by omega
         exact⟨1+n0,m0,(UI.one (by omega) s).trans r0,b0,e0,by omega⟩
end
def TB (E:Int) (x:List Int):Prop:=x.Pairwise (· < ·)/\∀y∈x,0≤y/\y<E
theorem TB.len {E:Int} {x:List Int} (h:TB E x) (h0:0≤E):(x.length:Int)≤E:=by
 have key:∀(x:List Int) (a:Int),x.Pairwise (· < ·)->(∀y∈x,a≤y/\y<E)->a≤E->(x.length:Int)≤E-a:=by
  intro x
  induction x with
  |nil=>intro a _ _ h;simp;omega
  |cons y r ih=>
   intro a h1 h2 h3
   obtain⟨p1,p2⟩:=List.pairwise_cons.1 h1
   have hy:=h2 y ABL
   have:=ih (y+1) p2 (λz hz=>⟨p1 z hz,(h2 z (List.mem_cons_of_mem _ hz)).2⟩) (by omega)
   simp only[AA7];omega
 have:=key x 0 h.1 h.2 h0
 omega
theorem TB.mono {E F:Int} {x:List Int} (h:TB E x) (hf:E≤F):TB F x:=⟨h.1,λy hy=>⟨(h.2 y hy).1,by have:=(h.2 y hy).2;omega⟩⟩
structure TH (E:Nat) (s:AL):Prop where
 r:s.Br.length≤100
 t:s.Bn.length≤100
 b:∀x∈s.Bn,TB s.AF x
 e:0≤s.AF/\s.AF≤E
theorem TH.zero (E:Nat):TH E ⟨0,[],[],0⟩:=⟨by simp,by simp,by simp,by simp,by simp⟩
theorem Zz {E:Nat} {s:AL} (h:TH E s) (hE:E≤100000):Ch s=some s:=by
 have hr:=h.r;have ht:=h.t;have he:=h.e
 have key:D6 (Ch s) λr=>r=s:=by
  unfold Ch
  refine tC (DK (by omega)) (XN s.Bn.length (λi o=>o=⟨s.PC,s.Br,s.Bn.take i,s.AF⟩) (F:=λn o i=>Ch.Aa s n o i) (by omega) rfl λn i o hi ho k=> ?_)
  subst ho
  unfold Ch.Aa Ch.L1 Ch.J1
  refine tD (λ_=>jM (by omega) ?_) λ_=>tR (by rw[AA3 (by omega)])
  have:=(h.b _ (AAi (show i<s.Bn.length by omega))).len he.1
  exact tC (DK (by omega)) (tC (DK (by simp;omega)) (k _ (by omega) (by rw[AAk])))
 obtain⟨r,h1,rfl⟩:=key
 exact h1
theorem rg1 {i:Ab} (h:i.Op=1):rg i=[i.A]:=by unfold rg AU AU.J1;simp[h]
theorem rg2 {i:Ab} (h:i.Op=2):rg i=[i.A,i.B]:=by unfold rg AU AU.J1 AU.J2;simp[h]
theorem rg3 {i:Ab} (h:i.Op=3):rg i=[i.A,i.B]:=by unfold rg AU AU.J1 AU.J2;simp[h]
theorem rg4 {i:Ab} (h:i.Op=4):rg i=[i.A,i.B,i.C]:=by unfold rg AU AU.J1 AU.J2;simp[h]
theorem rg6 {i:Ab} (h:i.Op=6):rg i=[i.A]:=by unfold rg AU AU.J1;simp[h]
theorem rg7 {i:Ab} (h:i.Op=7):rg i=[i.A,i.C]:=by unfold rg AU AU.J1 AU.J2;simp[h]
theorem rg8 {i:Ab} (h:i.Op=8):rg i=[i.B]:=by unfold rg AU AU.J1 AU.J2 AU.J3;simp[h]
theorem rg9 {i:Ab} (h:i.Op=9):rg i=[i.B,i.C]:=by unfold rg AU AU.J1 AU.J2 AU.J3;simp[h]
theorem rg10 {i:Ab} (h:i.Op=10):rg i=[i.A]:=by unfold rg AU AU.J1;simp[h]
theorem rg26 {i:Ab} (h:i.Op=26):rg i=[i.B]:=by unfold rg AU AU.J1 AU.J2 AU.J3;simp[h]
theorem rg27 {i:Ab} (h:i.Op=27):rg i=[i.A]:=by unfold rg AU AU.J1;simp[h]
theorem SD (n:Int):TT (Cj n):=by
 unfold Cj Cj.J1
 repeat' first|exact tR trivial|refine tI (λ_=> ?_) λ_=> ?_
theorem Ys (b:Bool):TT (Di b):=by
 unfold Di
 exact tI (λ_=>tR trivial) λ_=>tR trivial
theorem mI (o a:Int):TT (Hq o a):=by
 unfold Hq
 repeat' first|exact tR trivial|refine NN (Ys _) λ_=> ?_|refine tI (λ_=> ?_) λ_=> ?_
theorem eD (o a b:Int):TT (DW o a b):=by
 unfold DW DW.J1 DW.J2
 repeat' first|exact tR trivial|refine NN (Ys _) λ_=> ?_|refine tD (λ_=>tR trivial) λhb=>tC hb ?_|refine tI (λ_=> ?_) λ_=> ?_
theorem zW {E:Nat} {i:Ab} {s:AL} {P:Int->Prop} (hs:TH E s) (hP:∀x∈s.Bn,∀k∈x,P k) (hE:E≤100000) (hl:s.Bn.length=s.Br.length) (ho:UF i.Op=true):D6 (B4 i s) λr=>r.2=true->(TH E r.1/\r.1.Bn.length=r.1.Br.length)/\r.1.AF=s.AF/\∀x∈r.1.Bn,∀k∈x,P k:=by
 have N:∀{x} {P:AL×Bool->Prop},D6 (some (x,false)) λr:AL×Bool=>r.2=true->P r:=tR λh=>by cases h
 have he:=hs.e;have hr:=hs.r;have ht:=hs.t
 have j3:∀v ok t,0≤i.A/\i.A<s.Br.length->TB s.AF t->(∀k∈t,P k)->D6 (B4.J3 i s v ok t) λr=>r.2=true->(TH E r.1/\r.1.Bn.length=r.1.Br.length)/\r.1.AF=s.AF/\∀x∈r.1.Bn,∀k∈x,P k:=by
  intro v ok t ha htb htp
  have:=htb.len he.1
  unfold B4.J3
  refine tC (DK (by omega)) (tG ha λ_ _=>tG (by omega) λ_ _=>tR λ_=>⟨⟨⟨by simpa using hr,by simpa using ht,?_,he⟩,by simpa using hl⟩,rfl,?_⟩)
  . intro x hx
    rcases AAv hx with hx|rfl
    . exact hs.b x hx
    . exact htb
  . intro x hx
    rcases AAv hx with hx|rfl
    . exact hP x hx
    . exact htp
 have j2:(∀y∈rg i,0≤y/\y<s.Br.length)->D6 (B4.J2 i s) λr=>r.2=true->(TH E r.1/\r.1.Bn.length=r.1.Br.length)/\r.1.AF=s.AF/\∀x∈r.1.Bn,∀k∈x,P k:=by
  intro hg;unfold B4.J2
  refine tI (λ_=>tR λ_=>⟨⟨⟨hr,ht,hs.b,he⟩,hl⟩,rfl,hP⟩) λn5=>tI (λh1=> ?_) λn1=>tI (λh2=> ?_) λn2=>tI (λh3=> ?_) λn3=> ?_
  . simp only[rg1 (eq_of_beq h1),AA4,forall_eq]at hg
    exact j3 _ _ _ hg ⟨List.Pairwise.nil,by simp⟩ (by simp)
  . simp only[rg2 (eq_of_beq h2),AAp,ABn,ABd,forall_eq_or_imp,forall_eq]at hg
    exact tG hg.2 λ_ _=>tG (by omega) λx hx=>j3 _ _ _ hg.1 (hs.b x hx) (hP x hx)
  . simp only[rg3 (eq_of_beq h3),AAp,ABn,ABd,forall_eq_or_imp,forall_eq]at hg
    exact NN (SD _) λ_=>tG hg.2 λ_ _=>NN (mI _ _) λ_=>tG (by omega) λx hx=>j3 _ _ _ hg.1 (hs.b x hx) (hP x hx)
  . have h4:i.Op=4:=by simp[UF]at ho n5 n1 n2 n3;omega
    simp only[rg4 h4,AAp,ABn,ABd,forall_eq_or_imp,forall_eq]at hg
    refine NN (SD _) λ_=>tG hg.2.1 λ_ _=>tG hg.2.2 λ_ _=>NN (eD _ _ _) λ_=>tG (by omega) λx hx=>tG (by omega) λy hy=> ?_
    have lx:=(hs.b x hx).len he.1;have ly:=(hs.b y hy).len he.1
    refine tE (Z6 x y (by omega)) (j3 _ _ _ hg.1 ⟨NK _,λz hz=> ?_⟩ λz hz=> ?_)
    . rcases AAj.1 ((Pb _ _).1 hz)with hz|hz
      . exact(hs.b x hx).2 z hz
      . exact(hs.b y hy).2 z hz
    . rcases AAj.1 ((Pb _ _).1 hz)with hz|hz
      . exact hP x hx z hz
      . exact hP y hy z hz
 unfold B4
 refine tE (GF i).1 (XN (rg i).length (λj (_:Unit)=>∀y∈(rg i).take j,0≤y/\y<(s.Br.length:Int)) (s0:=()) (F:=λn _ j=>B4.Aa i s (rg i) n j) (by have:=(GF i).2;omega) (by simp) λn j _ hj sG k=> ?_)
 unfold B4.Aa B4.L1 B4.J1
 refine tD (λ_=>jM (by omega) (tD (λ_=>tI (λ_=>N) λh=>by cases h) λ_=>tD (λ_=>N) λ_=>k () (by omega) (take_one (by omega) sG (by omega)))) λ_=>j2 (XB (by omega) sG)
def PN:AL:=⟨0,[],[],0⟩
theorem eM {E:Nat} {c:An} {s:AL} {P:Int->Prop} (hs:TH E s) (hP:∀x∈s.Bn,∀k∈x,P k) (hE:E≤100000) (hc:c.A1.length≤8000000):D6 (Bf c s) λr=>TH E r.1/\(r.1=PN∨r.1.AF=s.AF/\∀x∈r.1.Bn,∀k∈x,P k):=by
 have Z:TH E PN/\(PN=PN∨PN.AF=s.AF/\∀x∈PN.Bn,∀k∈x,P k):=⟨TH.zero E,.inl rfl⟩
 have j1:∀b,(b=false->s.Bn.length=s.Br.length)->D6 (Bf.J1 c s b) λr=>TH E r.1/\(r.1=PN∨r.1.AF=s.AF/\∀x∈r.1.Bn,∀k∈x,P k):=by
  intro b hb;unfold Bf.J1
  refine tI (λ_=>tR Z) λh0=>tE (Zz hs hE) (XN (c.A1.length+1) (λ_ t=>(TH E t/\t.Bn.length=t.Br.length)/\t.AF=s.AF/\∀x∈t.Bn,∀k∈x,P k) (F:=λn s j=>Bf.Aa c n s j) (by omega) ⟨⟨hs,hb h0⟩,rfl,hP⟩ λn i t hi ht k=> ?_)
  unfold Bf.Aa Bf.L1 Bf.J2 Bf.J3
  refine tD (λ_=>tD (λ_=>tI (λ_=>tR Z) λh=>by cases h) λ_=>tD (λ_=>tR Z) λ_=>tG (by omega) λx _=>tE (PO _) (tI (λ_=>tR ⟨ht.1.1,.inr ht.2⟩) λh=>tI (λ_=>tR Z) λ_=> ?_)) λ_=>tR Z
  exact tB (zW ht.1.1 ht.2.2 hE ht.1.2 (by simpa using h)) λv hv=>tI (λ_=>tR Z) λh=>k _ (by omega) (by have:=hv (by simpa using h);rw[ht.2.1]at this;exact this)
 unfold Bf
 refine tI (λ_=>j1 _ λh=>by cases h) λh=>j1 _ λh2=> ?_
 simp at h h2;omega
end Go.Abs
