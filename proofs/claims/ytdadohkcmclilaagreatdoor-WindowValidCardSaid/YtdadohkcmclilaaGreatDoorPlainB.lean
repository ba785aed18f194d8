/- What the typed programs give, in plain Lean. -/
import Derived.Test.YtdadohkcmclilaaGreatDoorWalkR
import Derived.Test.YtdadohkcmclilaaGreatDoorPlainA
import Derived.KernelRfl
import Derived.Shelf.Slices.SearchI
set_option linter.unusedSimpArgs false
set_option linter.unusedVariables false
namespace Go.Abs
set_option maxHeartbeats 4000000
theorem Lw {α:Type} [Inhabited α] {l:List α} {i j:Int} {a:α} (hi:Ee i l.length=true) (hj:Ee j l.length=true):ix (l.set i.toNat a) j=if j=i then a else ix l j:=by
 have hi:=B9.1 hi;have hj:=B9.1 hj
 unfold ix
 by_cases e:j=i
 . subst e;rw[AAY rfl,AAS (by omega)];rfl
 . rw[AAX e,AAV (by omega)]
theorem ix_map {α β:Type} [Inhabited α] [Inhabited β] {l:List α} {j:Int} {f:α->β} (hj:Ee j l.length=true):ix (l.map f) j=f (ix l j):=by
 have hj:=B9.1 hj
 have:j.toNat<l.length:=by omega
 unfold ix
 rw[AAZ,AAT this];rfl
structure TI (wv:AD) (B:Int->Prop) (L:List AW) (u:Int) (x:AE):Prop where
 s:0≤x.Status/\x.Status≤5
 b:B u↔2≤x.Status
 z:u=0->x.Status≠0
 c:x.Status=3∨x.Status=4->Ee x.D8 wv.Af.length=true/\(ix L (ix wv.Af x.D8).Mutex).CW≠u
 n:x.Status≠3->x.Status≠4->x.D8=0
 a:x.Atomic=true->2≤x.Status
structure LI (wv:AD) (B:Int->Prop) (i:Int) (x:AW):Prop where
 o:x.CW≠ -1->B x.CW
 w:x.As≠[]->(ix wv.AG i).RW=true/\x.CW= -1
 p:x.As.Pairwise (· < ·)
 r:∀y∈x.As,B y
structure YI (wv:AD) (B:Int->Prop) (s:AN):Prop where
 t:∀u,Ee u wv.AA.length=true->TI wv B s.AG u (ix s.AA u)
 l:∀i,Ee i wv.AG.length=true->LI wv B i (ix s.AG i)
 x:s.Tx≠ -1->B s.Tx
 b:∀u,B u->Ee u wv.AA.length=true
section
variable {wv:AD} {B:Int->Prop} {s:AN}
theorem YI.LB (h:YI wv B s) (hn:s.AA.length=wv.AA.length) {d:Int} {f:AE->AE} (hd:Ee d wv.AA.length=true) (hf:TI wv B s.AG d (f (ix s.AA d))):YI wv B (LB s d f):=by
 refine⟨λu hu=> ?_,h.l,h.x,h.b⟩
 show TI wv B s.AG u (ix (s.AA.set d.toNat (f (ix s.AA d))) u)
 rw[Lw (by rw[hn];exact hd) (by rw[hn];exact hu)]
 by_cases e:u=d
 . rw[AAY e,e];exact hf
 . rw[AAX e];exact h.t u hu
theorem YI.Kc (h:YI wv B s) (hc:∀o,Ee o wv.Af.length=true->Ee (ix wv.Af o).Mutex wv.AG.length=true) (hn:s.AG.length=wv.AG.length) {i:Int} {f:AW->AW} (hi:Ee i wv.AG.length=true) (hf:LI wv B i (f (ix s.AG i)))
 (ho:(f (ix s.AG i)).CW= -1∨(f (ix s.AG i)).CW=(ix s.AG i).CW∨Ee (f (ix s.AG i)).CW wv.AA.length=true/\(ix s.AA (f (ix s.AG i)).CW).Status=2):YI wv B (Kc s i f):=by
 refine⟨λu hu=> ?_,λj hj=> ?_,h.x,h.b⟩
 . have ht:=h.t u hu
   refine⟨ht.s,ht.b,ht.z,λh34=>⟨(ht.c h34).1,?_⟩,ht.n,ht.a⟩
   have h34:(ix s.AA u).Status=3∨(ix s.AA u).Status=4:=h34
   have hm:=hc _ (ht.c h34).1
   show(ix (s.AG.set i.toNat (f (ix s.AG i))) (ix wv.Af (ix s.AA u).D8).Mutex).CW≠u
   rw[Lw (by rw[hn];exact hi) (by rw[hn];exact hm)]
   by_cases e:(ix wv.Af (ix s.AA u).D8).Mutex=i
   . rw[AAY e]
     have hu:=B9.1 hu
     rcases ho with ho|ho|ho
     . omega
     . rw[ho,← e];exact(ht.c h34).2
     . intro e2
       rw[e2]at ho
       omega
   . rw[AAX e];exact(ht.c h34).2
 . show LI wv B j (ix (s.AG.set i.toNat (f (ix s.AG i))) j)
   rw[Lw (by rw[hn];exact hi) (by rw[hn];exact hj)]
   by_cases e:j=i
   . rw[AAY e,e];exact hf
   . rw[AAX e];exact h.l j hj
theorem YI.congr {B':Int->Prop} (h:YI wv B s) (hb:∀u,B' u↔B u):YI wv B' s:=by
 have:B'=B:=funext λu=>propext (hb u)
 rw[this];exact h
end
theorem Zc (l:List Int):(UE l).Pairwise (· < ·):=by
 exact NK l
theorem gA {wv:AD} {s:AN} (h:G8 wv s=true) (t k o wake:Int):G8 wv (EN wv s t k o wake).1=true:=by
  have hm:wv.Af.all (λc=>Ee c.Mutex wv.AG.length)=true:=by
    unfold G8 at h
    simp only[AAP]at h
    exact h.1
  have key:∀(p:Prop) [Decidable p] (a b:AN×Int),G8 wv a.1=true->G8 wv b.1=true->G8 wv (if p then a else b).1=true:=by
    intro p _ a b ha hb;split<;>assumption
  obtain⟨l1,l2,l3⟩:=FA h
  unfold EN
  repeat' refine key _ _ _ ?_ ?_
  all_goals first
    |exact h
    | (simp[G8,LB,Kc,hm,l1,l2,l3];done)
    | (by_cases hW:Bz o 0 s.AA=[]
       . simp only[hW,AAs];exact h
       . simp[hW,G8,LB,hm,l1,l2,l3])
theorem yK {wv:AD} {s:AN} (h:G8 wv s=true):∀o,Ee o wv.Af.length=true->Ee (ix wv.Af o).Mutex wv.AG.length=true:=λ_ ho=>HH h ho
theorem AAK {wv:AD} {s:AN} (hn:s.AA.length=wv.AA.length) {o u:Int} (h:u∈Bz o 0 s.AA):Ee u wv.AA.length=true/\(ix s.AA u).Status=3:=by
 have key:∀(T:List AE) (i:Nat) (u:Int),u∈Bz o i T->∃x,T[(u-i).toNat]? =some x/\x.Status=3:=by
  intro T
  induction T with
  |nil=>intro i u h;cases h
  |cons x r ih=>
   intro i u h
   unfold Bz at h
   have key:u∈Bz o (i+1) r->∃y,(x::r)[(u-i).toNat]? =some y/\y.Status=3:=by
    intro h
    have hr:=(Ie o r (i+1) u h).1
    obtain⟨y,y1,y2⟩:=ih (i+1) u h
    refine⟨y,?_,y2⟩
    rw[show(u-(i:Int)).toNat=(u-((i+1:Nat):Int)).toNat+1 from by omega,ABA]
    exact y1
   split at h
   . rename_i hw
     rcases AAp.1 h with rfl|h
     . refine⟨x,by simp,?_⟩
       unfold Ia at hw
       simp only[AAP]at hw
       exact eq_of_beq hw.1
     . exact key h
   . exact key h
 obtain⟨x,x1,x2⟩:=key _ _ _ h
 have hm:=Ie o s.AA 0 u h
 have x1:s.AA[u.toNat]? =some x:=by simpa using x1
 refine⟨B9.2 (by simp at hm;omega),?_⟩
 unfold ix;rw[x1];exact x2
theorem nN {wake:Int} {W:List Int} (h:W≠[]):EX wake W∈W:=by
 unfold EX
 rw[AAX h]
 split
 . rename_i h;simpa using h
 . cases W with
   |nil=>exact absurd rfl h
   |cons a r=>simp
theorem YI.apply {wv:AD} {B:Int->Prop} {s:AN} {t k o wake:Int} (hq:∀o,Ee o wv.Af.length=true->(ix wv.AG (ix wv.Af o).Mutex).RW=false) (h:YI wv B s) (he:DC wv s t k o=true):YI wv (λu=>B u∨u=t) (EN wv s t k o wake).1:=by
 unfold DC at he
 simp only[AAP]at he
 obtain⟨hf,ht,ha,hr⟩:=he
 obtain⟨l1,l2,l3⟩:=FA hf
 have hm:=yK hf
 have T:=h.t t ht
 unfold EN
 by_cases k1:k=1
 . rw[AAY k1]
   have hs:(ix s.AA t).Status=1:=by simpa[Kb,k1]using hr
   have up:∀{u},B u->B u∨u=t:=.inl
   refine⟨λu hu=> ?_,λi hi=> ?_,λhx=>up (h.x hx),λu hu=>hu.elim (h.b u) λe=>e▸ht⟩
   . show TI wv _ s.AG u (ix (s.AA.set t.toNat _) u)
     rw[Lw (by rw[l3];exact ht) (by rw[l3];exact hu)]
     have U:=h.t u hu
     by_cases e:u=t
     . rw[AAY e]
       exact⟨by simp,by simp[e],by simp,by simp,λ_ _=>T.n (by omega) (by omega),by simp⟩
     . rw[AAX e]
       exact⟨U.s,by simp[e,U.b],U.z,U.c,U.n,U.a⟩
   . have L:=h.l i hi
     exact⟨λh=>up (L.o h),L.w,L.p,λy hy=>up (L.r y hy)⟩
 rw[AAX k1]
 have h2:k≠17->(ix s.AA t).Status=2:=by
  intro gV
  unfold Kb at hr
  simp only[AAX k1,AAX gV,AAP]at hr
  exact eq_of_beq hr.1
 have h4:k=17->(ix s.AA t).Status=4/\(ix s.AA t).D8=o:=by
  intro gV
  unfold Kb at hr
  simp only[AAX k1,AAY gV,AAP]at hr
  exact⟨eq_of_beq hr.1,eq_of_beq hr.2.1⟩
 have hb:B t:=T.b.2 (by
  by_cases gV:k=17
  . have:=h4 gV;omega
  . have:=h2 gV;omega)
 refine YI.congr (B:=B) ?_ λu=>⟨λh=>h.elim id λe=>e▸hb,.inl⟩
 have own:∀{i},Ee i wv.AG.length=true->(ix s.AG i).As=[]->k≠17->YI wv B (Abs.Kc s i λx=>⟨t,x.As⟩):=λhi RF gV=>
  h.Kc hm l1 hi ⟨λ_=>hb,λh=>absurd RF h,(h.l _ hi).p,(h.l _ hi).r⟩ (.inr (.inr ⟨ht,h2 gV⟩))
 have off:∀{i},Ee i wv.AG.length=true->YI wv B (Abs.Kc s i λx=>⟨-1,x.As⟩):=λhi=>
  h.Kc hm l1 hi ⟨λh=>absurd rfl h,λh'=>⟨((h.l _ hi).w h').1,rfl⟩,(h.l _ hi).p,(h.l _ hi).r⟩ (.inl rfl)
 by_cases k2:k=2
 . rw[AAY k2]
   have h2:=h2 (by omega)
   dsimp only
   apply h.LB l3 ht
   exact⟨by simp,by simp[hb],by simp,by simp,λ_ _=>T.n (by omega) (by omega),by simp⟩
 rw[AAX k2]
 by_cases k6:k=6∨k=10
 . rw[AAY k6]
   have hi:Ee o wv.AG.length=true:=by
    rcases k6 with rfl|rfl<;>simp[CF]at ha<;>exact ha.1
   refine own hi ?_ (by omega)
   rcases k6 with rfl|rfl
   . have hw:(ix wv.AG o).RW=false:=by simp[CF]at ha;exact ha.2
     by_cases e:(ix s.AG o).As=[]
     . exact e
     . have:=(h.l o hi).w e;rw[hw]at this;simp at this
   . simp[Kb]at hr
     exact hr.2.2
 rw[AAX k6]
 by_cases k7:k=7∨k=11
 . rw[AAY k7]
   refine off ?_
   rcases k7 with rfl|rfl<;>simp[CF]at ha<;>exact ha.1
 rw[AAX k7]
 by_cases k8:k=8
 . rw[AAY k8]
   subst k8
   simp[CF]at ha
   simp[Kb]at hr
   have L:=h.l o ha.1
   dsimp only
   applyλx=>h.Kc hm l1 ha.1 x (.inr (.inl rfl))
   refine⟨L.o,λ_=>⟨ha.2,hr.2.1⟩,Zc _,?_⟩
   intro y hy
   have hy:y∈(ix s.AG o).As++[t]:=(Pb _ y).1 hy
   rcases AAj.1 hy with hy|hy
   . exact L.r y hy
   . rw[AA4.1 hy];exact hb
 rw[AAX k8]
 by_cases k9:k=9
 . rw[AAY k9]
   subst k9
   simp[CF]at ha
   have L:=h.l o ha.1
   dsimp only
   applyλx=>h.Kc hm l1 ha.1 x (.inr (.inl rfl))
   exact⟨L.o,λh'=>L.w λe=>h' (by simp[e]),L.p.sublist List.filter_sublist,λy hy=>L.r y (List.mem_filter.1 hy).1⟩
 rw[AAX k9]
 by_cases k12:k=12
 . rw[AAY k12];exact⟨h.t,h.l,λ_=>hb,h.b⟩
 rw[AAX k12]
 by_cases k13:k=13
 . rw[AAY k13];exact⟨h.t,h.l,λh=>absurd rfl h,h.b⟩
 rw[AAX k13]
 by_cases k14:k=14
 . rw[AAY k14]
   have h2:=h2 (by omega)
   dsimp only
   apply h.LB l3 ht
   exact⟨T.s,T.b,T.z,T.c,T.n,λ_=>by simp only;omega⟩
 rw[AAX k14]
 by_cases k15:k=15
 . rw[AAY k15]
   dsimp only
   apply h.LB l3 ht
   exact⟨T.s,T.b,T.z,T.c,T.n,λh=>by cases h⟩
 rw[AAX k15]
 by_cases k16:k=16
 . rw[AAY k16]
   have ho:Ee o wv.Af.length=true:=by simpa[CF,k16]using ha
   have hmu:=hm o ho
   dsimp only
   apply(off hmu).LB l3 ht
   refine⟨by simp,by simp[hb],by simp,λ_=>⟨ho,?_⟩,by simp,by simp⟩
   show(ix (s.AG.set _ _) _).CW≠t
   rw[Lw (by rw[l1];exact hmu) (by rw[l1];exact hmu),AAY rfl]
   have:=B9.1 ht
   simp only;omega
 rw[AAX k16]
 by_cases gV:k=17
 . rw[AAY gV]
   have ho:Ee o wv.Af.length=true:=by simpa[CF,gV]using ha
   have hmu:=hm o ho
   have hy:=h.LB l3 ht (f:=λx=>⟨2,0,x.Atomic⟩) ⟨by simp,by simp[hb],by simp,by simp,by simp,by simp⟩
   refine hy.Kc hm l1 (f:=λx=>⟨t,x.As⟩) hmu ⟨λ_=>hb,λh'=> ?_,(h.l _ hmu).p,(h.l _ hmu).r⟩ (.inr (.inr ⟨ht,?_⟩))
   . have hw:=((h.l _ hmu).w h').1
     rw[hq o ho]at hw;cases hw
   . show(ix (s.AA.set t.toNat _) t).Status=2
     rw[Lw (by rw[l3];exact ht) (by rw[l3];exact ht),AAY rfl]
 rw[AAX gV]
 by_cases UR:k=18
 . rw[AAY UR]
   by_cases hW:Bz o 0 s.AA=[]
   . simp only[hW,AAs];exact h
   . simp only[hW,AAe]
     obtain⟨d1,d2⟩:=AAK l3 (nN (wake:=wake) hW)
     have D:=h.t _ d1
     apply h.LB l3 d1
     exact⟨by simp[Hv],by simp[Hv];exact D.b.2 (by omega),by simp[Hv],λ_=>D.c (.inl d2),by simp[Hv],by simp[Hv]⟩
 rw[AAX UR]
 by_cases jK:k=19
 . rw[AAY jK]
   refine⟨λu hu=> ?_,h.l,h.x,h.b⟩
   show TI wv B s.AG u (ix (s.AA.map (IM o)) u)
   rw[ix_map (by rw[l3];exact hu)]
   have U:=h.t u hu
   unfold IM
   by_cases hw:Ia (ix s.AA u) o=true
   . have d2:(ix s.AA u).Status=3:=by
      unfold Ia at hw
      simp only[AAP]at hw
      exact eq_of_beq hw.1
     rw[AAY hw]
     exact⟨by simp[Hv],by simp[Hv];exact U.b.2 (by omega),by simp[Hv],λ_=>U.c (.inl d2),by simp[Hv],by simp[Hv]⟩
   . rw[AAX hw];exact U
 rw[AAX jK]
 by_cases k20:k=20
 . rw[AAY k20]
   have ho:Ee o wv.AA.length=true:=by simpa[CF,k20]using ha
   have O:=h.t o ho
   have hs:(ix s.AA o).Status=0:=by simp[Kb,k20]at hr;exact hr.2.2
   have nb:¬B o:=λh=>by have:=O.b.1 h;omega
   dsimp only
   apply h.LB l3 ho
   exact⟨by simp,by simp[nb],by simp,by simp,λ_ _=>O.n (by omega) (by omega),λh=>by have:=O.a h;omega⟩
 rw[AAX k20]
 by_cases Tk:k=22
 . rw[AAY Tk];exact⟨h.t,h.l,h.x,h.b⟩
 rw[AAX Tk];exact h
def begB (wv:AD) (c:List Int) (u:Int):Prop:=Ee u wv.AA.length=true/\1≤ix c u
structure WI (wv:AD) (pre:List AH) (s:AB):Prop where
 f:MJ wv s=true
 c:∀u,Ee u wv.AA.length=true->ix s.Count u=((OB pre u).length:Int)
 m:s.Count.sum=(pre.length:Int)
 y:YI wv (begB wv s.Count) s.Sync
 d:∀i,Ee i wv.AK.length=true->ix s.Sync.Bq i=false->ix s.AK i=0
theorem sum_set {l:List Int}:∀{i:Nat} {x:Int},i<l.length->(l.set i x).sum=l.sum+(x-l.getD i 0):=by
 induction l with
 |nil=>intro i x h;simp at h
 |cons a r ih=>
  intro i x h
  cases i with
  |zero=>simp;omega
  |succ i=>
   have:=ih (i:=i) (x:=x) (by simpa using h)
   simp only[List.set_cons_succ,List.sum_cons,List.getD_cons_succ,this];omega
theorem V6 {α:Type} [Inhabited α] {n:Nat} {a:α} {i:Int} (h:Ee i n=true):ix (List.replicate n a) i=a:=by
 have:=B9.1 h
 unfold ix
 rw[List.getElem?_replicate,AAY (by omega)];rfl
theorem PK {wv:AD} (h:Ck wv=true):wv.Af.all (NY wv)=true/\1≤wv.AA.length:=by
 unfold Ck at h
 simp only[AAP,AAf]at h
 obtain⟨h1,h⟩:=h
 refine⟨?_,by omega⟩
 split at h
 . simp only[AAP]at h;exact h.1.2
 . cases h
theorem Vk {wv:AD} (h:Ck wv=true):∀o,Ee o wv.Af.length=true->(ix wv.AG (ix wv.Af o).Mutex).RW=false:=by
 intro o ho
 have hc:=(PK h).1
 have:=B9.1 ho
 have hx:o.toNat<wv.Af.length:=by omega
 have:=AAU.1 hc (ix wv.Af o) (by unfold ix;rw[AAT hx];exact AAi hx)
 unfold NY at this
 simp only[AAP,ABU]at this
 exact this.2
theorem WI.start {wv:AD} (h:Ck wv=true):WI wv [] (Gg wv):=by
 have hw:=EC h
 have hc:=Vk h
 have h1:=(PK h).2
 have nb:∀u,¬begB wv (Gg wv).Count u:=λu ⟨hu,h2⟩=>by
  have:ix (Gg wv).Count u=0:=V6 hu
  omega
 have fm:wv.Af.all (λc=>Ee c.Mutex wv.AG.length)=true:=by
  have hc:=(PK h).1
  refine AAU.2 λx hx=> ?_
  have:=AAU.1 hc x hx
  unfold NY at this
  simp only[AAP]at this
  exact this.1
 refine⟨?_,λu hu=>V6 hu,?_,⟨λu hu=> ?_,λi hi=> ?_,λh=>absurd rfl h,λu hu=>hu.1⟩,λi hi _=>V6 hi⟩
 . unfold MJ G8 Gg Mj;simp[fm]
 . show(List.replicate wv.AA.length (0:Int)).sum=0
   induction wv.AA.length with
   |zero=>rfl
   |succ n ih=>rw[List.replicate_succ,List.sum_cons,ih];rfl
 . show TI wv _ _ u (ix ((List.replicate wv.AA.length (⟨0,0,false⟩:AE)).set (0:Int).toNat ⟨1,0,false⟩) u)
   rw[Lw (B9.2 (by simp;omega)) (by simpa using hu)]
   by_cases e:u=0
   . rw[AAY e];exact⟨by simp,by simp[nb],by simp,by simp,by simp,by simp⟩
   . rw[AAX e,V6 hu];exact⟨by simp,by simp[nb],λh=>absurd h e,by simp,by simp,by simp⟩
 . show LI wv _ i (ix (List.replicate wv.AG.length (⟨-1,[]⟩:AW)) i)
   rw[V6 hi];exact⟨by simp,by simp,by simp,by simp⟩
theorem WI.next {wv:AD} {pre:List AH} {s:AB} {e:AH} (hq:∀o,Ee o wv.Af.length=true->(ix wv.AG (ix wv.Af o).Mutex).RW=false) (h:WI wv pre s) (hl:pre.length≤100000) (hp:Kf wv s e=true):WI wv (pre++[e]) (GL wv s e):=by
 have xH:=hp
 unfold Kf at xH
 simp only[AAP]at xH
 obtain⟨hf,ht,he,_,_,_⟩:=xH
 obtain⟨f1,f2,f3,f4⟩:=Nn hf
 obtain⟨l1,l2,l3⟩:=FA f1
 have hr:=Ly pre e.Thread
 have hc:=h.c e.Thread ht
 have hw:Ap (ix s.Count e.Thread+1)=((OB pre e.Thread).length:Int)+1:=by rw[hc,DR (by omega) (by omega)]
 have hC:∀u,Ee u wv.AA.length=true->ix (GL wv s e).Count u=if u=e.Thread then((OB pre e.Thread).length:Int)+1 else ix s.Count u:=by
  intro u hu
  show ix (s.Count.set e.Thread.toNat _) u=_
  rw[Lw (by rw[f4];exact ht) (by rw[f4];exact hu),hw]
 refine⟨?_,λu hu=> ?_,?_,?_,λi hi hd=> ?_⟩
 . have:=gA f1 e.Thread e.Kind e.Obj (if e.Kind=18 then e.Value else -1)
   unfold MJ GL
   simp only[this,AA0,List.length_set,f4,ABB,Bool.and_true,AAP,AAd]
   constructor
   . split<;>simp[f2]
   . split<;>simp[f3]
 . rw[hC u hu,NF]
   by_cases e1:u=e.Thread
   . rw[AAY e1,AAY e1.symm];simp[e1]
   . rw[AAX e1,AAX (λh=>e1 h.symm),h.c u hu]
 . show(s.Count.set e.Thread.toNat _).sum=_
   have hi:=B9.1 ht
   have:ix s.Count e.Thread=s.Count.getD e.Thread.toNat 0:=by unfold ix;rw[List.getD_eq_getElem?_getD];rfl
   rw[sum_set (by omega),h.m,hw,← this,hc];simp;omega
 . refine(h.y.apply hq he (wake:=if e.Kind=18 then e.Value else -1)).congr λu=> ?_
   constructor
   . rintro⟨hu,h2⟩
     rw[hC u hu]at h2
     by_cases e1:u=e.Thread
     . exact .inr e1
     . rw[AAX e1]at h2;exact .inl ⟨hu,h2⟩
   . rintro(⟨hu,h2⟩|rfl)
     . refine⟨hu,?_⟩
       rw[hC u hu];split<;>omega
     . refine⟨ht,?_⟩
       rw[hC _ ht,AAY rfl];omega
 . unfold DC at he
   simp only[AAP]at he
   obtain⟨_,_,ha,hr⟩:=he
   have hD:(EN wv s.Sync e.Thread e.Kind e.Obj (if e.Kind=18 then e.Value else -1)).1.Bq=if e.Kind=22 then s.Sync.Bq.set e.Obj.toNat true else s.Sync.Bq:=by
    unfold EN
    by_cases Tk:e.Kind=22
    . simp[Tk]
    . rw[AAX Tk,AAX Tk]
      have key:∀(p:Prop) [Decidable p] (a b:AN×Int),a.1.Bq=s.Sync.Bq->b.1.Bq=s.Sync.Bq->(if p then a else b).1.Bq=s.Sync.Bq:=by
       intro p _ a b ha hb;split<;>assumption
      repeat' refine key _ _ _ ?_ ?_
      all_goals first
       |rfl
       | (by_cases hW:Bz e.Obj 0 s.Sync.AA=[]<;>simp only[hW,AAs,AAe]<;>rfl)
   have hd:ix (if e.Kind=22 then s.Sync.Bq.set e.Obj.toNat true else s.Sync.Bq) i=false:=by rw[← hD];exact hd
   show ix (if e.Kind=22 then s.AK.set e.Obj.toNat e.Value else s.AK) i=0
   by_cases Tk:e.Kind=22
   . rw[AAY Tk]at hd ⊢
     have ho:Ee e.Obj wv.AK.length=true:=by simpa[CF,Tk]using ha
     rw[Lw (by rw[l2];exact ho) (by rw[l2];exact hi)]at hd
     rw[Lw (by rw[f3];exact ho) (by rw[f3];exact hi)]
     by_cases e1:i=e.Obj
     . rw[AAY e1]at hd;cases hd
     . rw[AAX e1]at hd ⊢;exact h.d i hi hd
   . rw[AAX Tk]at hd ⊢;exact h.d i hi hd
def Tj (f:Nat->Bool):Nat->Nat->Bool
 |_,0=>true
 |i,k+1=>f i&&Tj f (i+1) k
theorem allF_iff {f:Nat->Bool}:∀{k i:Nat},Tj f i k=true↔∀j,i≤j->j<i+k->f j=true
 |0,i=>by simp[Tj];omega
 |k+1,i=>by
  unfold Tj
  rw[AAP,allF_iff]
  constructor
  . rintro⟨h1,h2⟩ j hj hk
    by_cases e:j=i
    . subst e;exact h1
    . exact h2 j (by omega) (by omega)
  . exactλh=>⟨h i (by omega) (by omega),λj hj hk=>h j (by omega) (by omega)⟩
theorem allF_and (f g:Nat->Bool):∀k i:Nat,Tj (λj=>f j&&g j) i k=(Tj f i k&&Tj g i k)
 |0,i=>rfl
 |k+1,i=>by
  unfold Tj
  rw[allF_and f g k (i+1)]
  cases f i<;>cases g i<;>simp
def aI (c:List Int) (t:Int):Bool:=Ee t c.length&&decide (1≤ix c t)
def sI (w:AO):Bool:=Tj (λi=>decide (0≤ix w.Init.Count i)&&decide (ix w.Init.Count i≤400)) 0 w.Init.Count.length&&(w.Start==w.Init.Count.sum&&decide (w.Init.Count.sum+w.AF.length≤400))
def waitsW (x:AE):Bool:=x.Status==3||x.Status==4
def statW (w:AO) (i:Nat) (x:AE):Bool:=
 (decide (0≤x.Status)&&decide (x.Status≤5))&&((decide (x.Status≤1)==(ix w.Init.Count i==0))&&(!(i==0&&x.Status==0)&&(if waitsW x=true then Ee x.D8 w.World.Af.length else x.D8==0)))
def ownW (w:AO) (i:Nat) (x:AE):Bool:= !waitsW x||(ix w.Init.Sync.AG (ix w.World.Af x.D8).Mutex).CW != (i:Int)
def atomW (w:AO) (i:Nat) (x:AE):Bool:= !x.Atomic||aI w.Init.Count i
def eA (c:List Int):Int->List Int->Bool
 |_,[]=>true
 |last,t::r=>decide (last<t)&&(aI c t&&eA c t r)
def lockW (w:AO) (i:Nat) (x:AW):Bool:=(x.CW== -1||aI w.Init.Count x.CW)&&((x.As.isEmpty||((ix w.World.AG i).RW&&x.CW== -1))&&eA w.Init.Count (-1) x.As)
def txW (w:AO):Bool:=w.Init.Sync.Tx== -1||aI w.Init.Count w.Init.Sync.Tx
def futW (w:AO) (i:Nat):Bool:=ix w.Init.Sync.Bq i||ix w.Init.AK i==0
def dZ (c:Int) (reads:List Bool) (k:Int):Bool:=decide (k<c)||NV reads (k-c)
def readsW (c:List Int) (pre:List AH) (x:AH):Bool:=x.D9.all (dZ (ix c x.Thread) (OB pre x.Thread))&&x.Db.all (dZ (ix c x.Thread) (OB pre x.Thread))
def posW (wv:AD) (c:List Int):List AH->AB->List AH->Bool
 |_,_,[]=>true
 |pre,s,x::r=>Kf wv s x&&(readsW c pre x&&posW wv c (pre++[x]) (GL wv s x) r)
abbrev dJ (w:AO) (i:Nat):AE:=ix w.Init.Sync.AA i
def stateW (w:AO):Bool:=sI w&&(Tj (λi=>statW w i (dJ w i)) 0 w.Init.Sync.AA.length&&(Tj (λi=>ownW w i (dJ w i)) 0 w.Init.Sync.AA.length&&
 (Tj (λi=>lockW w i (ix w.Init.Sync.AG i)) 0 w.Init.Sync.AG.length&&(txW w&&(Tj (λi=>atomW w i (dJ w i)) 0 w.Init.Sync.AA.length&&Tj (futW w) 0 w.Init.AK.length)))))
def validW (w:AO):Bool:=Ck w.World&&(MJ w.World w.Init&&(decide (w.AF.length≤16)&&(stateW w&&posW w.World w.Init.Count [] w.Init w.AF)))
theorem rdB_app (a b:List AH) (t:Int):OB (a++b) t=OB a t++OB b t:=by
 unfold OB;rw[List.filter_append,AA9]
def Gw (t:Az) (n:Nat):AB:=(t.AF.take n).foldl (GL t.World) (Gg t.World)
theorem OH {t:Az} {n:Nat} (h:n<t.AF.length):Gw t (n+1)=GL t.World (Gw t n) t.AF[n]:=by
 unfold Gw
 rw[← AAk h,List.foldl_append];rfl
theorem eU {t:Az} (hw:Ck t.World=true) (hl:t.AF.length≤400) (hc:Hg t.World [] (Gg t.World) t.AF=(0,0)):∀n,n≤t.AF.length->WI t.World (t.AF.take n) (Gw t n)/\Hg t.World (t.AF.take n) (Gw t n) (t.AF.drop n)=(0,0):=by
 have hq:=Vk hw
 intro n
 induction n with
 |zero=>intro _;exact⟨WI.start hw,hc⟩
 |succ n ih=>
  intro hn
  obtain⟨a,b⟩:=ih (by omega)
  rw[ABH (by omega),Hg]at b
  split at b
  . rename_i hp
    rw[AAP]at hp
    rw[OH (by omega),← AAk (by omega)]
    exact⟨a.next hq (by simp;omega) hp.1,b⟩
  . exact absurd (congrArg Prod.snd b) (λh:(12:Int)=0=>by cases h)
theorem lJ {L:Nat->Int->ABp Bool} {N:Nat} {p:Nat->Bool} {R:ABp Bool} (hs:∀(n i:Nat),i<N->L (n+1) (i:Int)=if p i=true then L n ((i+1:Nat):Int)else some false)
 (he:∀n,L (n+1) (N:Int)=R):∀n i:Nat,i≤N->N<n+i->L n (i:Int)=if Tj p i (N-i)=true then R else some false
 |0,i,h1,h2=>by omega
 |n+1,i,h1,h2=>by
  by_cases hi:i<N
  . rw[hs n i hi,show N-i=(N-(i+1))+1 from by omega,Tj]
    cases hp:p i with
    |false=>rfl
    |true=>rw[AAY rfl,AA0,lJ hs he n (i+1) (by omega) (by omega)]
  . have:i=N:=by omega
    subst this
    rw[he,Nat.sub_self];rfl
def cntB (w:AO) (i:Nat):Bool:=decide (0≤ix w.Init.Count i)&&decide (ix w.Init.Count i≤400)
theorem wcount_loop (w:AO) (hl:w.Init.Count.length≤4):∀(n i:Nat) (c:Int),i≤w.Init.Count.length->w.Init.Count.length<n+i->0≤c->c≤400*i->Ec.Aa w n c (i:Int)=if Tj (cntB w) i (w.Init.Count.length-i)=true then Ec.J2 w (c+(w.Init.Count.drop i).sum)else some false
 |0,i,c,h1,h2,h3,h4=>by omega
 |n+1,i,c,h1,h2,h3,h4=>by
  unfold Ec.Aa Ec.L1
  by_cases hi:i<w.Init.Count.length
  . rw[BC (by omega),CU hi,AAO,show w.Init.Count.length-i=(w.Init.Count.length-(i+1))+1 from by omega,Tj,E6 hi,List.sum_cons]
    unfold cntB Ec.J1
    rw[sA hi]
    generalize w.Init.Count[i]=d
    by_cases g1:d<0
    . rw[BC g1,AAY rfl,show decide (0≤d)=false from by simpa using g1];rfl
    . rw[Ac g1]
      by_cases g2:d>400
      . rw[show decide (d>400)=true from by simpa using g2,AAY rfl,show decide (d≤400)=false from by simp;omega,Bool.and_false,Bool.false_and];rfl
      . rw[show decide (d>400)=false from by simpa using g2,AAX (by simp),DR (by omega) (by omega),Ao (by omega),wcount_loop w hl n (i+1) _ (by omega) (by omega) (by omega) (by omega),show decide (0≤d)=true from by simp;omega,show decide (d≤400)=true from by simp;omega,Int.add_assoc]
        rfl
  . rw[Ac (by omega),GM hi,List.sum_nil,Int.add_zero,show w.Init.Count.length-i=0 from by omega];rfl
theorem rcount_loop (w:AO) (hl:w.Init.Count.length≤4):∀(n i:Nat) (c:Int),i≤w.Init.Count.length->w.Init.Count.length<n+i->0≤c->c≤400*i->G9.Aa w n c (i:Int)=Ec.Aa w n c (i:Int)
 |0,i,c,h1,h2,h3,h4=>by omega
 |n+1,i,c,h1,h2,h3,h4=>by
  unfold G9.Aa G9.L1 Ec.Aa Ec.L1
  by_cases hi:i<w.Init.Count.length
  . rw[BC (by omega),BC (by omega),CU hi,AAO,AAO]
    unfold G9.J1 Ec.J1
    rw[CU hi,AAO]
    generalize w.Init.Count[i]=d
    by_cases g1:d<0
    . rw[BC g1,BC g1];rfl
    . rw[Ac g1,Ac g1]
      by_cases g2:d>400
      . rw[show decide (d>400)=true from by simpa using g2];rfl
      . rw[show decide (d>400)=false from by simpa using g2,AAX (by simp),AAX (by simp),DR (by omega) (by omega),Ao (by omega),rcount_loop w hl n (i+1) _ (by omega) (by omega) (by omega) (by omega)]
  . rw[Ac (by omega),Ac (by omega)];rfl
theorem counted_eq (w:AO) (hl:w.Init.Count.length≤4) (he:w.AF.length≤16):Ec w=some (sI w):=by
 have hb:=B1
 unfold Ec
 have:=wcount_loop w hl BT 0 0 (by omega) (by omega) (by omega) (by omega)
 rw[Int.natCast_zero]at this
 rw[this,Nat.sub_zero,AAq,Int.zero_add]
 unfold sI
 change (if Tj (cntB w) 0 _=true then _ else _)=some (Tj (cntB w) 0 _&&_)
 cases ha:Tj (cntB w) 0 w.Init.Count.length with
 |false=>rfl
 |true=>
  rw[AAY rfl,AA0]
  unfold Ec.J2 Ec.J3
  have hs:0≤w.Init.Count.sum/\w.Init.Count.sum≤1600:=by
   have h1:=allF_iff.1 ha
   have key:∀l:List Int,(∀x∈l,0≤x/\x≤400)->0≤l.sum/\l.sum≤400*l.length:=by
    intro l
    induction l with
    |nil=>intro _;simp
    |cons x l ih=>
     intro h
     have a:=h x (by simp);have b:=ih λy hy=>h y (by simp[hy])
     simp only[List.sum_cons,AA7];omega
   have:=key w.Init.Count λx hx=>by
    obtain⟨j,hj,rfl⟩:=List.getElem_of_mem hx
    have:=h1 j (by omega) (by omega)
    unfold cntB at this
    rw[sA hj]at this
    simpa using this
   omega
  rw[DR (by omega) (by omega)]
  cases w.Start==w.Init.Count.sum<;>rfl
theorem rcounts_eq (w:AO) (hl:w.Init.Count.length≤4) (he:w.AF.length≤16):G9 w=some (sI w):=by
 rw[← counted_eq w hl he]
 exact rcount_loop w hl BT 0 0 (by omega) (by have:=B1;omega) (by omega) (by omega)
theorem st_cases {P:Int->Prop} (h0:∀x,x<0->P x) (h6:∀x,5<x->P x) (a0:P 0) (a1:P 1) (a2:P 2) (a3:P 3) (a4:P 4) (a5:P 5) (x:Int):P x:=by
 by_cases g:x<0
 . exact h0 x g
 . by_cases k:5<x
   . exact h6 x k
   . have:x=0∨x=1∨x=2∨x=3∨x=4∨x=5:=by omega
     rcases this with h|h|h|h|h|h<;>subst h<;>assumption
structure WinF (w:AO):Prop where
 v:Ck w.World=true
 f:MJ w.World w.Init=true
 e:w.AF.length≤16
structure l7 (w:AO):Prop where
 s:Small w.World
 l:w.Init.Sync.AG.length=w.World.AG.length
 d:w.Init.Sync.Bq.length=w.World.AK.length
 t:w.Init.Sync.AA.length=w.World.AA.length
 u:w.Init.AK.length=w.World.AK.length
 c:w.Init.Count.length=w.World.AA.length
 m:∀o,Ee o w.World.Af.length=true->Ee (ix w.World.Af o).Mutex w.World.AG.length=true
theorem WinF.l {w:AO} (h:WinF w):l7 w:=by
 obtain⟨f1,f2,f3,f4⟩:=Nn h.f
 obtain⟨l1,l2,l3⟩:=FA f1
 exact⟨EC h.v,l1,l2,l3,f3,f4,λo ho=>HH f1 ho⟩
theorem vthread_step {w:AO} (h:l7 w) (n i:Nat) (hi:i<w.Init.Sync.AA.length):
 CY.Aa w (n+1) (i:Int)=if(statW w i (dJ w i)&&ownW w i (dJ w i))=true then CY.Aa w n ((i+1:Nat):Int)else some false:=by
 have h3:=h.s.t;have h4:=h.t;have h5:=h.c
 rw[CY.Aa]
 unfold CY.L1 dJ
 rw[BC (by omega),CU hi,AAO,sA hi]
 generalize w.Init.Sync.AA[i]=x
 unfold CY.J1 CY.J2 CY.J3 CY.J4 CY.J5
 rw[Ao (by omega)]
 generalize CY.Aa w n ((i+1:Nat):Int)=R
 rw[Cd (l:=w.Init.Count) (B9.2 (by omega))]
 simp only[AAO,AAs,AAe,AAW]
 unfold statW ownW waitsW
 have hz:((i:Int)==0)=(i==0):=by rw[Bool.eq_iff_iff,AAd,AAd];omega
 rw[hz]
 generalize (ix w.Init.Count (i:Int)==0)=c
 have E7:(if decide (x.D8<0)=true then some false else if decide (x.D8≥(w.World.Af.length:Int))=true then some false else
  (gt w.World.Af x.D8).bind λl=>(gt w.Init.Sync.AG l.Mutex).bind λo=>if(o.CW==(i:Int))=true then some false else R)=
  if(Ee x.D8 w.World.Af.length&&(ix w.Init.Sync.AG (ix w.World.Af x.D8).Mutex).CW != (i:Int))=true then R else some false:=by
  by_cases g1:x.D8<0
  . rw[BC g1,show Ee x.D8 w.World.Af.length=false from by rw[Bool.eq_false_iff];intro h;have:=B9.1 h;omega];rfl
  . rw[Ac g1]
    by_cases g2:x.D8≥(w.World.Af.length:Int)
    . rw[BC g2,show Ee x.D8 w.World.Af.length=false from by rw[Bool.eq_false_iff];intro h;have:=B9.1 h;omega];rfl
    . have hb:Ee x.D8 w.World.Af.length=true:=B9.2 (by omega)
      rw[Ac g2,Cd hb,AAO,Cd (by rw[h.l];exact h.m _ hb),AAO,hb,AA0]
      cases hq:(ix w.Init.Sync.AG (ix w.World.Af x.D8).Mutex).CW==(i:Int)<;>simp[bne,hq]
 generalize x.D8=co at E7 ⊢
 generalize x.Status=st
 revert st
 refine st_cases ?_ ?_ ?_ ?_ ?_ ?_ ?_ ?_
 . intro x hx;rw[BC hx,show decide (0≤x)=false from by simp;omega];rfl
 . intro x hx;rw[Ac (by omega),BC (by omega),show decide (x≤5)=false from by simp;omega,Bool.and_false];rfl
 . cases c<;>cases(i==0)<;>by_cases g:co=0<;>simp[g]
 . cases c<;>cases(i==0)<;>by_cases g:co=0<;>simp[g]
 . cases c<;>cases(i==0)<;>by_cases g:co=0<;>simp[g]
 . cases c<;>cases(i==0)<;>simp<;>simpa using E7
 . cases c<;>cases(i==0)<;>simp<;>simpa using E7
 . cases c<;>cases(i==0)<;>by_cases g:co=0<;>simp[g]
theorem ref18_in_eq (i:Int) (n:Nat):Ks i (n:Int)=some (Ee i n):=P6 i n
theorem rstat_step {w:AO} (h:l7 w) (n i:Nat) (hi:i<w.Init.Sync.AA.length):
 Eb.Aa w (n+1) (i:Int)=if statW w i (dJ w i)=true then Eb.Aa w n ((i+1:Nat):Int)else some false:=by
 have h3:=h.s.t;have h4:=h.t;have h5:=h.c
 rw[Eb.Aa]
 unfold Eb.L1 dJ
 unfold Eb.J1 Eb.J2 Eb.J3 Eb.J4
 rw[BC (by omega),CU hi,sA hi]
 generalize w.Init.Sync.AA[i]=x
 rw[Ao (by omega)]
 generalize Eb.Aa w n ((i+1:Nat):Int)=R
 rw[Cd (l:=w.Init.Count) (B9.2 (by omega))]
 simp only[AAO,AAs,AAe,AAW,ref18_in_eq]
 unfold statW waitsW
 have hz:((i:Int)==0)=(i==0):=by rw[Bool.eq_iff_iff,AAd,AAd];omega
 rw[hz]
 generalize (ix w.Init.Count (i:Int)==0)=c
 generalize Ee x.D8 w.World.Af.length=b
 generalize x.D8=co
 generalize x.Status=st
 revert st
 refine st_cases ?_ ?_ ?_ ?_ ?_ ?_ ?_ ?_
 . intro x hx;rw[show decide (0≤x)=false from by simp;omega,show decide (x<0)=true from by simpa using hx];simp
 . intro x hx;rw[show decide (x≤5)=false from by simp;omega,show decide (x>5)=true from by simpa using hx];simp
 all_goals cases c<;>cases(i==0)<;>cases b<;>by_cases g:co=0<;>simp[g]
theorem vbegun_eq (w:AO) (t:Int):B6 t w=some (aI w.Init.Count t):=by
 unfold B6 B6.J1 aI
 by_cases h:Ee t w.Init.Count.length=true
 . have:=B9.1 h
   rw[BC (by omega),BC (by omega),Cd h,h];rfl
 . rw[show Ee t w.Init.Count.length=false from by simpa using h]
   by_cases g:t≥0
   . rw[BC g,Ac (λk=>h (B9.2 ⟨g,k⟩))];rfl
   . rw[Ac g];rfl
theorem rbegun_eq (w:AO) (t:Int):GD w t=some (aI w.Init.Count t):=by
 unfold GD GD.J1 aI
 rw[ref18_in_eq,AAO]
 cases h:Ee t w.Init.Count.length with
 |true=>rw[AAY rfl,Cd h];rfl
 |false=>rfl
theorem vreaders (w:AO) (x:AW) (hl:x.As.length≤4611686018427387904) (L1:Int->ABp Bool) (b:Int):∀(n e:Nat) (f:Int),e≤x.As.length->x.As.length<n+e->
 BZ.C2 L1 b w x n f (e:Int)=if eA w.Init.Count f (x.As.drop e)=true then L1 (Ap (b+1))else some false
 |0,e,f,h1,h2=>by omega
 |n+1,e,f,h1,h2=>by
  unfold BZ.C2 BZ.L2
  by_cases he:e<x.As.length
  . rw[BC (by omega),CU he,AAO,E6 he,eA,vbegun_eq,AAO]
    unfold BZ.J3
    by_cases g:x.As[e]≤f
    . rw[BC g,show decide (f<x.As[e])=false from by simpa using g];rfl
    . rw[Ac g,show decide (f<x.As[e])=true from by simpa using g,AA0,Ao (by omega)]
      cases aI w.Init.Count x.As[e]with
      |false=>rfl
      |true=>rw[AAX (by simp),AA0];exact vreaders w x hl L1 b n (e+1) _ (by omega) (by omega)
  . rw[Ac (by omega),GM he];rfl
theorem rreaders (w:AO) (x:AW) (hl:x.As.length≤4611686018427387904) (L1:Int->ABp Bool) (b:Int):∀(n e:Nat) (f:Int),e≤x.As.length->x.As.length<n+e->
 (∀(h:0<e) (h':e-1<x.As.length),f=x.As[e-1])->(e=0->f= -1)->
 C7.C2 L1 b w x n (e:Int)=if eA w.Init.Count f (x.As.drop e)=true then L1 (Ap (b+1))else some false
 |0,e,f,h1,h2,_,_=>by omega
 |n+1,e,f,h1,h2,h3,h4=>by
  unfold C7.C2 C7.L2
  by_cases he:e<x.As.length
  . rw[BC (by omega),CU he,AAO,E6 he,eA,rbegun_eq,AAO]
    unfold C7.J2
    have ih:=rreaders w x hl L1 b n (e+1) x.As[e] (by omega) (by omega) (λ_ _=>rfl) (λh=>by omega)
    cases hb:aI w.Init.Count x.As[e]with
    |false=>rw[Bool.false_and,Bool.and_false];rfl
    |true=>
     have dK:=B9.1 (AAP _ _▸hb).1
     rw[AAX (by simp),Ao (by omega),AA0]
     by_cases g:0<e
     . rw[BC (by omega),DR (by omega) (by omega),show(e:Int)-1=((e-1:Nat):Int)from by omega,CU (by omega),AAO,← h3 g (by omega)]
       by_cases k:x.As[e]≤f
       . rw[AAY (by simpa using k),show decide (f<x.As[e])=false from by simpa using k];rfl
       . rw[AAX (by simpa using k),show decide (f<x.As[e])=true from by simpa using k,AA0,ih]
     . rw[Ac (by omega),AAX (by simp),show decide (f<x.As[e])=true from by have:=h4 (by omega);simp;omega,AA0,ih]
  . rw[Ac (by omega),GM he];rfl
theorem isEmpty_pos {α:Type} (l:List α):decide ((l.length:Int)>0)= !l.isEmpty:=by cases l<;>simp<;>omega
theorem vlock_step {w:AO} (h:l7 w) (hr:RB 4611686018427387904 w.Init.Sync) (n i:Nat) (hi:i<w.Init.Sync.AG.length):
 BZ.Aa w (n+1) (i:Int)=if lockW w i (ix w.Init.Sync.AG i)=true then BZ.Aa w n ((i+1:Nat):Int)else some false:=by
 have h3:=h.s.l;have h4:=h.l
 rw[BZ.Aa]
 unfold BZ.L1
 rw[BC (by omega),CU hi,AAO,sA hi,vbegun_eq,AAO]
 have hx:=hr _ (AAi hi)
 generalize w.Init.Sync.AG[i]=x at hx ⊢
 unfold BZ.J1 BZ.J2
 have hv:=vreaders w x hx (BZ.Aa w n) i BT 0 (-1) (by omega) (by have:=B1;omega)
 rw[Int.natCast_zero,AAq,Ao (by omega)]at hv
 rw[hv,isEmpty_pos,Cd (B9.2 (by omega)),AAO]
 generalize BZ.Aa w n ((i+1:Nat):Int)=R
 unfold lockW
 generalize eA w.Init.Count (-1) x.As=b
 generalize (ix w.World.AG (i:Int)).RW=rw_
 generalize aI w.Init.Count x.CW=bo
 by_cases g:x.CW= -1
 . rw[g];cases x.As.isEmpty<;>cases rw_<;>cases b<;>rfl
 . have e:(x.CW== -1)=false:=by simpa using g
   rw[show(x.CW != -1)=true from by simpa using g,e];cases x.As.isEmpty<;>cases rw_<;>cases b<;>cases bo<;>rfl
theorem rlock_step {w:AO} (h:l7 w) (hr:RB 4611686018427387904 w.Init.Sync) (n i:Nat) (hi:i<w.Init.Sync.AG.length):
 C7.Aa w (n+1) (i:Int)=if lockW w i (ix w.Init.Sync.AG i)=true then C7.Aa w n ((i+1:Nat):Int)else some false:=by
 have h3:=h.s.l;have h4:=h.l
 rw[C7.Aa]
 unfold C7.L1
 rw[BC (by omega),CU hi,AAO,sA hi,rbegun_eq,AAO]
 have hx:=hr _ (AAi hi)
 generalize w.Init.Sync.AG[i]=x at hx ⊢
 unfold C7.J1
 have hv:=rreaders w x hx (C7.Aa w n) i BT 0 (-1) (by omega) (by have:=B1;omega) (λh=>by omega) (λ_=>rfl)
 rw[Int.natCast_zero,AAq,Ao (by omega)]at hv
 rw[hv,isEmpty_pos,Cd (B9.2 (by omega)),AAO]
 generalize C7.Aa w n ((i+1:Nat):Int)=R
 unfold lockW
 generalize eA w.Init.Count (-1) x.As=b
 generalize (ix w.World.AG (i:Int)).RW=rw_
 generalize aI w.Init.Count x.CW=bo
 by_cases g:x.CW= -1
 . rw[g];cases x.As.isEmpty<;>cases rw_<;>cases b<;>rfl
 . have e:(x.CW== -1)=false:=by simpa using g
   rw[show(x.CW != -1)=true from by simpa using g,e];cases x.As.isEmpty<;>cases rw_<;>cases b<;>cases bo<;>rfl
theorem vatom_step {w:AO} (h:l7 w) (n i:Nat) (hi:i<w.Init.Sync.AA.length):
 BZ.Gm w (n+1) (i:Int)=if atomW w i (dJ w i)=true then BZ.Gm w n ((i+1:Nat):Int)else some false:=by
 have h3:=h.s.t;have h4:=h.t
 rw[BZ.Gm]
 unfold BZ.L3 BZ.J7 dJ atomW
 rw[BC (by omega),CU hi,AAO,sA hi,vbegun_eq,AAO,Ao (by omega)]
 generalize BZ.Gm w n ((i+1:Nat):Int)=R
 cases w.Init.Sync.AA[i].Atomic<;>cases aI w.Init.Count (i:Int)<;>rfl
theorem ratom_step {w:AO} (h:l7 w) (n i:Nat) (hi:i<w.Init.Sync.AA.length) (hs:statW w i (dJ w i)=true):
 C7.Gm w (n+1) (i:Int)=if(atomW w i (dJ w i)&&ownW w i (dJ w i))=true then C7.Gm w n ((i+1:Nat):Int)else some false:=by
 have h3:=h.s.t;have h4:=h.t
 rw[C7.Gm]
 unfold C7.L3 C7.J6 C7.J7
 unfold statW at hs
 unfold dJ at hs ⊢
 unfold atomW ownW
 rw[BC (by omega),CU hi,AAO,sA hi,rbegun_eq,AAO,Ao (by omega)]
 rw[sA hi]at hs
 generalize C7.Gm w n ((i+1:Nat):Int)=R
 generalize w.Init.Sync.AA[i]=x at hs ⊢
 simp only[AAP]at hs
 obtain⟨_,_,_,hc⟩:=hs
 unfold waitsW at hc ⊢
 have fin:∀(a:Bool),(if(!a)=true then some false else if(x.Status==3)=true then(gt w.World.Af x.D8).bind λz=>(gt w.Init.Sync.AG z.Mutex).bind λq=>if(q.CW==(i:Int))=true then some false else R
  else if(x.Status==4)=true then(gt w.World.Af x.D8).bind λz=>(gt w.Init.Sync.AG z.Mutex).bind λq=>if(q.CW==(i:Int))=true then some false else R else if false=true then some false else R)=
  if(a&&(!(x.Status==3||x.Status==4)||(ix w.Init.Sync.AG (ix w.World.Af x.D8).Mutex).CW != (i:Int)))=true then R else some false:=by
  intro a
  cases a with
  |false=>rfl
  |true=>
   rw[AAX (by simp),AA0]
   cases g3:x.Status==3 with
   |true=>
    rw[g3]at hc
    have hc:Ee x.D8 w.World.Af.length=true:=by simpa using hc
    rw[AAY rfl,Cd hc,AAO,Cd (by rw[h.l];exact h.m _ hc),AAO]
    cases hq:(ix w.Init.Sync.AG (ix w.World.Af x.D8).Mutex).CW==(i:Int)<;>simp[bne,hq]
   |false=>
    cases g4:x.Status==4 with
    |true=>
     rw[g3,g4]at hc
     have hc:Ee x.D8 w.World.Af.length=true:=by simpa using hc
     rw[AAX (by simp),AAY rfl,Cd hc,AAO,Cd (by rw[h.l];exact h.m _ hc),AAO]
     cases hq:(ix w.Init.Sync.AG (ix w.World.Af x.D8).Mutex).CW==(i:Int)<;>simp[bne,hq]
    |false=>rfl
 cases x.Atomic with
 |true=>simpa using fin (aI w.Init.Count (i:Int))
 |false=>simpa using fin true
theorem vfut_step {w:AO} (h:l7 w) (n i:Nat) (hi:i<w.Init.AK.length):
 Cz.Aa w.Init (n+1) (i:Int)=if futW w i=true then Cz.Aa w.Init n ((i+1:Nat):Int)else some false:=by
 have h3:=h.s.f;have h4:=h.d;have h5:=h.u
 rw[Cz.Aa]
 unfold Cz.L1 Cz.J1 futW
 rw[BC (by omega),Cd (B9.2 (by omega)),AAO,Cd (B9.2 (by omega)),AAO,Ao (by omega)]
 generalize Cz.Aa w.Init n ((i+1:Nat):Int)=R
 unfold bne
 cases ix w.Init.Sync.Bq (i:Int)<;>cases ix w.Init.AK (i:Int)==0<;>rfl
theorem rfut_step {w:AO} (h:l7 w) (n i:Nat) (hi:i<w.Init.AK.length):
 FM.Aa w (n+1) (i:Int)=if futW w i=true then FM.Aa w n ((i+1:Nat):Int)else some false:=by
 have h3:=h.s.f;have h4:=h.d;have h5:=h.u
 rw[FM.Aa]
 unfold FM.L1 FM.J2 futW
 rw[BC (by omega),Cd (B9.2 (by omega)),AAO,Cd (B9.2 (by omega)),AAO,Ao (by omega)]
 generalize FM.Aa w n ((i+1:Nat):Int)=R
 unfold bne
 cases ix w.Init.Sync.Bq (i:Int)<;>cases ix w.Init.AK (i:Int)==0<;>rfl
theorem iteB (b:Bool):(if b=true then some true else some false)=some b:=by cases b<;>rfl
theorem vthreads_eq {w:AO} (h:l7 w):CY w=some (Tj (λi=>statW w i (dJ w i)) 0 w.Init.Sync.AA.length&&Tj (λi=>ownW w i (dJ w i)) 0 w.Init.Sync.AA.length):=by
 have h3:=h.s.t;have h4:=h.t;have hb:=B1
 rw[← allF_and,← iteB]
 exact lJ (L:=CY.Aa w) (R:=some true) (λn i hi=>vthread_step h n i hi) (λn=>by
  rw[CY.Aa];unfold CY.L1;rw[Ac (by omega)];rfl) BT 0 (by omega) (by omega)
theorem rstatuses_eq {w:AO} (h:l7 w):Eb w=some (Tj (λi=>statW w i (dJ w i)) 0 w.Init.Sync.AA.length):=by
 have h3:=h.s.t;have h4:=h.t;have hb:=B1
 rw[← iteB]
 exact lJ (L:=Eb.Aa w) (R:=some true) (λn i hi=>rstat_step h n i hi) (λn=>by
  rw[Eb.Aa];unfold Eb.L1;rw[Ac (by omega)];rfl) BT 0 (by omega) (by omega)
theorem vholders_eq {w:AO} (h:l7 w) (hr:RB 4611686018427387904 w.Init.Sync):BZ w=some (Tj (λi=>lockW w i (ix w.Init.Sync.AG i)) 0 w.Init.Sync.AG.length&&(txW w&&Tj (λi=>atomW w i (dJ w i)) 0 w.Init.Sync.AA.length)):=by
 have h1:=h.s.l;have h2:=h.l;have h3:=h.s.t;have h4:=h.t;have hb:=B1
 have hA:BZ.Gm w BT 0=some (Tj (λi=>atomW w i (dJ w i)) 0 w.Init.Sync.AA.length):=by
  rw[← iteB]
  exact lJ (L:=BZ.Gm w) (R:=some true) (λn i hi=>vatom_step h n i hi) (λn=>by
   rw[BZ.Gm];unfold BZ.L3;rw[Ac (by omega)];rfl) BT 0 (by omega) (by omega)
 have hT:BZ.J5 w=some (txW w&&Tj (λi=>atomW w i (dJ w i)) 0 w.Init.Sync.AA.length):=by
  unfold BZ.J5 BZ.J6 txW
  rw[hA,vbegun_eq,AAO]
  unfold bne
  cases w.Init.Sync.Tx== -1<;>cases aI w.Init.Count w.Init.Sync.Tx<;>rfl
 refine(lJ (L:=BZ.Aa w) (R:=BZ.J5 w) (λn i hi=>vlock_step h hr n i hi) (λn=>by
  rw[BZ.Aa];unfold BZ.L1;rw[Ac (by omega)]) BT 0 (by omega) (by omega)).trans ?_
 rw[hT,Nat.sub_zero]
 cases Tj (λi=>lockW w i (ix w.Init.Sync.AG i)) 0 w.Init.Sync.AG.length<;>rfl
theorem loop_all' {L:Nat->Int->ABp Bool} {N:Nat} {p q:Nat->Bool} {R:ABp Bool} (hq:Tj q 0 N=true) (hs:∀(n i:Nat),i<N->q i=true->L (n+1) (i:Int)=if p i=true then L n ((i+1:Nat):Int)else some false)
 (he:∀n,L (n+1) (N:Int)=R):∀n i:Nat,i≤N->N<n+i->L n (i:Int)=if Tj p i (N-i)=true then R else some false:=
 lJ (λn i hi=>hs n i hi (allF_iff.1 hq i (by omega) (by omega))) he
theorem rholders_eq {w:AO} (h:l7 w) (hr:RB 4611686018427387904 w.Init.Sync) (hs:Tj (λi=>statW w i (dJ w i)) 0 w.Init.Sync.AA.length=true):
 C7 w=some (Tj (λi=>lockW w i (ix w.Init.Sync.AG i)) 0 w.Init.Sync.AG.length&&(txW w&&(Tj (λi=>atomW w i (dJ w i)) 0 w.Init.Sync.AA.length&&Tj (λi=>ownW w i (dJ w i)) 0 w.Init.Sync.AA.length))):=by
 have h1:=h.s.l;have h2:=h.l;have h3:=h.s.t;have h4:=h.t;have hb:=B1
 have hA:C7.Gm w BT 0=some (Tj (λi=>atomW w i (dJ w i)) 0 w.Init.Sync.AA.length&&Tj (λi=>ownW w i (dJ w i)) 0 w.Init.Sync.AA.length):=by
  rw[← allF_and,← iteB]
  exact loop_all' (L:=C7.Gm w) (R:=some true) hs (λn i hi hq=>ratom_step h n i hi hq) (λn=>by
   rw[C7.Gm];unfold C7.L3;rw[Ac (by omega)];rfl) BT 0 (by omega) (by omega)
 have hT:C7.J4 w=some (txW w&&(Tj (λi=>atomW w i (dJ w i)) 0 w.Init.Sync.AA.length&&Tj (λi=>ownW w i (dJ w i)) 0 w.Init.Sync.AA.length)):=by
  unfold C7.J4 C7.J5 txW
  rw[hA,rbegun_eq,AAO]
  unfold bne
  cases w.Init.Sync.Tx== -1<;>cases aI w.Init.Count w.Init.Sync.Tx<;>rfl
 refine(lJ (L:=C7.Aa w) (R:=C7.J4 w) (λn i hi=>rlock_step h hr n i hi) (λn=>by
  rw[C7.Aa];unfold C7.L1;rw[Ac (by omega)]) BT 0 (by omega) (by omega)).trans ?_
 rw[hT,Nat.sub_zero]
 cases Tj (λi=>lockW w i (ix w.Init.Sync.AG i)) 0 w.Init.Sync.AG.length<;>rfl
theorem vfutures_eq {w:AO} (h:l7 w):Cz w.Init=some (Tj (futW w) 0 w.Init.AK.length):=by
 have h3:=h.s.f;have h4:=h.d;have h5:=h.u;have hb:=B1
 rw[← iteB]
 exact lJ (L:=Cz.Aa w.Init) (R:=some true) (λn i hi=>vfut_step h n i hi) (λn=>by
  rw[Cz.Aa];unfold Cz.L1;rw[Ac (by omega)];rfl) BT 0 (by omega) (by omega)
theorem rfutures_eq {w:AO} (h:l7 w):FM.Aa w BT 0=if Tj (futW w) 0 w.Init.AK.length=true then FM.J3 w else some false:=by
 have h3:=h.s.f;have h4:=h.d;have h5:=h.u;have hb:=B1
 exact lJ (L:=FM.Aa w) (R:=FM.J3 w) (λn i hi=>rfut_step h n i hi) (λn=>by
  rw[FM.Aa];unfold FM.L1;rw[Ac (by omega)]) BT 0 (by omega) (by omega)
theorem sL {c:Int}:∀(D:List Int) (last:Int),Gb c last D=true->∀k∈D,last<k/\k<c:=by
 intro D
 induction D with
 |nil=>intro _ _ k hk;cases hk
 |cons x r ih=>
  intro last h k hk
  unfold Gb at h
  simp only[AAP,AAf]at h
  rcases AAp.1 hk with rfl|hk
  . exact⟨h.1,h.2.1⟩
  . have:=ih x h.2.2 k hk;exact⟨by omega,this.2⟩
theorem poss_nums {wv:AD} {s:AB} {x:AH} (h:Kf wv s x=true):(∀k∈x.D9,1≤k/\k<ix s.Count x.Thread)/\∀k∈x.Db,1≤k/\k<ix s.Count x.Thread:=by
 unfold Kf FN at h
 simp only[AAP]at h
 obtain⟨_,_,_,_,⟨⟨_,h1⟩,_,h2⟩,_⟩:=h
 exact⟨λk hk=>by have:=sL _ _ h1 k hk;omega,λk hk=>by have:=sL _ _ h2 k hk;omega⟩
theorem readers_len {c:List Int}:∀(l:List Int) (last:Int),last<c.length->eA c last l=true->(l.length:Int)+last+1≤c.length:=by
 intro l
 induction l with
 |nil=>intro last h _;simp;omega
 |cons t r ih=>
  intro last h hr
  unfold eA aI at hr
  simp only[AAP,AAf]at hr
  have hb:=B9.1 hr.2.1.1
  have:=ih t (by omega) hr.2.2
  simp only[AA7];omega
theorem RB_of {w:AO} (h:l7 w) (hl:Tj (λi=>lockW w i (ix w.Init.Sync.AG i)) 0 w.Init.Sync.AG.length=true):RB 4 w.Init.Sync:=by
 intro x hx
 obtain⟨j,hj,rfl⟩:=List.getElem_of_mem hx
 have:=allF_iff.1 hl j (by omega) (by omega)
 unfold lockW at this
 rw[sA hj]at this
 simp only[AAP]at this
 have:=readers_len _ _ (by omega) this.2.2
 have h1:=h.s.t;have h2:=h.c
 omega
def CI (c:List Int) (nt:Nat) (pre:List AH) (s:AB):Prop:=s.Count.length=nt/\∀u,Ee u nt=true->ix s.Count u=ix c u+((OB pre u).length:Int)
theorem CI.next {wv:AD} {c:List Int} {nt:Nat} {pre:List AH} {s:AB} (h:CI c nt pre s) {x:AH} (hx:Ee x.Thread nt=true) (hc:∀u,Ee u nt=true->0≤ix c u/\ix c u≤400) (hp:pre.length≤1000):CI c nt (pre++[x]) (GL wv s x):=by
 refine⟨by simpa[GL]using h.1,λu hu=> ?_⟩
 obtain⟨b1,b2⟩:=B9.1 hx
 obtain⟨c1,c2⟩:=B9.1 hu
 rw[NF]
 show ix (s.Count.set x.Thread.toNat (Ap (ix s.Count x.Thread+1))) u=_
 have hq:=hc _ hx;have hr:=h.2 _ hx;have hn:=Ly pre x.Thread
 by_cases e:x.Thread=u
 . subst e
   rw[AAY rfl]
   unfold ix
   rw[AAS (by have:=h.1;omega)]
   show Ap (ix s.Count x.Thread+1)=ix c x.Thread+_
   rw[hr,DR (by omega) (by omega)]
   simp only[AA1,AA7,ABR];omega
 . rw[AAX e,← h.2 u hu]
   unfold ix
   rw[AAV (by omega)]
section
variable {w:AO}
theorem pos.L3 (L2:Int->ABp Bool) (l:List Int) (R:List (List Bool)) (t:Int) (x:AH) {B:List Bool} (hl:l.length<4611686018427387904) (hk:∀k∈l,1≤k/\k<1000000) (hR:gt R x.Thread=some B) (hc:gt w.Init.Count x.Thread=some (ix w.Init.Count x.Thread)) (h0:0≤ix w.Init.Count x.Thread/\ix w.Init.Count x.Thread≤400):∀(n i:Nat),i≤l.length->l.length<n+i->
 Ct.Gm L2 l R t w x n (i:Int)=if(l.drop i).all (dZ (ix w.Init.Count x.Thread) B)=true then L2 (Ap (t+1))else some false
 |0,i,h1,h2=>by omega
 |n+1,i,h1,h2=>by
  rw[Ct.Gm]
  unfold Ct.L3
  by_cases hi:i<l.length
  . unfold Ct.J2
    have hx:=hk _ (AAi hi)
    rw[BC (by omega),CU hi,AAO,hc,AAO,E6 hi,Ao (by omega),pos.L3 L2 l R t x hl hk hR hc h0 n (i+1) (by omega) (by omega),ABF,hR,AAO]
    generalize l[i]=k at hx ⊢
    generalize (l.drop (i+1)).all (dZ (ix w.Init.Count x.Thread) B)=q
    generalize ix w.Init.Count x.Thread=c at h0 ⊢
    rw[DR (by omega) (by omega)]
    unfold dZ NV
    by_cases a1:k<c
    . rw[Ac (by omega),AAX (by simp),show decide (k<c)=true from by simpa using a1];rfl
    . rw[BC (by omega),show decide (k<c)=false from by simpa using a1]
      by_cases a2:k-c≥(B.length:Int)
      . rw[BC a2,show Ee (k-c) B.length=false from by simp[Ee];omega];rfl
      . have h:Ee (k-c) B.length=true:=by simp[Ee];omega
        rw[Ac a2,Cd h,AAO,h]
        cases ix B (k-c)<;>rfl
  . rw[Ac (by omega),GM hi];rfl
theorem pos.L2 (L1:AB->List (List Bool)->Int->ABp Bool) (R:List (List Bool)) (t:Int) (v:AB×Bool) (x:AH) {B:List Bool} (he:S7 x) (hd:∀k∈x.D9,1≤k/\k<1000000) (hf:∀k∈x.Db,1≤k/\k<1000000) (hR:gt R x.Thread=some B) (hc:gt w.Init.Count x.Thread=some (ix w.Init.Count x.Thread)) (h0:0≤ix w.Init.Count x.Thread/\ix w.Init.Count x.Thread≤400):
 Ct.C2 L1 R t v w x BT 0=if(x.D9.all (dZ (ix w.Init.Count x.Thread) B)&&x.Db.all (dZ (ix w.Init.Count x.Thread) B))=true then Ct.J4 L1 R t v x else some false:=by
 have hb:=B1
 have hJ1:∀L1 t l,l.length<4611686018427387904->(∀k∈l,1≤k/\k<1000000)->Ct.J1 L1 R t w x l=if l.all (dZ (ix w.Init.Count x.Thread) B)=true then L1 (Ap (t+1))else some false:=by
  intro L1 t l hl hk
  have:=pos.L3 L1 l R t x hl hk hR hc h0 BT 0 (by omega) (by omega)
  rw[AAq]at this
  exact this
 rw[aJ]
 generalize BT-3=m
 have r3:Ct.C2 L1 R t v w x (m+1) 2=Ct.J4 L1 R t v x:=by
  rw[Ct.C2];unfold Ct.L2;rfl
 have r2:Ct.C2 L1 R t v w x (m+2) 1=if x.Db.all (dZ (ix w.Init.Count x.Thread) B)=true then Ct.J4 L1 R t v x else some false:=by
  rw[Ct.C2];unfold Ct.L2
  rw[BC (by decide),AAX (by decide),AAY (by decide),hJ1 _ _ _ he.2 hf,show Ap (1+1)=2 from rfl,r3]
 rw[Ct.C2];unfold Ct.L2
 rw[BC (by decide),AAY (by decide),hJ1 _ _ _ he.1 hd,show Ap (0+1)=1 from rfl,r2]
 cases x.D9.all (dZ (ix w.Init.Count x.Thread) B)<;>simp
theorem pos_loop (h:l7 w) (hl:w.AF.length≤16) (hE:∀e∈w.AF,S7 e) (hc:∀u,Ee u w.World.AA.length=true->0≤ix w.Init.Count u/\ix w.Init.Count u≤400):∀(n i:Nat) (s:AB) (R:List (List Bool)),i≤w.AF.length->w.AF.length<n+i->RB (4+i) s.Sync->R.length=w.World.AA.length->(∀u:Nat,u<R.length->R[u]? =some (OB (w.AF.take i) (u:Int)))->CI w.Init.Count w.World.AA.length (w.AF.take i) s->
 Ct.Aa w n s R (i:Int)=some (posW w.World w.Init.Count (w.AF.take i) s (w.AF.drop i))
 |0,i,s,R,h1,h2,_,_,_,_=>by omega
 |n+1,i,s,R,h1,h2,h3,h4,h5,h6=>by
  rw[Ct.Aa]
  unfold Ct.L1
  by_cases hi:i<w.AF.length
  . have he:=hE _ (AAi hi)
    rw[BC (by omega),CU hi,AAO,qZ w.World h.s s (h3.mono (by omega)) _ he,AAO,E6 hi,posW]
    unfold XV
    cases hp:Kf w.World s w.AF[i]with
    |false=>rfl
    |true=>
     rw[AAY rfl,AAX (c:=(!true)=true) (by simp),AA0]
     have ht:=Pc hp
     obtain⟨b1,b2⟩:=B9.1 ht
     have hu:w.AF[i].Thread.toNat<R.length:=by omega
     have hR:gt R w.AF[i].Thread=some (OB (w.AF.take i) w.AF[i].Thread):=by
      unfold gt
      rw[AAY b1,h5 _ hu]
      congr 2;omega
     have dY:=Ly (w.AF.take i) w.AF[i].Thread
     rw[List.length_take_of_le (by omega)]at dY
     have hcc:=hc _ ht
     have hsc:=h6.2 _ ht
     obtain⟨n1,n2⟩:=poss_nums hp
     rw[pos.L2 _ _ _ _ _ he (λk hk=>by have:=n1 k hk;omega) (λk hk=>by have:=n2 k hk;omega) hR (Cd (by rw[h.c];exact ht)) hcc]
     change (if readsW w.Init.Count (w.AF.take i) w.AF[i]=true then _ else _)=_
     cases readsW w.Init.Count (w.AF.take i) w.AF[i]with
     |false=>rfl
     |true=>
      unfold Ct.J4
      rw[AAY rfl,hR,AAO,BL (by omega),BL (by omega),AA0]
      unfold Ct.J5 Ct.J6
      have hk:∀b,b=rF w.AF[i]->Ct.Aa w n (GL w.World s w.AF[i]) (R.set w.AF[i].Thread.toNat (OB (w.AF.take i) w.AF[i].Thread++[b])) (Ap ((i:Int)+1))=some (posW w.World w.Init.Count (w.AF.take i++[w.AF[i]]) (GL w.World s w.AF[i]) (w.AF.drop (i+1))):=by
       rintro b rfl
       have h7:=h6.next (wv:=w.World) ht hc (by simp;omega)
       rw[Ao (by omega)]
       rw[AAk hi]at h7 ⊢
       refine pos_loop h hl hE hc n (i+1) _ _ (by omega) (by omega) ?_ (by simpa using h4) ?_ h7
       . exact(h3.apply _ _ _ _ _).mono (by omega)
       . intro u xL
         rw[← AAk hi,NF]
         have hu'':u<R.length:=by simpa using xL
         by_cases hut:w.AF[i].Thread=(u:Int)
         . have:w.AF[i].Thread.toNat=u:=by omega
           rw[AAY hut,this,AAS hu'',hut]
         . have:w.AF[i].Thread.toNat≠u:=by omega
           rw[AAX hut,AAV this,h5 u hu'']
      by_cases k3:w.AF[i].Kind=3
      . rw[AAY (by simp[k3])];exact hk _ (by simp[rF,k3])
      . rw[AAX (by simpa using k3)]
        exact hk _ (by simp[rF,show(w.AF[i].Kind==3)=false by simpa using k3])
  . rw[Ac (by omega),GM hi];rfl
theorem cnt_of (h:l7 w) (hc:sI w=true):∀u,Ee u w.World.AA.length=true->0≤ix w.Init.Count u/\ix w.Init.Count u≤400:=by
 intro u hu
 unfold sI at hc
 simp only[AAP]at hc
 obtain⟨a,b⟩:=B9.1 hu
 have h1:=h.c
 have:=allF_iff.1 hc.1 u.toNat (by omega) (by omega)
 rw[show((u.toNat:Nat):Int)=u from by omega]at this
 simpa using this
theorem possible_eq (h:l7 w) (hl:w.AF.length≤16) (hE:∀e∈w.AF,S7 e) (hc:sI w=true) (hr:RB 4 w.Init.Sync):Ct w=some (posW w.World w.Init.Count [] w.Init w.AF):=by
 have h3:=h.s.t;have hb:=B1
 unfold Ct
 rw[AAY ⟨by omega,by omega,DK (by omega)⟩]
 have:=pos_loop h hl hE (cnt_of h hc) BT 0 w.Init (List.replicate w.World.AA.length []) (by omega) (by omega) hr (by simp) (by
  intro u hu
  simp at hu
  simp[hu,OB]) ⟨h.c,λu _=>by simp[OB]⟩
 rw[List.take_zero,AAq]at this
 exact this
end
section
variable {w:AO}
theorem Nth_loop (hl:w.AF.length≤16) (t:Int):∀(n j d:Nat),j≤w.AF.length->w.AF.length<n+j->d≤1000000->∃r,Ji.Aa t w n (d:Int) (j:Int)=some r/\(match(OB (w.AF.drop j) t)[d]? with
 |some b=>∃(e:Nat) (h:e<w.AF.length),r=(e:Int)/\rF w.AF[e]=b
 |none=>r= -1)
 |0,j,d,h1,h2,_=>by omega
 |n+1,j,d,h1,h2,h3=>by
  rw[Ji.Aa]
  unfold Ji.L1 Ji.J1
  by_cases hj:j<w.AF.length
  . rw[BC (by omega),CU hj,AAO,E6 hj,rdB_cons,Ao (by omega)]
    by_cases g:w.AF[j].Thread=t
    . rw[AAY (by simpa using g),AAY g]
      cases d with
      |zero=>exact⟨_,rfl,j,hj,rfl,rfl⟩
      |succ d=>
       rw[AAX (by simp;omega),DR (by omega) (by omega),show((d+1:Nat):Int)-1=(d:Int)from by omega,ABA]
       exact Nth_loop hl t n (j+1) d (by omega) (by omega) (by omega)
    . rw[AAX (by simpa using g),AAX g]
      exact Nth_loop hl t n (j+1) d (by omega) (by omega) h3
  . rw[Ac (by omega),GM hj]
    exact⟨_,rfl,rfl⟩
theorem rreads_loop (hl:w.AF.length≤16) (l:List Int) (t:Int) (hn:l.length<4611686018427387904) (hk:∀k∈l,1≤k/\k<1000000) (hc:gt w.Init.Count t=some (ix w.Init.Count t)) (h0:0≤ix w.Init.Count t/\ix w.Init.Count t≤400):∀(n i:Nat),i≤l.length->l.length<n+i->
 Gt.Aa l t w n (i:Int)=some ((l.drop i).all (dZ (ix w.Init.Count t) (OB w.AF t)))
 |0,i,h1,h2=>by omega
 |n+1,i,h1,h2=>by
  rw[Gt.Aa]
  unfold Gt.L1 Gt.J1 Gt.J2
  by_cases hi:i<l.length
  . have hx:=hk _ (AAi hi)
    rw[BC (by omega),CU hi,AAO,hc,AAO,E6 hi,Ao (by omega),rreads_loop hl l t hn hk hc h0 n (i+1) (by omega) (by omega),ABF]
    generalize l[i]=k at hx ⊢
    generalize (l.drop (i+1)).all (dZ (ix w.Init.Count t) (OB w.AF t))=q
    generalize ix w.Init.Count t=c at h0 ⊢
    rw[DR (by omega) (by omega)]
    unfold dZ NV
    by_cases a1:k<c
    . rw[BC a1,show decide (k<c)=true from by simpa using a1];rfl
    . rw[Ac a1,show decide (k<c)=false from by simpa using a1]
      obtain⟨r,hr,hm⟩:=Nth_loop hl t BT 0 (k-c).toNat (by omega) (by have:=B1;omega) (by omega)
      rw[show(((k-c).toNat:Nat):Int)=k-c from by omega,show((0:Nat):Int)=0 from rfl]at hr
      rw[AAq]at hm
      unfold Ji
      rw[hr,AAO,Bool.false_or]
      cases hb:(OB w.AF t)[(k-c).toNat]? with
      |none=>
       rw[hb]at hm
       have hlen:=List.getElem?_eq_none_iff.1 hb
       rw[show Ee (k-c) (OB w.AF t).length=false from by simp[Ee];omega]
       simp only at hm
       subst hm
       rfl
      |some b=>
       rw[hb]at hm
       obtain⟨e,he,rfl,hv⟩:=hm
       obtain⟨hlen,_⟩:=AAQ.1 hb
       rw[show Ee (k-c) (OB w.AF t).length=true from by simp[Ee];omega,Ac (by omega),CU he,AAO]
       have hx:ix (OB w.AF t) (k-c)=b:=by unfold ix;rw[hb];rfl
       rw[hx,← hv]
       unfold rF
       by_cases k3:w.AF[e].Kind=3
       . simp[k3]
       . have e3:(w.AF[e].Kind==3)=false:=by simpa using k3
         unfold bne
         rw[e3]
         cases w.AF[e].Kind==23<;>rfl
  . rw[Ac (by omega),GM hi];rfl
theorem rreads_eq (hl:w.AF.length≤16) (l:List Int) (t:Int) (hn:l.length<4611686018427387904) (hk:∀k∈l,1≤k/\k<1000000) (hc:gt w.Init.Count t=some (ix w.Init.Count t)) (h0:0≤ix w.Init.Count t/\ix w.Init.Count t≤400):
 Gt w t l=some (l.all (dZ (ix w.Init.Count t) (OB w.AF t))):=by
 have:=rreads_loop hl l t hn hk hc h0 BT 0 (by omega) (by have:=B1;omega)
 rw[AAq]at this
 exact this
theorem isNew_pre {c:Int} {a b:List Bool} {k:Int} (h:k<c+a.length):dZ c (a++b) k=dZ c a k:=by
 unfold dZ NV
 by_cases g:k<c
 . simp[g]
 . have h1:Ee (k-c) (a++b).length=true:=by simp[Ee];omega
   have h2:Ee (k-c) a.length=true:=by simp[Ee];omega
   rw[h1,h2]
   unfold ix
   rw[AAr (by omega)]
theorem rval_loop (h:l7 w) (hl:w.AF.length≤16) (hE:∀e∈w.AF,S7 e) (hc:∀u,Ee u w.World.AA.length=true->0≤ix w.Init.Count u/\ix w.Init.Count u≤400):∀(n i:Nat) (s:AB),i≤w.AF.length->w.AF.length<n+i->RB (4+i) s.Sync->CI w.Init.Count w.World.AA.length (w.AF.take i) s->
 FM.C2 w n s (i:Int)=some (posW w.World w.Init.Count (w.AF.take i) s (w.AF.drop i))
 |0,i,s,h1,h2,_,_=>by omega
 |n+1,i,s,h1,h2,h3,h6=>by
  rw[FM.C2]
  unfold FM.L2 FM.J4
  by_cases hi:i<w.AF.length
  . have he:=hE _ (AAi hi)
    rw[BC (by omega),CU hi,AAO,rStep_eq w.World h.s s (h3.mono (by omega)) _ he,AAO,E6 hi,posW]
    unfold XV
    cases hp:Kf w.World s w.AF[i]with
    |false=>rfl
    |true=>
     rw[AAY rfl,AAX (c:=(!true)=true) (by simp),AA0]
     have ht:=Pc hp
     have hcc:=hc _ ht
     have hsc:=h6.2 _ ht
     have dY:=Ly (w.AF.take i) w.AF[i].Thread
     rw[List.length_take_of_le (by omega)]at dY
     obtain⟨n1,n2⟩:=poss_nums hp
     have hcg:gt w.Init.Count w.AF[i].Thread=some (ix w.Init.Count w.AF[i].Thread):=Cd (by rw[h.c];exact ht)
     have key:∀D:List Int,(∀k∈D,1≤k/\k<ix s.Count w.AF[i].Thread)->D.all (dZ (ix w.Init.Count w.AF[i].Thread) (OB w.AF w.AF[i].Thread))=D.all (dZ (ix w.Init.Count w.AF[i].Thread) (OB (w.AF.take i) w.AF[i].Thread)):=by
      intro D hD
      have e1:OB w.AF w.AF[i].Thread=OB (w.AF.take i) w.AF[i].Thread++OB (w.AF.drop i) w.AF[i].Thread:=by rw[← rdB_app,List.take_append_drop]
      rw[e1,Bool.eq_iff_iff,AAU,AAU]
      constructor<;>intro hh k hk<;>have:=hh k hk<;>have hkb:=hD k hk
      . rwa [isNew_pre (by omega)]at this
      . rwa [isNew_pre (by omega)]
     rw[rreads_eq hl _ _ he.1 (λk hk=>by have:=n1 k hk;omega) hcg hcc,AAO,rreads_eq hl _ _ he.2 (λk hk=>by have:=n2 k hk;omega) hcg hcc,AAO,key _ n1,key _ n2]
     unfold readsW
     cases w.AF[i].D9.all (dZ (ix w.Init.Count w.AF[i].Thread) (OB (w.AF.take i) w.AF[i].Thread))with
     |false=>rfl
     |true=>
      cases w.AF[i].Db.all (dZ (ix w.Init.Count w.AF[i].Thread) (OB (w.AF.take i) w.AF[i].Thread))with
      |false=>rfl
      |true=>
       rw[AAX (c:=(!true)=true) (by simp),AAX (c:=(!true)=true) (by simp),AA0,AA0,Ao (by omega)]
       have h7:=h6.next (wv:=w.World) ht hc (by simp;omega)
       rw[AAk hi]at h7 ⊢
       exact rval_loop h hl hE hc n (i+1) _ (by omega) (by omega) ((h3.apply _ _ _ _ _).mono (by omega)) h7
  . rw[Ac (by omega),GM hi];rfl
theorem stateW_and {a b c d e f g:Bool}:(a&&(b&&(c&&(d&&(e&&(f&&g))))))=(a&&((b&&c)&&((d&&(e&&f))&&g))):=by cases a<;>cases b<;>cases c<;>cases d<;>cases e<;>rfl
theorem Valid_eq (hE:∀e∈w.AF,S7 e) (hr:RB 4611686018427387904 w.Init.Sync):GG w=some (validW w):=by
 unfold GG validW
 rw[Xa,AAO]
 cases hv:Ck w.World with
 |false=>rfl
 |true=>
  have hw:=EC hv
  rw[AAY rfl,AA0]
  have hfe:It w.World w.Init=some (MJ w.World w.Init):=PD _ hw _
  rw[hfe,AAO]
  cases hf:MJ w.World w.Init with
  |false=>rfl
  |true=>
   rw[AAY rfl,AA0]
   by_cases hl:w.AF.length≤16
   . have h:l7 w:=WinF.l ⟨hv,hf,hl⟩
     rw[BC (by omega),show decide (w.AF.length≤16)=true from by simpa using hl,AA0,counted_eq w (by have:=hw.t;have:=h.c;omega) hl,AAO]
     unfold stateW
     rw[stateW_and,vthreads_eq h,AAO,vholders_eq h hr,AAO,vfutures_eq h,AAO]
     cases hc:sI w with
     |false=>rfl
     |true=>
      rw[AAY rfl,AA0]
      cases(Tj (λi=>statW w i (dJ w i)) 0 w.Init.Sync.AA.length&&Tj (λi=>ownW w i (dJ w i)) 0 w.Init.Sync.AA.length)with
      |false=>rfl
      |true=>
       rw[AAY rfl,AA0]
       cases hL:(Tj (λi=>lockW w i (ix w.Init.Sync.AG i)) 0 w.Init.Sync.AG.length&&(txW w&&Tj (λi=>atomW w i (dJ w i)) 0 w.Init.Sync.AA.length))with
       |false=>rfl
       |true=>
        rw[AAP]at hL
        rw[AAY rfl,AA0,possible_eq h hl hE hc (RB_of h hL.1)]
        cases Tj (futW w) 0 w.Init.AK.length<;>rfl
   . rw[Ac (by omega),show decide (w.AF.length≤16)=false from by simpa using hl];rfl
theorem rValid_eq (hE:∀e∈w.AF,S7 e) (hr:RB 4611686018427387904 w.Init.Sync):FM w=some (validW w):=by
 unfold FM validW
 rw[Ot,AAO]
 cases hv:Ck w.World with
 |false=>rfl
 |true=>
  have hw:=EC hv
  rw[AAX (c:=(!true)=true) (by simp),AA0,q6 _ hw,AAO]
  cases hf:MJ w.World w.Init with
  |false=>rfl
  |true=>
   rw[AAX (c:=(!true)=true) (by simp),AA0]
   by_cases hl:w.AF.length≤16
   . have h:l7 w:=WinF.l ⟨hv,hf,hl⟩
     rw[Ac (by omega),show decide (w.AF.length≤16)=true from by simpa using hl,AA0,rcounts_eq w (by have:=hw.t;have:=h.c;omega) hl,AAO,rstatuses_eq h,AAO]
     unfold stateW
     cases hc:sI w with
     |false=>rfl
     |true=>
      rw[AAX (c:=(!true)=true) (by simp),AA0]
      cases hs:Tj (λi=>statW w i (dJ w i)) 0 w.Init.Sync.AA.length with
      |false=>rfl
      |true=>
       rw[AAX (c:=(!true)=true) (by simp),AA0,rholders_eq h hr hs,AAO]
       unfold FM.J1
       rw[rfutures_eq h]
       cases hL:Tj (λi=>lockW w i (ix w.Init.Sync.AG i)) 0 w.Init.Sync.AG.length with
       |false=>cases Tj (λi=>ownW w i (dJ w i)) 0 w.Init.Sync.AA.length<;>rfl
       |true=>
        have hp:FM.J3 w=some (posW w.World w.Init.Count [] w.Init w.AF):=by
         have:=rval_loop h hl hE (cnt_of h hc) BT 0 w.Init (by omega) (by have:=B1;omega) (RB_of h hL) ⟨h.c,λu _=>by simp[OB]⟩
         rw[List.take_zero,AAq]at this
         exact this
        rw[hp]
        cases Tj (λi=>ownW w i (dJ w i)) 0 w.Init.Sync.AA.length<;>cases txW w<;>cases Tj (λi=>atomW w i (dJ w i)) 0 w.Init.Sync.AA.length<;>cases Tj (futW w) 0 w.Init.AK.length<;>rfl
   . rw[BC (by omega),show decide (w.AF.length≤16)=false from by simpa using hl];rfl
end
theorem nL (wv:AD) (l:List AH):∀pre s,Hg wv pre s l=(0,0)∨(Hg wv pre s l).2=12/\(pre.length:Int)≤(Hg wv pre s l).1:=by
 induction l with
 |nil=>exactλ_ _=>.inl rfl
 |cons x r ih=>
  intro pre s
  unfold Hg
  split
  . refine(ih (pre++[x]) _).imp id λh=>⟨h.1,?_⟩
    have:=h.2;simp at this ⊢;omega
  . exact .inr ⟨rfl,by simp⟩
structure AT (t:Az):Prop where
 w:Ck t.World=true
 l:t.AF.length≤400
 c:Hg t.World [] (Gg t.World) t.AF=(0,0)
 e:∀e∈t.AF,S7 e
theorem AT.of {t:Az} (hE:∀e∈t.AF,S7 e) (h:(Io t).2=0):AT t:=by
 unfold Io at h
 split at h
 . cases h
 . split at h
   . rename_i hl hw
     rcases nL t.World t.AF [] (Gg t.World)with hc|⟨hc,_⟩
     . exact⟨hw,by omega,hc,hE⟩
     . rw[hc]at h;cases h
   . cases h
theorem AT.poss {t:Az} (h:AT t) {i:Nat} (hi:i<t.AF.length):Kf t.World (Gw t i) t.AF[i]=true:=by
 obtain⟨_,b⟩:=eU h.w h.l h.c i (by omega)
 rw[ABH hi,Hg]at b
 split at b
 . rename_i hp
   rw[AAP]at hp
   exact hp.1
 . exact absurd (congrArg Prod.snd b) (λh:(12:Int)=0=>by cases h)
theorem AT.step {t:Az} (h:AT t) {i:Nat} (hi:i<t.AF.length):XV t.World (Gw t i) t.AF[i]=(Gw t (i+1),true):=by
 unfold XV
 rw[AAY (h.poss hi),OH hi]
def q7 (e:AH):Prop:=e.D9.length≤1000/\e.Db.length≤1000
theorem yN {c:Int}:∀(D:List Int) (last:Int),last<c->Gb c last D=true->(D.length:Int)+last+1≤c:=by
 intro D
 induction D with
 |nil=>intro last h _;simp;omega
 |cons x r ih=>
  intro last h hn
  unfold Gb at hn
  simp only[AAP,AAf]at hn
  have:=ih x hn.2.1 hn.2.2
  simp only[AA7];omega
theorem AT.ev {t:Az} (h:AT t) {e:AH} (he:e∈t.AF):q7 e:=by
 obtain⟨i,hi,rfl⟩:=List.getElem_of_mem he
 obtain⟨a,_⟩:=eU h.w h.l h.c i (by omega)
 have hp:=h.poss hi
 have hc:=a.c _ (Pc hp)
 have hr:=Ly (t.AF.take i) t.AF[i].Thread
 have hl:=h.l
 rw[List.length_take_of_le (by omega)]at hr
 unfold Kf FN at hp
 simp only[AAP]at hp
 obtain⟨_,_,_,_,⟨⟨_,h1⟩,_,h2⟩,_⟩:=hp
 rw[hc]at h1 h2
 have key:∀D:List Int,Gb ((OB (t.AF.take i) t.AF[i].Thread).length:Int) 0 D=true->D.length≤1000:=by
  intro D hD
  cases D with
  |nil=>simp
  |cons x r=>
   have h0:0<((OB (t.AF.take i) t.AF[i].Thread).length:Int):=by
    have:=sL _ _ hD x (by simp);omega
   have:=yN _ _ h0 hD;omega
 exact⟨key _ h1,key _ h2⟩
end Go.Abs
namespace Go.Abs
theorem AAL:Ew=some true:=by decide +kernel
end Go.Abs
namespace Go.Abs
set_option maxHeartbeats 4000000
def D6 {α:Type} (o:ABp α) (Q:α->Prop):Prop:=∃r,o=some r/\Q r
theorem tR {α:Type} {r:α} {Q:α->Prop} (h:Q r):D6 (some r) Q:=⟨r,rfl,h⟩
theorem tB {α β:Type} {o:ABp α} {Q:α->Prop} {f:α->ABp β} {R:β->Prop} (h:D6 o Q) (k:∀x,Q x->D6 (f x) R):D6 (o.bind f) R:=by
 obtain⟨x,rfl,hx⟩:=h;exact k x hx
theorem tG {α β:Type} {l:List α} {i:Int} {f:α->ABp β} {R:β->Prop} (h:0≤i/\i<(l.length:Int)) (k:∀x,x∈l->D6 (f x) R):D6 ((gt l i).bind f) R:=by
 obtain⟨n,rfl⟩:∃n:Nat,i=n:=⟨i.toNat,by omega⟩
 have hn:n<l.length:=by omega
 rw[CU hn,AAO]
 exact k _ (AAi hn)
theorem tC {α:Type} {p:Prop} [Decidable p] {a:ABp α} {R:α->Prop} (h:p) (k:D6 a R):D6 (if p then a else none) R:=by rw[AAY h];exact k
theorem tI {α:Type} {c:Bool} {a b:ABp α} {R:α->Prop} (h1:c=true->D6 a R) (h2:c=false->D6 b R):D6 (if c=true then a else b) R:=by
 cases c with
 |true=>simpa using h1 rfl
 |false=>simpa using h2 rfl
theorem tM {α:Type} {o:ABp α} {Q R:α->Prop} (h:D6 o Q) (k:∀x,Q x->R x):D6 o R:=by
 obtain⟨x,e,hx⟩:=h;exact⟨x,e,k x hx⟩
structure OG (t:EH):Prop where
 l:t.L.length≤4000000000000000000
 a:0≤t.At/\t.At≤t.L.length
 u:∀x∈t.L,0≤x/\x<256
def qS:ABq:=⟨#[113]⟩
def vN:List ABq:=[⟨#[97]⟩,⟨#[98]⟩,⟨#[120]⟩,⟨#[121]⟩,⟨#[118]⟩]
def Zw:Nat->A4->Prop
 |0,_=>False
 |n+1,e=>e.Op=1/\e.L=[]∨(e.Op=2/\e.L=[]/\e.Name∈vN)∨(e.Op=3/\e.Name=qS/\∃a,e.L=[a]/\Zw n a)∨(e.Op∈[(6:Int),7,8,11,13,17]/\∃a b,e.L=[a,b]/\Zw n a/\Zw n b)
def cN:ABq:=⟨#[99]⟩
def noE:A4:=⟨0,0,⟨#[]⟩,[]⟩
def nmF (T:ABq->Prop) (o:Int) (s a:ABq) (i:List A4):Prop:=
 (o=1->i=[]->s∈vN)/\(o=4->s=⟨#[109]⟩∨s=⟨#[110]⟩)/\(o=5∨o=6->s=⟨#[114]⟩)/\(o=12∨o=13->T s)/\(o=14->s=⟨#[102]⟩)/\(o=15->s=⟨#[97]⟩/\a=⟨#[102]⟩)
def bdF (o:Int) (b e:List AP):Prop:=(o∉[(2:Int),3,4,5,6,7,8]->b=[])/\(o≠2->e=[])
def K8 (T:ABq->Prop):Nat->AP->Prop
 |0,_=>False
 |n+1,s=>(1≤s.Op/\s.Op≤15)/\(s.Index=[]∨s.Op=1/\s.Name=qS/\∃a,s.Index=[a]/\Zw 2 a)/\(Zw 2 s.Expr∨s.Op∉[(1:Int),2,3,14]/\s.Expr=noE)/\(s.Op∈[(9:Int),10,11]->s.Name=cN)/\
  s.Body.length≤4/\s.Else.length≤4/\(∀x∈s.Body,K8 T n x)/\(∀x∈s.Else,K8 T n x)/\bdF s.Op s.Body s.Else/\nmF T s.Op s.Name s.Arg s.Index
structure MQ (m m':AM):Prop where
 t:OG m'.t
 h:m'.held=m.held
theorem MQ.trans {a b c:AM} (h:MQ a b) (g:MQ b c):MQ a c:=⟨g.t,g.h.trans h.h⟩
section
variable {T:ABq->Prop} {R158:AM->ABq->Int->ABp (List AP×AM)} {R86:AM->Int->Int->ABp (List AP×AM)} {depth:Int} {nested:Bool} {k H:Nat}
end
section
variable {T:ABq->Prop}
end
section
variable {T:ABq->Prop}
abbrev TT {α:Type} (o:ABp α):Prop:=D6 o λ_=>True
theorem tD {α:Type} {p:Prop} [Decidable p] {a b:ABp α} {R:α->Prop} (h1:p->D6 a R) (h2:¬p->D6 b R):D6 (if decide p=true then a else b) R:=by
 by_cases h:p
 . simpa[h]using h1 h
 . simpa[h]using h2 h
theorem NN {α β:Type} {o:ABp α} {f:α->ABp β} {R:β->Prop} (h:TT o) (k:∀x,D6 (f x) R):D6 (o.bind f) R:=tB h λx _=>k x
theorem tE {α β:Type} {o:ABp α} {y:α} {f:α->ABp β} {R:β->Prop} (h:o=some y) (k:D6 (f y) R):D6 (o.bind f) R:=by rw[h];exact k
theorem jM {α β:Type} {l:List α} {i:Nat} {f:α->ABp β} {R:β->Prop} (h:i<l.length) (k:D6 (f l[i]) R):D6 ((gt l (i:Int)).bind f) R:=by rw[CU h];exact k
theorem tLk {σ α:Type} {Q:α->Prop} (N j:Nat) (I:Nat->σ->Prop) {F:Nat->σ->Int->ABp α} (hN:N<1000000000000) (hj:j≤N) {s0:σ} (h0:I j s0)
 (h:∀n (i:Nat) s,i≤N->I i s->(∀s',i<N->I (i+1) s'->D6 (F n s' (Ap (i+1))) Q)->D6 (F (n+1) s i) Q):D6 (F BT s0 j) Q:=by
 have hb:=B1
 have key:∀n (i:Nat) s,N<n+i->i≤N->I i s->D6 (F n s i) Q:=by
  intro n
  induction n with
  |zero=>intro i s h1 h2;omega
  |succ n ih=>
   intro i s h1 h2 h3
   refine h n i s h2 h3 λs' h4 h5=> ?_
   rw[Ao (by omega)]
   exact ih (i+1) s' (by omega) h4 h5
 exact key BT j s0 (by omega) hj h0
theorem XN {σ α:Type} {Q:α->Prop} (N:Nat) (I:Nat->σ->Prop) {F:Nat->σ->Int->ABp α} (hN:N<1000000000000) {s0:σ} (h0:I 0 s0)
 (h:∀n (i:Nat) s,i≤N->I i s->(∀s',i<N->I (i+1) s'->D6 (F n s' (Ap (i+1))) Q)->D6 (F (n+1) s i) Q):D6 (F BT s0 0) Q:=tLk N 0 I hN (by omega) h0 h
def dE:Nat->A4->Prop
 |0,_=>False
 |n+1,e=>e.L.length≤2/\∀x∈e.L,dE n x
theorem Zw.d {n:Nat}:∀{e:A4},Zw n e->dE n e:=by
 induction n with
 |zero=>exactλh=>h.elim
 |succ n ih=>
  intro e h
  rcases h with⟨_,h⟩|⟨_,h,_⟩|⟨_,_,a,h,h1⟩|⟨_,a,b,h,h1,h2⟩<;>refine⟨by simp[h],?_⟩<;>rw[h]<;>simp
  . exact ih h1
  . exact⟨ih h1,ih h2⟩
theorem K8.e {n:Nat} {s:AP} (h:K8 T n s):dE 2 s.Expr:=by
 cases n with
 |zero=>exact h.elim
 |succ n=>
  rcases h.2.2.1 with h|⟨_,h⟩
  . exact h.d
  . rw[h];exact⟨by simp[noE],by simp[noE]⟩
theorem K8.i {n:Nat} {s:AP} (h:K8 T n s):s.Index=[]∨∃a,s.Index=[a]/\dE 2 a:=by
 cases n with
 |zero=>exact h.elim
 |succ n=>exact h.2.1.imp id λ⟨_,_,a,h,k⟩=>⟨a,h,k.d⟩
def dT (T:ABq->Prop) (k:Nat) (l:List AP):Prop:=l.length≤10/\∀x∈l,K8 T k x
theorem K8.body {k:Nat} {s:AP} (h:K8 T (k+1) s):dT T k s.Body:=⟨by have:=h.2.2.2.2.1;omega,h.2.2.2.2.2.2.1⟩
def sB:List ABq:=[⟨#[97]⟩,⟨#[98]⟩]
end
section
variable {T:ABq->Prop}
structure WK (p:AQ) (A K:Nat) (wv:BA):Prop where
 p:wv.p=p
 a:wv.GH.length=A
 s:wv.LM.length≤K
 t:wv.XM.length≤K
theorem WK.mono {p:AQ} {A K L:Nat} {wv:BA} (h:WK p A K wv) (hl:K≤L):WK p A L wv:=⟨h.p,h.a,by have:=h.s;omega,by have:=h.t;omega⟩
end
section
variable {T:ABq->Prop}
structure MW (w:AD):Prop where
 q:D6 (CJ w qS) λr=>0≤r/\r<w.Cells.length
 c:w.Cells.length≤100
 l:w.AG.length≤100
 d:w.Af.length≤100
 f:w.AK.length≤100
 t:w.AA.length≤4
def QU:List DB:=[⟨⟨#[120]⟩,0,0,false,0⟩,⟨⟨#[121]⟩,0,0,false,1⟩,⟨⟨#[118]⟩,0,0,true,0⟩,⟨⟨#[113]⟩,0,2,false,0⟩,⟨⟨#[113]⟩,1,2,false,0⟩]
end
section
variable {T:ABq->Prop}
structure GS (g:A5) (n:Nat) (r:A5):Prop where
 w:r.w=g.w
 l:r.locals=g.locals
 a:g.out.length≤r.out.length
 b:r.out.length≤g.out.length+n
structure GB (g:A5) (n:Nat):Prop where
 w:MW g.w
 l:g.locals.length≤2
 n:g.out.length+n≤8000000
theorem GS.refl (g:A5) (n:Nat):GS g n g:=⟨rfl,rfl,by omega,by omega⟩
theorem GS.trans {g h r:A5} {m n k:Nat} (a:GS g m h) (b:GS h n r) (hk:m+n≤k):GS g k r:=⟨b.w.trans a.w,b.l.trans a.l,by have:=a.a;have:=b.a;omega,by have:=a.b;have:=b.b;omega⟩
theorem GB.next {g h:A5} {m n k:Nat} (a:GB g k) (s:GS g m h) (hk:m+n≤k):GB h n:=⟨by rw[s.w];exact a.w,by rw[s.l];exact a.l,by have:=s.b;have:=a.n;omega⟩
theorem GB.less {g:A5} {n k:Nat} (a:GB g k) (hk:n≤k):GB g n:=a.next (GS.refl g 0) (by omega)
theorem GS.site {g r:A5} {n:Nat} (h:GS g n r) (a b:Int):GS g n ⟨r.w,r.locals,r.out,a,b⟩:=⟨h.w,h.l,h.a,h.b⟩
theorem GS.set {g r:A5} {n:Nat} (h:GS g n r) (i:Nat) (x:Ab) (a b:Int):GS g n ⟨r.w,r.locals,r.out.set i x,a,b⟩:=⟨h.w,h.l,by simpa using h.a,by simpa using h.b⟩
section
variable {R:A5->List AP->ABp A5} {g:A5} {s:AP} {n:Nat}
variable {R1:A5->AP->ABp A5} {R2:A5->AP->Int->Int->Int->ABp A5}
end
def rg (i:Ab):List Int:=(AU i).getD []
theorem GF (i:Ab):AU i=some (rg i)/\(rg i).length≤3:=by
 have key:D6 (AU i) λr=>r.length≤3:=by
  unfold AU AU.J1 AU.J2 AU.J3
  repeat' first|exact tR (by simp)|refine tI (λ_=> ?_) λ_=> ?_
 obtain⟨r,h1,h2⟩:=key
 unfold rg
 rw[h1]
 exact⟨rfl,h2⟩
structure CK (c:BF):Prop where
 n:c.AA.length≤4
 i:∀t∈c.AA,t.A1.length≤8000000
end
theorem take_one {α:Type} {l:List α} {i:Nat} (h:i<l.length) {P:α->Prop} (h1:∀x∈l.take i,P x) (h2:P l[i]):∀x∈l.take (i+1),P x:=by
 intro x hx
 rw[← AAk h]at hx
 rcases AAj.1 hx with hx|hx
 . exact h1 x hx
 . rw[AA4.1 hx];exact h2
theorem XB {α:Type} {l:List α} {i:Nat} (h:l.length≤i) {P:α->Prop} (h1:∀x∈l.take i,P x):∀x∈l,P x:=by rwa [AA3 h]at h1
theorem Fm {α:Type} {l:List α} {i:Int} (h:0≤i/\i<l.length):∃x,gt l i=some x/\l[i.toNat]? =some x/\x∈l:=by
 have:i.toNat<l.length:=by omega
 exact⟨l[i.toNat],by simp[gt,h.1,this],by simp[this],AAi this⟩
theorem Lu (i n:Int):D6 (DS i n) λb=>b=true->0≤i/\i<n:=by
 unfold DS DS.J1
 exact tD (λh=>tR λh2=>⟨h,AAa h2⟩) λ_=>tR λh=>by cases h
def QT (w:AD) (b n:Int):Prop:=∃x,gt w.Cells b=some x/\x.Index=0/\x.B0≠0/\x.B0=n
theorem YE (w:AD) (b n:Int):D6 (E3 w b n) λr=>r=true->QT w b n:=by
 have N:∀{α:Prop},D6 (some false) λb:Bool=>b=true->α:=tR λh=>by cases h
 unfold E3 E3.J1
 refine tB (Lu _ _) λv hv=>tI (λh=> ?_) λ_=>N
 obtain⟨x,hx,_⟩:=Fm (hv h)
 exact tE hx (tI (λh1=>tI (λh2=>tR λh3=>⟨x,hx,eq_of_beq h1,by simpa using h2,eq_of_beq h3⟩) λ_=>N) λ_=>N)
theorem bY (w:AD) (i:Ab):D6 (AY w i) λb=>b=true->(i.Op=7->QT w i.B i.N)/\(i.Op=9->QT w i.A i.N):=by
 have j8:∀b,TT (AY.J8 i w b):=by
  intro b;unfold AY.J8 AY.J9 AY.Th
  repeat' first|exact tR trivial|refine tB (Lu _ _) λ_ _=> ?_|refine tI (λ_=> ?_) λ_=> ?_
 have j7:∀b,TT (AY.J7 i w b):=by
  intro b;unfold AY.J7
  repeat' first|exact tR trivial|exact j8 _|refine tB (Lu _ _) λ_ _=> ?_|refine tI (λ_=> ?_) λ_=> ?_
 have j5:∀b,TT (AY.J5 i w b):=by
  intro b;unfold AY.J5 AY.J6
  refine tI (λ_=>tB (Lu _ _) λv hv=>tI (λh=>tG (hv h) λx _=>tR trivial) λ_=>tR trivial) λ_=> ?_
  repeat' first|exact j7 _|refine tI (λ_=> ?_) λ_=> ?_
 have j3:∀b,TT (AY.J3 i w b):=by
  intro b;unfold AY.J3 AY.J4
  refine tI (λ_=>tB (Lu _ _) λv hv=>tI (λh=>tG (hv h) λx _=>tR trivial) λ_=>tR trivial) λ_=> ?_
  repeat' first|exact j5 _|refine tI (λ_=> ?_) λ_=> ?_
 unfold AY AY.J1 AY.J2
 have M:∀{o:ABp Bool},TT o->i.Op≠7->i.Op≠9->D6 o λb=>b=true->(i.Op=7->QT w i.B i.N)/\(i.Op=9->QT w i.A i.N):=λh h7 h9=>tM h λ_ _ _=>⟨λh=>absurd h h7,λh=>absurd h h9⟩
 refine tI (λh=>M (tB (Lu _ _) λv hv=>tI (λh=>tG (hv h) λx _=>tR trivial) λ_=>tR trivial) ?_ ?_) λn6=>tI (λh=>M (tB (Lu _ _) λv hv=>tI (λh=>tG (hv h) λx _=>tR trivial) λ_=>tR trivial) ?_ ?_) λn8=> ?_
 . rw[eq_of_beq h];decide
 . rw[eq_of_beq h];decide
 . rw[eq_of_beq h];decide
 . rw[eq_of_beq h];decide
 . refine tI (λh=>tB (YE _ _ _) λv hv=>tR λh1=>⟨λ_=>hv h1,λh2=> ?_⟩) λn7=>tI (λh=>tB (YE _ _ _) λv hv=>tR λh1=>⟨λh2=> ?_,λ_=>hv h1⟩) λn9=> ?_
   . rw[eq_of_beq h]at h2;cases h2
   . rw[eq_of_beq h]at h2;cases h2
   . exact M (tI (λ_=>j3 _) λ_=>j3 _) (by simpa using n7) (by simpa using n9)
def UF (o:Int):Bool:=decide (1≤o)&&decide (o≤5)
theorem PO (o:Int):FE o=some (UF o):=by
 unfold FE FE.J1 UF
 by_cases h:o≥1<;>simp[h]
theorem pL {l:List Ab} (hl:l.length≤8000000) (a:Int):TT (CP l a):=by
 unfold CP
 refine XN (l.length+1) (λ_ _=>True) (F:=λn s i=>CP.Aa l n s i) (by omega) trivial λn i s hi _ k=> ?_
 unfold CP.Aa CP.L1 CP.J1 CP.J2 CP.J3
 refine tD (λ_=>tD (λ_=>tR trivial) λ_=>tD (λ_=>tR trivial) λ_=>tG (by omega) λx _=>tE (PO _) ?_) λ_=>tR trivial
 exact tI (λ_=>tR trivial) λ_=>tI (λ_=>k _ (by omega) trivial) λ_=>k _ (by omega) trivial
def W5 (w:AD) (t:Int) (x:Ab):Prop:=if x.Op=28 then x.Site= -1 else∃y,gt w.A7 x.Site=some y/\y.Thread=t
structure VI (w:AD) (t R:Int) (x:Ab):Prop where
 o:1≤x.Op/\x.Op≤28
 g:∀y∈rg x,0≤y/\y<R
 s:W5 w t x
 a:(x.Op=7->QT w x.B x.N)/\(x.Op=9->QT w x.A x.N)
structure VT (w:AD) (t:Int) (c:An):Prop where
 r:0≤c.Br/\c.Br≤32
 i:∀x∈c.A1,VI w t c.Br x
theorem Uv (w:AD) (t:Int) {c:An} (hc:c.A1.length≤8000000):D6 (AZ w t c) λb=>b=true->VT w t c:=by
 have N:∀{α:Prop},D6 (some false) λb:Bool=>b=true->α:=tR λh=>by cases h
 have j1:∀b,(b=false->0≤c.Br/\c.Br≤32)->D6 (AZ.J1 c t w b) λb=>b=true->VT w t c:=by
  intro b hb;unfold AZ.J1
  refine tI (λ_=>N) λh0=>XN c.A1.length (λi (_:Unit)=>∀x∈c.A1.take i,VI w t c.Br x) (s0:=()) (F:=λn _ i=>AZ.Aa c t w n i) (by omega) (by simp) λn i _ hi hs k=> ?_
  unfold AZ.Aa AZ.L1 AZ.J6
  refine tD (λD5=>jM (by omega) ?_) λl8=>tR λ_=>⟨hb h0,XB (by omega) hs⟩
  have D5:i<c.A1.length:=by omega
  generalize hx:c.A1[i]=x
  have j4:∀b,(b=false->(1≤x.Op/\x.Op≤28)/\W5 w t x/\(x.Op=7->QT w x.B x.N)/\(x.Op=9->QT w x.A x.N))->D6 (AZ.J4 (AZ.Aa c t w n) c i x b) λb=>b=true->VT w t c:=by
   intro b ho;unfold AZ.J4
   refine tI (λ_=>N) λh1=>tE (GF x).1 (XN (rg x).length (λi (_:Unit)=>∀y∈(rg x).take i,0≤y/\y<c.Br) (s0:=()) (F:=λn _ i=>AZ.C2 _ c _ (rg x) n i) (by have:=(GF x).2;omega) (by simp) λm j _ hj sG k2=> ?_)
   unfold AZ.C2 AZ.L2 AZ.J5
   refine tD (λ_=>jM (by omega) (tB (Lu _ _) λv hv=>tI (λ_=>N) λh=>k2 () (by omega) (take_one (by omega) sG (hv (by simpa using h))))) λ_=>k () D5 (take_one D5 hs (by rw[hx];exact⟨(ho h1).1,XB (by omega) sG,(ho h1).2.1,(ho h1).2.2⟩))
  have j3:∀b,(b=false->(1≤x.Op/\x.Op≤28)/\W5 w t x/\(x.Op=7->QT w x.B x.N)/\(x.Op=9->QT w x.A x.N))->D6 (AZ.J3 (AZ.Aa c t w n) c i x b) λb=>b=true->VT w t c:=by
   intro b ho;unfold AZ.J3
   refine tI (λ_=>N) λh1=> ?_
   repeat' first|exact j4 _ λ_=>ho h1|refine tB (Lu _ _) λ_ _=> ?_|refine tI (λ_=> ?_) λ_=> ?_
  have j2:∀b,(b=false->(1≤x.Op/\x.Op≤28)/\(x.Op=7->QT w x.B x.N)/\(x.Op=9->QT w x.A x.N))->D6 (AZ.J2 (AZ.Aa c t w n) c i t w x b) λb=>b=true->VT w t c:=by
   intro b ho;unfold AZ.J2
   refine tI (λ_=>N) λh1=> ?_
   obtain⟨o1,o2⟩:=ho h1
   have T:∀b,b=true->D6 (AZ.J3 (AZ.Aa c t w n) c i x b) λb=>b=true->VT w t c:=λb hb=>j3 b λh=>by rw[hb]at h;cases h
   refine tI (λh28=>tI (λ_=>T _ rfl) λhs28=>tI (λh=>by rw[eq_of_beq h28]at h;cases h) λ_=>j3 _ λ_=>⟨o1,?_,o2⟩) λh28=>tI (λ_=> ?_) λh=>by simp at h h28;omega
   . unfold W5;rw[AAY (eq_of_beq h28)];simpa using hs28
   . refine tB (Lu _ _) λv hv=>tI (λ_=>T _ rfl) λh=> ?_
     obtain⟨y,hy,_⟩:=Fm (hv (by simpa using h))
     refine tE hy (j3 _ λht=>⟨o1,?_,o2⟩)
     unfold W5
     rw[AAX (by simpa using h28)]
     exact⟨y,hy,by simpa using ht⟩
  refine tD (λ_=>j2 _ λh=>by cases h) λ_=>tD (λ_=>j2 _ λh=>by cases h) λ_=> ?_
  have ho:1≤x.Op/\x.Op≤28:=by omega
  exact tI (λ_=>j2 _ λh=>by cases h) λ_=>tB (bY _ _) λv hv=>tI (λ_=>j2 _ λh=>by cases h) λh=>NN (pL hc _) λ_=>j2 _ λ_=>⟨ho,hv (by simpa using h)⟩
 unfold AZ
 exact tD (λ_=>j1 _ λh=>by cases h) λ_=>tD (λ_=>j1 _ λh=>by cases h) λ_=>j1 _ λ_=>by omega
structure VC (c:BF):Prop where
 w:Ck c.World=true
 n:c.AA.length=c.World.AA.length
 t:∀(i:Nat) t,c.AA[i]? =some t->VT c.World i t
theorem VK {c:BF} (hc:CK c):D6 (CB c) λb=>b=true->VC c:=by
 have N:∀{α:Prop},D6 (some false) λb:Bool=>b=true->α:=tR λh=>by cases h
 have hn:=hc.n
 have j1:∀b,(b=false->Ck c.World=true/\c.AA.length=c.World.AA.length)->D6 (CB.J1 c b) λb=>b=true->VC c:=by
  intro b hb;unfold CB.J1
  refine tI (λ_=>N) λh0=>XN c.AA.length (λi (_:Unit)=>∀(j:Nat) x,j<i->c.AA[j]? =some x->VT c.World j x) (s0:=()) (F:=λn _ i=>CB.Aa c n i) (by omega) (λj _ h=>by omega) λn i _ hi hs k=> ?_
  unfold CB.Aa CB.L1 CB.J2
  refine tD (λD5=>jM (by omega) (tB (Uv _ _ (hc.i _ (AAi (by omega)))) λv hv=>tI (λ_=>N) λh=>k () (by omega) ?_)) λ_=>tR λ_=>⟨(hb h0).1,(hb h0).2,λj x hx=>hs j x ?_ hx⟩
  . intro j x hj hx
    by_cases e:j<i
    . exact hs j x e hx
    . obtain rfl:j=i:=by omega
      rw[AAT (by omega)]at hx
      rw[← AAR hx]
      exact hv (by simpa using h)
  . have:=(AAQ.1 hx).1;omega
 unfold CB
 refine tE (Ot _) (tI (λ_=>j1 _ λh=>by cases h) λh=>j1 _ λh2=>⟨by simpa using h,?_⟩)
 have:=AAa (by simpa using h2:decide ((c.AA.length:Int)=(c.World.AA.length:Int))=true)
 omega
def Kl {α:Type} (o:ABp α) (Q:α->Prop):Prop:=∀r,o=some r->Q r
theorem pR {α:Type} {r:α} {Q:α->Prop} (h:Q r):Kl (some r) Q:=λ_ e=>by cases e;exact h
theorem pN {α:Type} {Q:α->Prop}:Kl (none:ABp α) Q:=λ_ e=>by cases e
theorem pB {α β:Type} {o:ABp α} {Q:α->Prop} {f:α->ABp β} {R:β->Prop} (h:Kl o Q) (k:∀x,Q x->Kl (f x) R):Kl (o.bind f) R:=by
 intro r e
 cases o with
 |none=>cases e
 |some x=>exact k x (h x rfl) r e
theorem pE {α β:Type} {o:ABp α} {y:α} {f:α->ABp β} {R:β->Prop} (h:o=some y) (k:Kl (f y) R):Kl (o.bind f) R:=by rw[h];exact k
theorem pC {α:Type} {p:Prop} [Decidable p] {a:ABp α} {R:α->Prop} (k:p->Kl a R):Kl (if p then a else none) R:=by
 by_cases h:p
 . rw[AAY h];exact k h
 . rw[AAX h];exact pN
theorem pI {α:Type} {c:Bool} {a b:ABp α} {R:α->Prop} (h1:c=true->Kl a R) (h2:c=false->Kl b R):Kl (if c=true then a else b) R:=by
 cases c with
 |true=>exact h1 rfl
 |false=>exact h2 rfl
theorem pD {α:Type} {p:Prop} [Decidable p] {a b:ABp α} {R:α->Prop} (h1:p->Kl a R) (h2:¬p->Kl b R):Kl (if decide p=true then a else b) R:=by
 by_cases h:p
 . simpa[h]using h1 h
 . simpa[h]using h2 h
theorem pT {α:Type} {o:ABp α} {Q:α->Prop} (h:D6 o Q):Kl o Q:=by
 obtain⟨x,rfl,hx⟩:=h;exact pR hx
theorem pLs {σ α:Type} {Q:α->Prop} (N:Nat) (I:Nat->σ->Prop) {F:Nat->σ->Int->ABp α} (hF:∀s i,F 0 s i=none) (hN:N<1000000000000) {s0:σ} (h0:I 0 s0)
 (h:∀n (i:Nat) s,i≤N->I i s->(∀s',i<N->I (i+1) s'->Kl (F n s' (Ap (i+1))) Q)->Kl (F (n+1) s i) Q):Kl (F BT s0 0) Q:=by
 have key:∀n (i:Nat) s,i≤N->I i s->Kl (F n s i) Q:=by
  intro n
  induction n with
  |zero=>intro i s _ _;rw[hF];exact pN
  |succ n ih=>
   intro i s h2 h3
   refine h n i s h2 h3 λs' h4 h5=> ?_
   rw[Ao (by omega)]
   exact ih (i+1) s' (by omega) h5
 exact key BT 0 s0 (by omega) h0
def StI (l:List Ab) (k m:Nat):Prop:=∃x,l[k]? =some x/\UF x.Op=true/\(x.Op=5/\x.A=(m:Int)∨x.Op≠5/\m=k+1)
def UI (l:List Ab) (a b:Nat):Nat->Nat->Nat->Prop
 |0,k,m=>k=m
 |n+1,k,m=>(a≤k/\k<b)/\∃j,StI l k j/\UI l a b n j m
def Ev (l:List Ab) (m:Nat):Prop:=∃x,l[m]? =some x/\UF x.Op=false
theorem UI.frame {l l':List Ab} {a b a' b':Nat} (h:∀i,a≤i->i<b->l[i]? =l'[i]?) (ha:a'≤a) (hb:b≤b'):∀{n k m},UI l a b n k m->UI l' a' b' n k m
 |0,_,_,e=>e
 |n+1,k,m,⟨⟨h1,h2⟩,j,⟨x,x1,x2⟩,h4⟩=>⟨⟨by omega,by omega⟩,j,⟨x,by rw[← h k h1 h2];exact x1,x2⟩,h4.frame h ha hb⟩
theorem UI.trans {l:List Ab} {a b:Nat}:∀{n k m p q},UI l a b n k m->UI l a b p m q->UI l a b (n+p) k q
 |0,_,_,p,_,e,h=>by cases e;rw[ABS];exact h
 |n+1,_,_,p,_,⟨h1,j,h2,h3⟩,h=>by rw[Nat.succ_add];exact⟨h1,j,h2,h3.trans h⟩
theorem UI.one {l:List Ab} {a b k m:Nat} (h:a≤k/\k<b) (s:StI l k m):UI l a b 1 k m:=⟨h,m,s,rfl⟩
structure LV (w:AD) (lo hi:Int) (c:Nat) (x:Ab):Prop where
 o:1≤x.Op/\x.Op≤27
 ob:AY w x=some true
 g:∀y∈rg x,0≤y/\y<32
 s:lo≤x.Site/\x.Site<hi
 j:x.Op=5->0≤x.A/\x.A≤c
 b:x.Op=10->0≤x.B/\x.B≤c
structure SG (w:AD) (lo hi:Int) (l:List Ab) (a b c:Nat):Prop where
 h:a≤b/\b≤l.length
 i:∀k x,a≤k->k<b->l[k]? =some x->LV w lo hi c x
 f:∀k,a≤k->k<b->(∃n m,UI l a b n k m/\(a≤m/\m<b)/\Ev l m/\n+a+1≤b)∨∃n,UI l a b n k b/\n+k≤b
section
variable {w:AD} {lo hi lo' hi':Int} {l l':List Ab} {a b c d:Nat}
theorem LV.mono {x:Ab} (h:LV w lo hi c x) (h1:lo'≤lo) (h2:hi≤hi') (h3:c≤d):LV w lo' hi' d x:=
 ⟨h.o,h.ob,h.g,⟨by have:=h.s;omega,by have:=h.s;omega⟩,λe=>by have:=h.j e;omega,λe=>by have:=h.b e;omega⟩
theorem SG.frame (h:SG w lo hi l a b c) (hl:∀i,a≤i->i<b->l[i]? =l'[i]?) (hb:b≤l'.length) (h1:lo'≤lo) (h2:hi≤hi') (h3:c≤d):SG w lo' hi' l' a b d:=by
 refine⟨⟨h.h.1,hb⟩,λk x k1 k2 hx=>(h.i k x k1 k2 (by rw[hl k k1 k2];exact hx)).mono h1 h2 h3,λk k1 k2=> ?_⟩
 rcases h.f k k1 k2 with⟨n,m,r,m1,⟨x,x1,x2⟩,hn⟩|⟨n,r,hn⟩
 . exact .inl ⟨n,m,r.frame hl (by omega) (by omega),m1,⟨x,by rw[← hl m m1.1 m1.2];exact x1,x2⟩,hn⟩
 . exact .inr ⟨n,r.frame hl (by omega) (by omega),hn⟩
theorem SG.mono (h:SG w lo hi l a b c) (h1:lo'≤lo) (h2:hi≤hi') (h3:c≤d):SG w lo' hi' l a b d:=h.frame (λ_ _ _=>rfl) h.h.2 h1 h2 h3
theorem SG.nil (h:a≤l.length):SG w lo hi l a a c:=⟨⟨by omega,h⟩,λk x _ _=>by omega,λk _ _=>by omega⟩
theorem SG.app {e:Nat} (h:SG w lo hi l a b c) (g:SG w lo hi l b e c):SG w lo hi l a e c:=by
 have hh:=h.h;have gh:=g.h
 refine⟨⟨by omega,gh.2⟩,λk x k1 k2 hx=> ?_,λk k1 k2=> ?_⟩
 . by_cases hk:k<b
   . exact h.i k x k1 hk hx
   . exact g.i k x (by omega) k2 hx
 . have up:∀{n k m},UI l b e n k m->UI l a e n k m:=λr=>r.frame (λ_ _ _=>rfl) (by omega) (by omega)
   have up':∀{n k m},UI l a b n k m->UI l a e n k m:=λr=>r.frame (λ_ _ _=>rfl) (by omega) (by omega)
   by_cases hk:k<b
   . rcases h.f k k1 hk with⟨n,m,r,m1,ev,hn⟩|⟨n,r,hn⟩
     . exact .inl ⟨n,m,up' r,by omega,ev,by omega⟩
     . by_cases hbe:b<e
       . rcases g.f b (by omega) hbe with⟨n',m,r',m1,ev,oP⟩|⟨n',r',oP⟩
         . exact .inl ⟨n+n',m,(up' r).trans (up r'),by omega,ev,by omega⟩
         . exact .inr ⟨n+n',(up' r).trans (up r'),by omega⟩
       . have:b=e:=by omega
         subst this
         exact .inr ⟨n,up' r,by omega⟩
   . rcases g.f k (by omega) k2 with⟨n,m,r,m1,ev,hn⟩|⟨n,r,hn⟩
     . exact .inl ⟨n,m,up r,by omega,ev,by omega⟩
     . exact .inr ⟨n,up r,hn⟩
theorem SG.one {x:Ab} (hx:l[a]? =some x) (hv:LV w lo hi c x) (h5:x.Op≠5):SG w lo hi l a (a+1) c:=by
 have hl:=(AAQ.1 hx).1
 refine⟨⟨by omega,by omega⟩,λk y k1 k2 hy=> ?_,λk k1 k2=> ?_⟩
 . obtain rfl:k=a:=by omega
   rw[hx]at hy;cases hy;exact hv
 . obtain rfl:k=a:=by omega
   cases hs:UF x.Op with
   |false=>exact .inl ⟨0,k,rfl,by omega,⟨x,hx,hs⟩,by omega⟩
   |true=>exact .inr ⟨1,UI.one (by omega) ⟨x,hx,hs,.inr ⟨h5,rfl⟩⟩,by omega⟩
end
def TB (E:Int) (x:List Int):Prop:=x.Pairwise (· < ·)/\∀y∈x,0≤y/\y<E
theorem TB.len {E:Int} {x:List Int} (h:TB E x) (h0:0≤E):(x.length:Int)≤E:=by
 have key:∀(x:List Int) (a:Int),x.Pairwise (· < ·)->(∀y∈x,a≤y/\y<E)->a≤E->(x.length:Int)≤E-a:=by
  intro x
  induction x with
  |nil=>intro a _ _ h;simp;omega
  |cons y r ih=>
   intro a h1 h2 h3
   obtain⟨p1,p2⟩:=List.pairwise_cons.1 h1
   have hy:=h2 y ABL
   have:=ih (y+1) p2 (λz hz=>⟨p1 z hz,(h2 z (List.mem_cons_of_mem _ hz)).2⟩) (by omega)
   simp only[AA7];omega
 have:=key x 0 h.1 h.2 h0
 omega
theorem TB.mono {E F:Int} {x:List Int} (h:TB E x) (hf:E≤F):TB F x:=⟨h.1,λy hy=>⟨(h.2 y hy).1,by have:=(h.2 y hy).2;omega⟩⟩
structure TH (E:Nat) (s:AL):Prop where
 r:s.Br.length≤100
 t:s.Bn.length≤100
 b:∀x∈s.Bn,TB s.AF x
 e:0≤s.AF/\s.AF≤E
theorem TH.zero (E:Nat):TH E ⟨0,[],[],0⟩:=⟨by simp,by simp,by simp,by simp,by simp⟩
theorem Zz {E:Nat} {s:AL} (h:TH E s) (hE:E≤100000):Ch s=some s:=by
 have hr:=h.r;have ht:=h.t;have he:=h.e
 have key:D6 (Ch s) λr=>r=s:=by
  unfold Ch
  refine tC (DK (by omega)) (XN s.Bn.length (λi o=>o=⟨s.PC,s.Br,s.Bn.take i,s.AF⟩) (F:=λn o i=>Ch.Aa s n o i) (by omega) rfl λn i o hi ho k=> ?_)
  subst ho
  unfold Ch.Aa Ch.L1 Ch.J1
  refine tD (λ_=>jM (by omega) ?_) λ_=>tR (by rw[AA3 (by omega)])
  have:=(h.b _ (AAi (show i<s.Bn.length by omega))).len he.1
  exact tC (DK (by omega)) (tC (DK (by simp;omega)) (k _ (by omega) (by rw[AAk])))
 obtain⟨r,h1,rfl⟩:=key
 exact h1
theorem rg1 {i:Ab} (h:i.Op=1):rg i=[i.A]:=by unfold rg AU AU.J1;simp[h]
theorem rg2 {i:Ab} (h:i.Op=2):rg i=[i.A,i.B]:=by unfold rg AU AU.J1 AU.J2;simp[h]
theorem rg3 {i:Ab} (h:i.Op=3):rg i=[i.A,i.B]:=by unfold rg AU AU.J1 AU.J2;simp[h]
theorem rg4 {i:Ab} (h:i.Op=4):rg i=[i.A,i.B,i.C]:=by unfold rg AU AU.J1 AU.J2;simp[h]
theorem rg6 {i:Ab} (h:i.Op=6):rg i=[i.A]:=by unfold rg AU AU.J1;simp[h]
theorem rg7 {i:Ab} (h:i.Op=7):rg i=[i.A,i.C]:=by unfold rg AU AU.J1 AU.J2;simp[h]
theorem rg8 {i:Ab} (h:i.Op=8):rg i=[i.B]:=by unfold rg AU AU.J1 AU.J2 AU.J3;simp[h]
theorem rg9 {i:Ab} (h:i.Op=9):rg i=[i.B,i.C]:=by unfold rg AU AU.J1 AU.J2 AU.J3;simp[h]
theorem rg10 {i:Ab} (h:i.Op=10):rg i=[i.A]:=by unfold rg AU AU.J1;simp[h]
theorem rg26 {i:Ab} (h:i.Op=26):rg i=[i.B]:=by unfold rg AU AU.J1 AU.J2 AU.J3;simp[h]
theorem rg27 {i:Ab} (h:i.Op=27):rg i=[i.A]:=by unfold rg AU AU.J1;simp[h]
theorem SD (n:Int):TT (Cj n):=by
 unfold Cj Cj.J1
 repeat' first|exact tR trivial|refine tI (λ_=> ?_) λ_=> ?_
theorem Ys (b:Bool):TT (Di b):=by
 unfold Di
 exact tI (λ_=>tR trivial) λ_=>tR trivial
theorem mI (o a:Int):TT (Hq o a):=by
 unfold Hq
 repeat' first|exact tR trivial|refine NN (Ys _) λ_=> ?_|refine tI (λ_=> ?_) λ_=> ?_
theorem eD (o a b:Int):TT (DW o a b):=by
 unfold DW DW.J1 DW.J2
 repeat' first|exact tR trivial|refine NN (Ys _) λ_=> ?_|refine tD (λ_=>tR trivial) λhb=>tC hb ?_|refine tI (λ_=> ?_) λ_=> ?_
theorem zW {E:Nat} {i:Ab} {s:AL} {P:Int->Prop} (hs:TH E s) (hP:∀x∈s.Bn,∀k∈x,P k) (hE:E≤100000) (hl:s.Bn.length=s.Br.length) (ho:UF i.Op=true):D6 (B4 i s) λr=>r.2=true->(TH E r.1/\r.1.Bn.length=r.1.Br.length)/\r.1.AF=s.AF/\∀x∈r.1.Bn,∀k∈x,P k:=by
 have N:∀{x} {P:AL×Bool->Prop},D6 (some (x,false)) λr:AL×Bool=>r.2=true->P r:=tR λh=>by cases h
 have he:=hs.e;have hr:=hs.r;have ht:=hs.t
 have j3:∀v ok t,0≤i.A/\i.A<s.Br.length->TB s.AF t->(∀k∈t,P k)->D6 (B4.J3 i s v ok t) λr=>r.2=true->(TH E r.1/\r.1.Bn.length=r.1.Br.length)/\r.1.AF=s.AF/\∀x∈r.1.Bn,∀k∈x,P k:=by
  intro v ok t ha htb htp
  have:=htb.len he.1
  unfold B4.J3
  refine tC (DK (by omega)) (tG ha λ_ _=>tG (by omega) λ_ _=>tR λ_=>⟨⟨⟨by simpa using hr,by simpa using ht,?_,he⟩,by simpa using hl⟩,rfl,?_⟩)
  . intro x hx
    rcases AAv hx with hx|rfl
    . exact hs.b x hx
    . exact htb
  . intro x hx
    rcases AAv hx with hx|rfl
    . exact hP x hx
    . exact htp
 have j2:(∀y∈rg i,0≤y/\y<s.Br.length)->D6 (B4.J2 i s) λr=>r.2=true->(TH E r.1/\r.1.Bn.length=r.1.Br.length)/\r.1.AF=s.AF/\∀x∈r.1.Bn,∀k∈x,P k:=by
  intro hg;unfold B4.J2
  refine tI (λ_=>tR λ_=>⟨⟨⟨hr,ht,hs.b,he⟩,hl⟩,rfl,hP⟩) λn5=>tI (λh1=> ?_) λn1=>tI (λh2=> ?_) λn2=>tI (λh3=> ?_) λn3=> ?_
  . simp only[rg1 (eq_of_beq h1),AA4,forall_eq]at hg
    exact j3 _ _ _ hg ⟨List.Pairwise.nil,by simp⟩ (by simp)
  . simp only[rg2 (eq_of_beq h2),AAp,ABn,ABd,forall_eq_or_imp,forall_eq]at hg
    exact tG hg.2 λ_ _=>tG (by omega) λx hx=>j3 _ _ _ hg.1 (hs.b x hx) (hP x hx)
  . simp only[rg3 (eq_of_beq h3),AAp,ABn,ABd,forall_eq_or_imp,forall_eq]at hg
    exact NN (SD _) λ_=>tG hg.2 λ_ _=>NN (mI _ _) λ_=>tG (by omega) λx hx=>j3 _ _ _ hg.1 (hs.b x hx) (hP x hx)
  . have h4:i.Op=4:=by simp[UF]at ho n5 n1 n2 n3;omega
    simp only[rg4 h4,AAp,ABn,ABd,forall_eq_or_imp,forall_eq]at hg
    refine NN (SD _) λ_=>tG hg.2.1 λ_ _=>tG hg.2.2 λ_ _=>NN (eD _ _ _) λ_=>tG (by omega) λx hx=>tG (by omega) λy hy=> ?_
    have lx:=(hs.b x hx).len he.1;have ly:=(hs.b y hy).len he.1
    refine tE (Z6 x y (by omega)) (j3 _ _ _ hg.1 ⟨NK _,λz hz=> ?_⟩ λz hz=> ?_)
    . rcases AAj.1 ((Pb _ _).1 hz)with hz|hz
      . exact(hs.b x hx).2 z hz
      . exact(hs.b y hy).2 z hz
    . rcases AAj.1 ((Pb _ _).1 hz)with hz|hz
      . exact hP x hx z hz
      . exact hP y hy z hz
 unfold B4
 refine tE (GF i).1 (XN (rg i).length (λj (_:Unit)=>∀y∈(rg i).take j,0≤y/\y<(s.Br.length:Int)) (s0:=()) (F:=λn _ j=>B4.Aa i s (rg i) n j) (by have:=(GF i).2;omega) (by simp) λn j _ hj sG k=> ?_)
 unfold B4.Aa B4.L1 B4.J1
 refine tD (λ_=>jM (by omega) (tD (λ_=>tI (λ_=>N) λh=>by cases h) λ_=>tD (λ_=>N) λ_=>k () (by omega) (take_one (by omega) sG (by omega)))) λ_=>j2 (XB (by omega) sG)
def PN:AL:=⟨0,[],[],0⟩
theorem eM {E:Nat} {c:An} {s:AL} {P:Int->Prop} (hs:TH E s) (hP:∀x∈s.Bn,∀k∈x,P k) (hE:E≤100000) (hc:c.A1.length≤8000000):D6 (Bf c s) λr=>TH E r.1/\(r.1=PN∨r.1.AF=s.AF/\∀x∈r.1.Bn,∀k∈x,P k):=by
 have Z:TH E PN/\(PN=PN∨PN.AF=s.AF/\∀x∈PN.Bn,∀k∈x,P k):=⟨TH.zero E,.inl rfl⟩
 have j1:∀b,(b=false->s.Bn.length=s.Br.length)->D6 (Bf.J1 c s b) λr=>TH E r.1/\(r.1=PN∨r.1.AF=s.AF/\∀x∈r.1.Bn,∀k∈x,P k):=by
  intro b hb;unfold Bf.J1
  refine tI (λ_=>tR Z) λh0=>tE (Zz hs hE) (XN (c.A1.length+1) (λ_ t=>(TH E t/\t.Bn.length=t.Br.length)/\t.AF=s.AF/\∀x∈t.Bn,∀k∈x,P k) (F:=λn s j=>Bf.Aa c n s j) (by omega) ⟨⟨hs,hb h0⟩,rfl,hP⟩ λn i t hi ht k=> ?_)
  unfold Bf.Aa Bf.L1 Bf.J2 Bf.J3
  refine tD (λ_=>tD (λ_=>tI (λ_=>tR Z) λh=>by cases h) λ_=>tD (λ_=>tR Z) λ_=>tG (by omega) λx _=>tE (PO _) (tI (λ_=>tR ⟨ht.1.1,.inr ht.2⟩) λh=>tI (λ_=>tR Z) λ_=> ?_)) λ_=>tR Z
  exact tB (zW ht.1.1 ht.2.2 hE ht.1.2 (by simpa using h)) λv hv=>tI (λ_=>tR Z) λh=>k _ (by omega) (by have:=hv (by simpa using h);rw[ht.2.1]at this;exact this)
 unfold Bf
 refine tI (λ_=>j1 _ λh=>by cases h) λh=>j1 _ λh2=> ?_
 simp at h h2;omega
def bV:List Ic:=[⟨⟨#[109]⟩,false⟩,⟨⟨#[110]⟩,false⟩,⟨⟨#[114]⟩,true⟩]
structure WF (T:ABq->Prop) (w:AD):Prop where
 c:w.Cells=QU
 l:w.AG=bV
 d:w.Af=[⟨cN,0⟩]
 f:w.AK=[⟨#[102]⟩]
 t:∀s,T s->s∈w.AA
 n:w.AA.length≤4
structure GW (T:ABq->Prop) (g:A5):Prop where
 w:WF T g.w
 l:g.locals=sB
structure GV (g r:A5) (lo hi:Int):Prop where
 w:r.w=g.w
 l:r.locals=g.locals
 n:g.out.length≤r.out.length
 p:∀i,i<g.out.length->r.out[i]? =g.out[i]?
 s:SG g.w lo hi r.out g.out.length r.out.length r.out.length
section
variable {T:ABq->Prop} {g h r:A5} {lo hi lo' hi':Int}
theorem GV.refl:GV g g lo hi:=⟨rfl,rfl,AAy _,λ_ _=>rfl,SG.nil (AAy _)⟩
theorem GV.trans (a:GV g h lo hi) (b:GV h r lo hi):GV g r lo hi:=by
 have an:=a.n;have bn:=b.n
 refine⟨b.w.trans a.w,b.l.trans a.l,by omega,λi hi=>(b.p i (by omega)).trans (a.p i hi),(a.s.frame (l':=r.out) (d:=r.out.length) (λi _ hi=>(b.p i hi).symm) (by omega) (by omega) (by omega) (by omega)).app ?_⟩
 have:=b.s
 rw[a.w]at this
 exact this
theorem GV.mono (a:GV g r lo hi) (h1:lo'≤lo) (h2:hi≤hi'):GV g r lo' hi':=⟨a.w,a.l,a.n,a.p,a.s.mono h1 h2 (AAy _)⟩
theorem GV.site (a:GV g r lo hi) (s n:Int):GV g ⟨r.w,r.locals,r.out,s,n⟩ lo hi:=⟨a.w,a.l,a.n,a.p,a.s⟩
theorem GW.next (a:GW T g) (b:GV g r lo hi):GW T r:=⟨by rw[b.w];exact a.w,b.l.trans a.l⟩
theorem GW.site (a:GW T g) (s n:Int):GW T ⟨g.w,g.locals,g.out,s,n⟩:=⟨a.w,a.l⟩
theorem GV.put {x:Ab} {s n:Int} (hv:LV g.w lo hi (g.out.length+1) x) (h5:x.Op≠5):GV g ⟨g.w,g.locals,g.out++[x],s,n⟩ lo hi:=by
 refine⟨rfl,rfl,by simp,λi hi=>by simp only;rw[AAr hi],?_⟩
 simp only[AA1,AA7,ABR]
 exact SG.one (by simp) hv h5
abbrev GK (g r:A5) (lo hi:Int):Prop:=GV g r lo hi/\r.site=g.site/\r.next=g.next
theorem GK.trans (a:GK g h lo hi) (b:GK h r lo hi):GK g r lo hi:=⟨a.1.trans b.1,b.2.1.trans a.2.1,b.2.2.trans a.2.2⟩
end
theorem uV {l:List DB} (hl:l.length≤12) {L:List ABq->Int->ABp (List ABq×Bool)} {i:Nat} {names:List ABq} {x:DB} {v:List ABq×Bool} (h1:1≤x.B0/\x.B0≤4) (hi:(i:Int)+x.B0≤l.length) (hv:v.2=true):
 ∀(n t:Nat) (want:DB),want.B0=x.B0->(t:Int)≤x.B0->AR.C2 L i l names x n want t=some v->
 (∀k:Nat,t≤k->(k:Int)<x.B0->∃c,l[i+k]? =some c/\c.Index=k/\c.B0=x.B0)/\L (names++[x.Name]) (i+x.B0)=some v:=by
 intro n
 induction n with
 |zero=>intro t want _ _ h;cases h
 |succ n ih=>
  intro t want hw ht h
  unfold AR.C2 AR.L2 at h
  by_cases D5:(t:Int)<x.B0
  . rw[BC D5,DR (n:=(i:Int)+t) (by omega) (by omega),show(i:Int)+t=((i+t:Nat):Int)from by omega,CU (by omega),AAO]at h
    split at h
    . cases h;cases hv
    . rename_i hc
      rw[Ao (by omega)]at h
      obtain⟨a,b⟩:=ih (t+1) ⟨want.Name,t,want.B0,want.Fv,want.Init⟩ hw (by omega) h
      refine⟨λk hk V1=> ?_,b⟩
      by_cases e:k=t
      . subst e
        refine⟨l[i+k],AAT (by omega),?_⟩
        simp only[ABU,Bool.not_eq_false,AAP,AAd]at hc
        exact⟨hc.2.1,hc.2.2.1.trans hw⟩
      . exact a k (by omega) V1
  . rw[Ac D5]at h
    unfold AR.J2 at h
    rw[hw,DR (by omega) (by omega)]at h
    exact⟨λk hk V1=>by omega,h⟩
theorem nK {l:List DB} (hl:l.length≤12) {v:List ABq×Bool} (hv:v.2=true):∀(n i:Nat) (names:List ABq),names.length≤i->i≤l.length->AR.Aa l n names i=some v->
 ∀(b:Nat) (c:DB),i≤b->l[b]? =some c->c.Index=0->c.B0≠0->(1≤c.B0/\c.B0≤4)/\∀k:Nat,(k:Int)<c.B0->∃d,l[b+k]? =some d/\d.B0≠0:=by
 intro n
 induction n with
 |zero=>intro i names _ _ h;cases h
 |succ n ih=>
  intro i names hn hil h b c hb hc h0 hs
  have hbl:=(AAQ.1 hc).1
  unfold AR.Aa AR.L1 at h
  have hi:i<l.length:=by omega
  rw[BC (by omega),CU hi,AAO,BL (by omega)]at h
  have hx:l[i]? =some l[i]:=AAT hi
  generalize l[i]=x at h hx
  by_cases e:x.B0=0
  . rw[AAY (by simpa using e)]at h
    split at h
    . cases h;cases hv
    . rw[Ao (by omega)]at h
      by_cases eb:b=i
      . subst eb;rw[hx]at hc;cases hc;exact absurd e hs
      . exact ih (i+1) _ (by simp;omega) (by omega) h b c (by omega) hc h0 hs
  . rw[AAX (by simpa using e)]at h
    have J:∀t,AR.J1 (AR.Aa l n) i l names x t=some v->t=false/\AR.C2 (AR.Aa l n) i l names x BT x 0=some v:=by
     intro t ht
     unfold AR.J1 at ht
     cases t with
     |true=>cases ht;cases hv
     |false=>exact⟨rfl,ht⟩
    have key:(1≤x.B0/\x.B0≤4)/\(i:Int)+x.B0≤l.length/\AR.C2 (AR.Aa l n) i l names x BT x 0=some v:=by
     rw[DR (n:=(l.length:Int)-i) (by omega) (by omega)]at h
     split at h
     . exact absurd (J _ h).1 (by simp)
     . rename_i a1
       split at h
       . exact absurd (J _ h).1 (by simp)
       . rename_i a2
         split at h
         . exact absurd (J _ h).1 (by simp)
         . obtain⟨q1,q2⟩:=J _ h
           simp at a1 a2 q1
           exact⟨by omega,by omega,q2⟩
    obtain⟨k1,k2,k3⟩:=key
    obtain⟨a,r⟩:=uV hl k1 k2 hv BT 0 x rfl (by omega) k3
    by_cases eb:(b:Int)<i+x.B0
    . obtain⟨d,d1,d2,d3⟩:=a (b-i) (by omega) (by omega)
      rw[show i+(b-i)=b from by omega,hc]at d1
      cases d1
      have:b=i:=by omega
      subst this
      rw[hx]at hc;cases hc
      refine⟨k1,λk hk=> ?_⟩
      obtain⟨d,d1,d2,d3⟩:=a k (by omega) hk
      exact⟨d,d1,by rw[d3];exact hs⟩
    . rw[show(i:Int)+x.B0=((i+x.B0.toNat:Nat):Int)from by omega]at r
      exact ih (i+x.B0.toNat) _ (by simp;omega) (by omega) r b c (by omega) hc h0 hs
theorem mP {w:AD} (hw:Ck w=true) {b n:Int} (h:QT w b n):(1≤n/\n≤4)/\∀k,0≤k->k<n->∃d,gt w.Cells (b+k)=some d/\d.B0≠0:=by
 have hl:=(EC hw).c
 obtain⟨x,hx,h0,hs,hn⟩:=h
 have hb:0≤b:=by
  unfold gt at hx
  split at hx
  . assumption
  . cases hx
 obtain⟨m,rfl⟩:∃m:Nat,b=m:=⟨b.toNat,by omega⟩
 rw[LG]at hx
 have hc:∃v,AR w.Cells=some v/\v.2=true:=by
  unfold Ck at hw
  cases hv:AR w.Cells with
  |none=>simp[hv]at hw
  |some v=>simp[hv]at hw;exact⟨v,rfl,hw.2.1.1.1⟩
 obtain⟨v,v1,v2⟩:=hc
 obtain⟨a1,a2⟩:=nK hl v2 BT 0 [] (by simp) (by omega) v1 m x (by omega) hx h0 hs
 rw[hn]at a1 a2
 refine⟨a1,λk k1 k2=> ?_⟩
 obtain⟨j,rfl⟩:∃j:Nat,k=j:=⟨k.toNat,by omega⟩
 rw[show(m:Int)+j=((m+j:Nat):Int)from by omega,LG]
 exact a2 j k2
structure FT (c:BF) (s:Ad):Prop where
 v:VC c
 f:G8 c.World s.Sync=true
 c':s.Cells.length=c.World.Cells.length
 u:s.AK.length=c.World.AK.length
 n:s.AA.length=c.AA.length
 t:∀(i:Nat) x y,s.AA[i]? =some x->c.AA[i]? =some y->(0≤x.PC/\x.PC<y.A1.length)/\(x.Br.length:Int)=y.Br/\(x.Bn.length:Int)=y.Br
theorem vJ {c:BF} (hc:CK c) (s:Ad):D6 (ES c s) λb=>b=true->FT c s:=by
 have N:∀{α:Prop},D6 (some false) λb:Bool=>b=true->α:=tR λh=>by cases h
 have hn:=hc.n
 have j1:∀b,(b=false->VC c/\G8 c.World s.Sync=true/\s.Cells.length=c.World.Cells.length/\s.AK.length=c.World.AK.length/\s.AA.length=c.AA.length)->D6 (ES.J1 c s b) λb=>b=true->FT c s:=by
  intro b hb;unfold ES.J1
  refine tI (λ_=>N) λh0=> ?_
  obtain⟨h1,h2,h3,h4,h5⟩:=hb h0
  refine XN c.AA.length (λi (_:Unit)=>∀(j:Nat) x y,j<i->s.AA[j]? =some x->c.AA[j]? =some y->(0≤x.PC/\x.PC<y.A1.length)/\(x.Br.length:Int)=y.Br/\(x.Bn.length:Int)=y.Br) (s0:=()) (F:=λn _ i=>ES.Aa c s n i) (by omega) (λj _ _ h=>by omega) λn i _ hi hs k=> ?_
  unfold ES.Aa ES.L1 ES.J2 ES.J3
  refine tD (λ_=>jM (by omega) (tD (λ_=>tI (λ_=>N) λh=>by cases h) λp1=>jM (by omega) (tD (λ_=>tI (λ_=>N) λh=>by cases h) λp2=>tI (λ_=>tI (λ_=>N) λh=>by cases h) λp3=>tI (λ_=>N) λp4=>k () (by omega) ?_))) λ_=>tR λ_=>⟨h1,h2,h3,h4,h5,λj x y hx hy=>hs j x y ?_ hx hy⟩
  . intro j x y hj hx hy
    by_cases e:j<i
    . exact hs j x y e hx hy
    . obtain rfl:j=i:=by omega
      rw[AAT (by omega)]at hx hy
      rw[← AAR hx,← AAR hy]
      simp at p3 p4
      exact⟨by omega,p3,p4⟩
  . have:=(AAQ.1 hy).1;omega
 unfold ES
 refine tB (VK hc) λv hv=>tI (λ_=>j1 _ λh=>by cases h) λh=> ?_
 have hv:=hv (by simpa using h)
 refine tE (Nr _ (EC hv.w) _) (tI (λ_=>j1 _ λh=>by cases h) λh1=>tI (λ_=>j1 _ λh=>by cases h) λh2=>tI (λ_=>j1 _ λh=>by cases h) λh3=>j1 _ λh4=>⟨hv,by simpa using h1,?_,?_,?_⟩)
 . simp at h2;omega
 . simp at h3;omega
 . simp at h4;omega
theorem X8 (i n:Int):D6 (F7 i n) λv=>1≤n/\n≤4->0≤v/\v<n:=by
 unfold F7 F7.J1
 refine tD (λ_=>tR (by omega)) λh=>tC (by omega) (tD (λh1=>tR λh2=> ?_) λh1=>tR λh2=> ?_)
 . have:=Int.lt_tmod_of_pos i (show 0<n by omega)
   rw[DR (by omega) (by omega)];omega
 . have:=Int.tmod_lt_of_pos i (show 0<n by omega)
   omega
def kindL:List Int:=[3,3,4,4,5,6,7,8,9,10,11,12,13,14,15,16,18,19,20,21,22,23,2]
def KO (o k:Int):Prop:=((k=3->o=6∨o=7)/\(k=4->o=8∨o=9)/\(k=5->o=10)/\(k=22->o=26)/\(k=23->o=27)/\(k=2↔o=28)/\(k=16->o=21)/\k≠1/\k≠17)/\(o=7->k=3)/\(o=9->k=4)/\(o=10->k=5)/\(o=8->k=4)/\(o=26->k=22)
instance (o k:Int):Decidable (KO o k):=by unfold KO;infer_instance
theorem bR:∀n:Fin 23,KO ((n.1:Int)+6) kindL[n.1]:=by decide
theorem xY {o:Int} (h:1≤o/\o≤28):D6 (HQ o) λk=>k=0∨KO o k:=by
 unfold HQ HQ.J1
 refine tD (λ_=>tI (λ_=>tR (.inl rfl)) λh=>by cases h) λh6=>tD (λh=>by omega) λ_=> ?_
 rw[DR (by omega) (by omega)]
 obtain⟨n,hn⟩:∃n:Nat,o-6=n:=⟨(o-6).toNat,by omega⟩
 rw[hn]
 have hl:n<23:=by omega
 refine jM (l:=kindL) hl (tR (.inr ?_))
 have:=bR ⟨n,hl⟩
 simp only at this
 rw[show(n:Int)+6=o from by omega]at this
 exact this
theorem iD {i:Ab} {t:AL} (h7:i.Op=7∨i.Op=9->0≤i.C/\i.C<t.Br.length):
 D6 (En i t) λo=>(i.Op=7->∃v,o=Ap (i.B+v)/\(1≤i.N/\i.N≤4->0≤v/\v<i.N))/\(i.Op=9->∃v,o=Ap (i.A+v)/\(1≤i.N/\i.N≤4->0≤v/\v<i.N)):=by
 have T:∀{o:ABp Int},TT o->i.Op≠7->i.Op≠9->D6 o λo=>(i.Op=7->∃v,o=Ap (i.B+v)/\(1≤i.N/\i.N≤4->0≤v/\v<i.N))/\(i.Op=9->∃v,o=Ap (i.A+v)/\(1≤i.N/\i.N≤4->0≤v/\v<i.N)):=λh a b=>tM h λ_ _=>⟨λh=>absurd h a,λh=>absurd h b⟩
 have j1:∀b,(b=true->i.Op≠7/\i.Op≠9)->D6 (En.J1 i t b) λo=>(i.Op=7->∃v,o=Ap (i.B+v)/\(1≤i.N/\i.N≤4->0≤v/\v<i.N))/\(i.Op=9->∃v,o=Ap (i.A+v)/\(1≤i.N/\i.N≤4->0≤v/\v<i.N)):=by
  intro b hb;unfold En.J1 En.J2
  refine tI (λh=>T (tR trivial) (hb h).1 (hb h).2) λ_=>tI (λh=>tG (h7 (.inl (eq_of_beq h))) λ_ _=>tB (X8 _ _) λv hv=>tR ⟨λ_=>⟨v,rfl,hv⟩,λh9=> ?_⟩) λn7=>tI (λh=>tG (h7 (.inr (eq_of_beq h))) λ_ _=>tB (X8 _ _) λv hv=>tR ⟨λh9=> ?_,λ_=>⟨v,rfl,hv⟩⟩) λn9=>T ?_ (by simpa using n7) (by simpa using n9)
  . rw[eq_of_beq h]at h9;cases h9
  . rw[eq_of_beq h]at h9;cases h9
  . repeat' first|exact tR trivial|refine tI (λ_=> ?_) λ_=> ?_
 unfold En
 refine tI (λh=>j1 _ λ_=> ?_) λ_=>j1 _ λh=> ?_<;>rw[eq_of_beq h]<;>decide
def mD (e:AH):Prop:=e.D9.length≤100000/\e.Db.length≤100000
structure PI (w:AD) (x:AL) (y:An) (z:Ab) (q:AE) (e:AH):Prop where
 a:e.Kind=3∨e.Kind=23∨e.Kind=5->0≤z.A/\z.A<y.Br
 b:e.Kind=4∨e.Kind=22->0≤z.B/\z.B<y.Br
 d:e.D9=[]∨e.D9∈x.Bn/\(e.Kind=5∨(e.Kind=3∨e.Kind=4)/\(ix w.Cells e.Obj).B0≠0)
 r:e.Db=[]∨e.Db∈x.Bn/\(e.Kind=4∨e.Kind=22)
 s:e.Kind=1/\e.Site= -1∨(q.Status=4/\e.Kind=17∨q.Status=2/\(e.Kind=2↔z.Op=28)/\e.Kind≠1/\e.Kind≠17/\(e.Kind=16->z.Op=21))/\e.Site=z.Site
 j:e.Kind=5->z.Op=10
structure PE (c:BF) (s:Ad) (th:Int) (e:AH):Prop where
 f:FT c s
 t:0≤th/\th<c.AA.length
 l:mD e
 h:e.Thread=th
 i:∀x y z q,s.AA[th.toNat]? =some x->c.AA[th.toNat]? =some y->y.A1[x.PC.toNat]? =some z->s.Sync.AA[th.toNat]? =some q->PI c.World x y z q e
theorem kN {α:Type} [Inhabited α] {l:List α} {i:Int} {x:α} (h:gt l i=some x):ix l i=x:=by
 unfold gt at h
 split at h
 . unfold ix;rw[h];rfl
 . cases h
theorem To {E:Nat} {c:BF} (hc:CK c) {s:Ad} (hs:∀t∈s.AA,TH E t) (hE:E≤100000) (th:Int):D6 (CD c s th) λr=>r.2=true->PE c s th r.1:=by
 have N:∀{x} {P:AH×Bool->Prop},D6 (some (x,false)) λr:AH×Bool=>r.2=true->P r:=tR λh=>by cases h
 have j1:∀b,(b=false->FT c s/\0≤th/\th<c.AA.length)->D6 (CD.J1 c s th b) λr=>r.2=true->PE c s th r.1:=by
  intro b hb;unfold CD.J1
  refine tI (λ_=>N) λh0=> ?_
  obtain⟨hf,ht⟩:=hb h0
  obtain⟨_,_,l3⟩:=FA hf.f
  have hn:=hf.n;have hn2:=hf.v.n
  obtain⟨x,x1,x2,x3⟩:=Fm (l:=s.AA) (i:=th) (by omega)
  obtain⟨y,y1,y2,y3⟩:=Fm (l:=c.AA) (i:=th) (by omega)
  obtain⟨p1,p2,p3⟩:=hf.t _ x y x2 y2
  obtain⟨z,z1,z2,z3⟩:=Fm (l:=y.A1) (i:=x.PC) (by omega)
  obtain⟨q,q1,q2,q3⟩:=Fm (l:=s.Sync.AA) (i:=th) (by omega)
  have hz:=(hf.v.t _ y y2).i z z3
  have ho:=hz.o;have hg:=hz.g
  have hx:=hs x x3
  have hTl:∀q∈x.Bn,q.length≤100000:=λq hq=>by have:=(hx.b q hq).len hx.e.1;have:=hx.e.2;omega
  refine tE x1 (tE y1 (tE z1 (tE q1 ?_)))
  have fin:∀e:AH,mD e->e.Thread=th->PI c.World x y z q e->PE c s th e:=by
   intro e h1 h2 h3
   refine⟨hf,ht,h1,h2,λx' y' z' q' KY hy' hz' hq'=> ?_⟩
   rw[x2]at KY;rw[y2]at hy';rw[q2]at hq'
   obtain rfl:=AAR KY
   obtain rfl:=AAR hy'
   obtain rfl:=AAR hq'
   rw[z2]at hz'
   obtain rfl:=AAR hz'
   exact h3
  refine tI (λ_=>tR λ_=>fin _ ⟨by simp,by simp⟩ rfl ⟨by simp,by simp,.inl rfl,.inl rfl,.inl ⟨rfl,rfl⟩,by simp⟩) λ_=>tI (λh=>tR λ_=>fin _ ⟨by simp,by simp⟩ rfl ⟨by simp,by simp,.inl rfl,.inl rfl,.inr ⟨.inl ⟨eq_of_beq h,rfl⟩,rfl⟩,by simp⟩) λ_=>tI (λBs=> ?_) λ_=>N
  have Bs:=eq_of_beq Bs
  refine tB (xY ho) λk hk=> ?_
  have hC:z.Op=7∨z.Op=9->0≤z.C/\z.C<y.Br:=by
   rintro(h|h)
   . simp[rg7 h]at hg;omega
   . simp[rg9 h]at hg;omega
  have hB:z.Op=8∨z.Op=9∨z.Op=26->0≤z.B/\z.B<y.Br:=by
   rintro(h|h|h)
   . simp[rg8 h]at hg;omega
   . simp[rg9 h]at hg;omega
   . simp[rg26 h]at hg;omega
  have hA:z.Op=6∨z.Op=7∨z.Op=10∨z.Op=27->0≤z.A/\z.A<y.Br:=by
   rintro(h|h|h|h)
   . simp[rg6 h]at hg;omega
   . simp[rg7 h]at hg;omega
   . simp[rg10 h]at hg;omega
   . simp[rg27 h]at hg;omega
  refine tB (iD λh=>by have:=hC h;omega) λo hobj=>tI (λ_=>N) λaZ=> ?_
  have hk:=hk.resolve_left (by simpa using aZ)
  obtain⟨⟨a1,a2,a3,a4,a5,a6,a7,a8,a9⟩,b1,b2,b3,b4,b5⟩:=hk
  have hel:z.Op=7∨z.Op=9->(k=3∨k=4)/\(ix c.World.Cells o).B0≠0:=by
   have key:∀b v,QT c.World b z.N->o=Ap (b+v)->(1≤z.N/\z.N≤4->0≤v/\v<z.N)->(ix c.World.Cells o).B0≠0:=by
    intro b v h1 h2 h3
    obtain⟨n1,n2⟩:=mP hf.v.w h1
    obtain⟨d,d1,d2⟩:=n2 v (h3 n1).1 (h3 n1).2
    have hd:=d1
    unfold gt at hd
    split at hd
    . have:=(AAQ.1 hd).1
      have:=(EC hf.v.w).c
      rw[h2,DR (by omega) (by omega),kN d1];exact d2
    . cases hd
   rintro(h|h)
   . obtain⟨v,v1,v2⟩:=hobj.1 h
     exact⟨.inl (b1 h),key _ v (hz.a.1 h) v1 v2⟩
   . obtain⟨v,v1,v2⟩:=hobj.2 h
     exact⟨.inr (b2 h),key _ v (hz.a.2 h) v1 v2⟩
  have mk:∀D F,(D=[]∨D∈x.Bn/\(k=5∨(k=3∨k=4)/\(ix c.World.Cells o).B0≠0))->(F=[]∨F∈x.Bn/\(k=4∨k=22))->D.length≤100000->F.length≤100000->PE c s th ⟨th,k,o,0,z.Site,D,F⟩:=
   λD F h1 h2 h3 h4=>fin _ ⟨h3,h4⟩ rfl ⟨λh=>hA (by simp only at h;omega),λh=>hB (by simp only at h;omega),h1,h2,.inr ⟨.inr ⟨Bs,a6,a8,a9,a7⟩,rfl⟩,a3⟩
  have j3:∀D,(D=[]∨D∈x.Bn/\(k=5∨(k=3∨k=4)/\(ix c.World.Cells o).B0≠0))->D.length≤100000->D6 (CD.J3 x z ⟨th,k,o,0,z.Site,D,[]⟩) λr=>r.2=true->PE c s th r.1:=by
   intro D h1 h2
   have j4:∀b,(b=true->z.Op=8∨z.Op=9∨z.Op=26)->D6 (CD.J4 ⟨th,k,o,0,z.Site,D,[]⟩ x z b) λr=>r.2=true->PE c s th r.1:=by
    intro b hb;unfold CD.J4 CD.J5
    refine tI (λh=>tG (by have:=hB (hb h);omega) λq hq=> ?_) λ_=>tR λ_=>mk _ _ h1 (.inl rfl) h2 (by simp)
    have hl:=hTl q hq
    refine tC (DK (by simp;omega)) (tR λ_=>mk _ _ h1 (.inr ⟨by simpa using hq,?_⟩) h2 (by simpa using hl))
    have:=hb h;omega
   unfold CD.J3
   exact tI (λh=>j4 _ λ_=>.inl (eq_of_beq h)) λ_=>tI (λh=>j4 _ λ_=>.inr (.inl (eq_of_beq h))) λ_=>j4 _ λh=>.inr (.inr (eq_of_beq h))
  have j2:∀b,(b=true->z.Op=7∨z.Op=9)->D6 (CD.J2 th k o x z b) λr=>r.2=true->PE c s th r.1:=by
   intro b h;unfold CD.J2
   refine tI (λhb=>tG (by have:=hC (h hb);omega) λq hq=> ?_) λ_=>j3 _ (.inl rfl) (by simp)
   have hl:=hTl q hq
   exact tC (DK (by omega)) (j3 _ (.inr ⟨hq,.inr (hel (h hb))⟩) hl)
  refine tI (λh=>tG (by have:=hA (.inr (.inr (.inl (eq_of_beq h))));omega) λq hq=> ?_) λ_=>tI (λh=>j2 _ λ_=>.inl (eq_of_beq h)) λ_=>j2 _ λh=>.inr (eq_of_beq h)
  have hl:=hTl q hq
  exact tC (DK (by omega)) (j3 _ (.inr ⟨hq,.inl (b3 (eq_of_beq h))⟩) hl)
 unfold CD
 refine tB (vJ hc s) λv hv=>tI (λ_=>j1 _ λh=>by cases h) λh=>tD (λ_=>j1 _ λh=>by cases h) λh1=>j1 _ λh2=>⟨hv (by simpa using h),by omega,?_⟩
 have:=of_decide_eq_false h2
 omega
end Go.Abs
