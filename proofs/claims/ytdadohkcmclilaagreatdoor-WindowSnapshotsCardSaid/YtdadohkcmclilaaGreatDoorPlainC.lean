/- What the typed programs give, in plain Lean. -/
import Derived.Test.YtdadohkcmclilaaGreatDoorWalkS
import Derived.Test.YtdadohkcmclilaaGreatDoorPlainB
import Derived.Shelf.Slices.SearchI
set_option linter.unusedSimpArgs false
set_option linter.unusedVariables false
namespace Go.Abs
set_option maxHeartbeats 4000000
def bV:List Ic:=[⟨⟨#[109]⟩,false⟩,⟨⟨#[110]⟩,false⟩,⟨⟨#[114]⟩,true⟩]
def W9:AD:=⟨QU,[],[],[],[],[]⟩
structure WF (T:ABq->Prop) (w:AD):Prop where
 c:w.Cells=QU
 l:w.AG=bV
 d:w.Af=[⟨cN,0⟩]
 f:w.AK=[⟨#[102]⟩]
 t:∀s,T s->s∈w.AA
 n:w.AA.length≤4
structure GW (T:ABq->Prop) (g:A5):Prop where
 w:WF T g.w
 l:g.locals=sB
theorem XP {w:AD} (h:w.Cells=QU) (s:ABq):CJ w s=CJ W9 s:=by
 unfold CJ
 have key:∀n i,CJ.Aa s w n i=CJ.Aa s W9 n i:=by
  intro n
  induction n with
  |zero=>exactλ_=>rfl
  |succ n ih=>
   intro i
   unfold CJ.Aa CJ.L1
   rw[h,show W9.Cells=QU from rfl]
   simp only[ih]
 exact key _ _
theorem gt_in {α:Type} {l:List α} {i:Int} {x:α} (h:gt l i=some x):0≤i/\i<l.length:=by
 unfold gt at h
 split at h
 . have:=(AAQ.1 h).1;omega
 . cases h
theorem PX {i n:Int} (h:0≤i/\i<n):DS i n=some true:=by
 unfold DS DS.J1
 simp[h.1,h.2]
theorem obj0 {w:AD} {x:Ab} (h:x.Op∈[(1:Int),2,5,10,17,18,19,20]):AY w x=some true:=by
 simp only[AAp,ABn,ABd]at h
 rcases h with h|h|h|h|h|h|h|h<;>simp[AY,AY.J3,AY.J5,AY.J7,AY.J8,h]
theorem obj4 {w:AD} {x:Ab} (h:x.Op=4) (hn:6≤x.N/\x.N≤18):AY w x=some true:=by
 simp[AY,AY.J3,AY.J5,AY.J7,AY.J8,AY.Th,h,hn.1,hn.2]
theorem obj6 {w:AD} {x:Ab} {y:DB} (h:x.Op=6) (hy:gt w.Cells x.B=some y) (hs:y.B0=0):AY w x=some true:=by
 simp[AY,AY.J1,h,PX (gt_in hy),hy,hs]
theorem obj8 {w:AD} {x:Ab} {y:DB} (h:x.Op=8) (hy:gt w.Cells x.A=some y) (hs:y.B0=0):AY w x=some true:=by
 simp[AY,AY.J2,h,PX (gt_in hy),hy,hs]
theorem arr_true {w:AD} {b n:Int} {y:DB} (hy:gt w.Cells b=some y) (hi:y.Index=0) (hs:y.B0≠0) (hn:y.B0=n):E3 w b n=some true:=by
 subst hn
 simp[E3,E3.J1,PX (gt_in hy),hy,hi,hs]
theorem obj7 {w:AD} {x:Ab} {y:DB} (h:x.Op=7) (hy:gt w.Cells x.B=some y) (hi:y.Index=0) (hs:y.B0≠0) (hn:y.B0=x.N):AY w x=some true:=by
 simp[AY,h,arr_true hy hi hs hn]
theorem obj9 {w:AD} {x:Ab} {y:DB} (h:x.Op=9) (hy:gt w.Cells x.A=some y) (hi:y.Index=0) (hs:y.B0≠0) (hn:y.B0=x.N):AY w x=some true:=by
 simp[AY,h,arr_true hy hi hs hn]
theorem objM {w:AD} {x:Ab} {y:Ic} (h:x.Op=11∨x.Op=12) (hy:gt w.AG x.A=some y) (hs:y.RW=false):AY w x=some true:=by
 rcases h with h|h<;>simp[AY,AY.J3,AY.J4,h,PX (gt_in hy),hy,hs]
theorem objR {w:AD} {x:Ab} {y:Ic} (h:x.Op=13∨x.Op=14∨x.Op=15∨x.Op=16) (hy:gt w.AG x.A=some y) (hs:y.RW=true):AY w x=some true:=by
 rcases h with h|h|h|h<;>simp[AY,AY.J3,AY.J5,AY.J6,h,PX (gt_in hy),hy,hs]
theorem objC {w:AD} {x:Ab} (h:x.Op=21∨x.Op=22∨x.Op=23) (hy:0≤x.A/\x.A<w.Af.length):AY w x=some true:=by
 rcases h with h|h|h<;>simp[AY,AY.J3,AY.J5,AY.J7,h,PX hy]
theorem objT {w:AD} {x:Ab} (h:x.Op=24∨x.Op=25) (hy:0≤x.A/\x.A<w.AA.length):AY w x=some true:=by
 rcases h with h|h<;>simp[AY,AY.J3,AY.J5,AY.J7,AY.J8,h,PX hy]
theorem obj26 {w:AD} {x:Ab} (h:x.Op=26) (hy:0≤x.A/\x.A<w.AK.length):AY w x=some true:=by
 simp[AY,AY.J3,AY.J5,AY.J7,AY.J8,h,PX hy]
theorem obj27 {w:AD} {x:Ab} (h:x.Op=27) (hy:0≤x.B/\x.B<w.AK.length):AY w x=some true:=by
 simp[AY,AY.J3,AY.J5,AY.J7,AY.J8,h,PX hy]
theorem rg0 {i:Ab} (h:i.Op=5∨11≤i.Op/\i.Op≤25∨i.Op=28):rg i=[]:=by
 have n:∀k:Int,i.Op≠k->(i.Op==k)=false:=λk h=>beq_eq_false_iff_ne.2 h
 unfold rg AU AU.J1 AU.J2 AU.J3
 simp[n 1 (by omega),n 2 (by omega),n 3 (by omega),n 4 (by omega),n 6 (by omega),n 7 (by omega),n 8 (by omega),n 9 (by omega),n 10 (by omega),n 26 (by omega),n 27 (by omega)]
def NameF (x:ABq):Prop:=(∃e,Ca sB x=some e/\0≤e/\e<2)∨(∃e,Ca sB x=some e/\e<0)/\∃c y,CJ W9 x=some c/\gt QU c=some y/\y.B0=0
theorem name_f {x:ABq} (h:x∈vN):NameF x:=by
 unfold vN at h
 simp only[AAp,ABn,ABd]at h
 rcases h with rfl|rfl|rfl|rfl|rfl
 . exact .inl ⟨0,by decide +kernel,by omega,by omega⟩
 . exact .inl ⟨1,by decide +kernel,by omega,by omega⟩
 . exact .inr ⟨⟨-1,by decide +kernel,by omega⟩,0,_,by decide +kernel,rfl,rfl⟩
 . exact .inr ⟨⟨-1,by decide +kernel,by omega⟩,1,_,by decide +kernel,rfl,rfl⟩
 . exact .inr ⟨⟨-1,by decide +kernel,by omega⟩,2,_,by decide +kernel,rfl,rfl⟩
theorem q_at:CJ W9 qS=some 3:=by decide +kernel
structure GV (g r:A5) (lo hi:Int):Prop where
 w:r.w=g.w
 l:r.locals=g.locals
 n:g.out.length≤r.out.length
 p:∀i,i<g.out.length->r.out[i]? =g.out[i]?
 s:SG g.w lo hi r.out g.out.length r.out.length r.out.length
section
variable {T:ABq->Prop} {g h r:A5} {lo hi lo' hi':Int}
theorem GV.refl:GV g g lo hi:=⟨rfl,rfl,AAy _,λ_ _=>rfl,SG.nil (AAy _)⟩
theorem GV.trans (a:GV g h lo hi) (b:GV h r lo hi):GV g r lo hi:=by
 have an:=a.n;have bn:=b.n
 refine⟨b.w.trans a.w,b.l.trans a.l,by omega,λi hi=>(b.p i (by omega)).trans (a.p i hi),(a.s.frame (l':=r.out) (d:=r.out.length) (λi _ hi=>(b.p i hi).symm) (by omega) (by omega) (by omega) (by omega)).app ?_⟩
 have:=b.s
 rw[a.w]at this
 exact this
theorem GV.mono (a:GV g r lo hi) (h1:lo'≤lo) (h2:hi≤hi'):GV g r lo' hi':=⟨a.w,a.l,a.n,a.p,a.s.mono h1 h2 (AAy _)⟩
theorem GV.site (a:GV g r lo hi) (s n:Int):GV g ⟨r.w,r.locals,r.out,s,n⟩ lo hi:=⟨a.w,a.l,a.n,a.p,a.s⟩
theorem GW.next (a:GW T g) (b:GV g r lo hi):GW T r:=⟨by rw[b.w];exact a.w,b.l.trans a.l⟩
theorem GW.site (a:GW T g) (s n:Int):GW T ⟨g.w,g.locals,g.out,s,n⟩:=⟨a.w,a.l⟩
theorem put_eq (i:Ab):Kl (A8 g i) λr=>r=⟨g.w,g.locals,g.out++[⟨i.Op,i.A,i.B,i.C,i.N,g.site⟩],g.site,g.next⟩:=by
 unfold A8
 exact pC λ_=>pR rfl
theorem GV.put {x:Ab} {s n:Int} (hv:LV g.w lo hi (g.out.length+1) x) (h5:x.Op≠5):GV g ⟨g.w,g.locals,g.out++[x],s,n⟩ lo hi:=by
 refine⟨rfl,rfl,by simp,λi hi=>by simp only;rw[AAr hi],?_⟩
 simp only[AA1,AA7,ABR]
 exact SG.one (by simp) hv h5
abbrev GK (g r:A5) (lo hi:Int):Prop:=GV g r lo hi/\r.site=g.site/\r.next=g.next
theorem put_par {i:Ab} (hv:LV g.w lo hi (g.out.length+1) ⟨i.Op,i.A,i.B,i.C,i.N,g.site⟩) (h5:i.Op≠5):Kl (A8 g i) λr=>GK g r lo hi:=
 pM (put_eq i) λ_ e=>by subst e;exact⟨GV.put hv h5,rfl,rfl⟩
theorem Oo {i:Ab} (hv:LV g.w lo hi (g.out.length+1) ⟨i.Op,i.A,i.B,i.C,i.N,g.site⟩) (h5:i.Op≠5):Kl ((A8 g i).bind λv=>some v) λr=>GK g r lo hi:=pB (put_par hv h5) λ_ h=>pR h
theorem GK.trans (a:GK g h lo hi) (b:GK h r lo hi):GK g r lo hi:=⟨a.1.trans b.1,b.2.1.trans a.2.1,b.2.2.trans a.2.2⟩
theorem dH {x r:Int} (h:0≤r/\r<32):∀y∈[r],0≤y/\y<32:=λy hy=>by rw[AA4.1 hy];exact h
theorem sM {r s:Int} (h:0≤r/\r<32) (k:0≤s/\s<32):∀y∈[r,s],0≤y/\y<32:=λy hy=>by
 simp only[AAp,ABn,ABd]at hy
 rcases hy with rfl|rfl
 . exact h
 . exact k
theorem value_par (d:Nat):∀(n:Nat) (g:A5) (e:A4) (r:Int),Zw d e->GW T g->(lo≤g.site/\g.site<hi)->0≤r/\r+d≤32->Kl (DP n g e r) λv=>GK g v lo hi:=by
 induction d with
 |zero=>exactλn g e r h=>h.elim
 |succ d ih=>
  intro n g e r he hg hs hr
  cases n with
  |zero=>exact pN
  |succ n=>
  have hr2:0≤r/\r<32:=by omega
  show Kl (HW (DP n) g e r) _
  unfold HW
  rcases he with⟨e1,_⟩|⟨e1,_,hn⟩|⟨e1,e2,a,e3,e4⟩|⟨e1,a,b,e3,e4,e5⟩
  . simp only[e1]
    exact pI (λ_=>Oo ⟨by simp,obj0 (by simp),by rw[rg1 rfl];exact dH (x:=0) hr2,hs,by simp,by simp⟩ (by simp)) λh=>by cases h
  . simp only[e1]
    refine pI (λh=>by cases h) λ_=>pI (λ_=> ?_) λh=>by cases h
    rw[hg.l]
    rcases name_f hn with⟨k,k1,k2,k3⟩|⟨⟨k,k1,k2⟩,c,y,c1,c2,c3⟩
    . exact pE k1 (pD (λ_=>Oo ⟨by simp,obj0 (by simp),by rw[rg2 rfl];exact sM hr2 (by simp only;omega),hs,by simp,by simp⟩ (by simp)) λh=>by omega)
    . refine pE k1 (pD (λh=>by omega) λ_=>pE ((XP hg.w.c _).trans c1) (Oo ⟨by simp,obj6 rfl (y:=y) (by rw[hg.w.c];exact c2) c3,by rw[rg6 rfl];exact dH (x:=0) hr2,hs,by simp,by simp⟩ (by simp)))
  . simp only[e1,e3]
    refine pI (λh=>by cases h) λ_=>pI (λh=>by cases h) λ_=>pI (λ_=>pE (y:=a) rfl ?_) λh=>by cases h
    refine pB (ih n g a r e4 hg hs (by omega)) λv hv=> ?_
    have hg2:=hg.next hv.1
    rw[e2]
    refine pE ((XP hg2.w.c _).trans q_at) (pE (y:=⟨⟨#[113]⟩,0,2,false,0⟩) (by rw[hg2.w.c];rfl) ?_)
    exact pM (Oo ⟨by simp,obj7 rfl (y:=⟨⟨#[113]⟩,0,2,false,0⟩) (by rw[hg2.w.c];rfl) rfl (by simp) rfl,by rw[rg7 rfl];exact sM hr2 hr2,by simp only;rw[hv.2.1];exact hs,by simp,by simp⟩ (by simp)) λ_ h=>hv.trans h
  . have n1:e.Op≠1:=λh=>by rw[h]at e1;simp at e1
    have n2:e.Op≠2:=λh=>by rw[h]at e1;simp at e1
    have n3:e.Op≠3:=λh=>by rw[h]at e1;simp at e1
    have n6:6≤e.Op/\e.Op≤18:=by
     simp only[AAp,ABn,ABd]at e1
     omega
    rw[AAX (by simpa using n1),AAX (by simpa using n2),AAX (by simpa using n3),e3]
    have hw:Ap (r+1)=r+1:=DR (by omega) (by omega)
    refine pI (λh=>by cases h) λ_=>pE (y:=a) rfl (pB (ih n g a r e4 hg hs (by omega)) λv hv=>pE (y:=b) rfl (pB (ih n v b _ e5 (hg.next hv.1) (by rw[hv.2.1];exact hs) (by rw[hw];omega)) λu hu=> ?_))
    rw[hw]
    have hu2:=hv.trans hu
    by_cases hd:d=0
    . subst hd;exact e4.elim
    exact pM (Oo ⟨by simp,obj4 rfl n6,by rw[rg4 rfl];intro y hy;simp only[AAp,ABn,ABd]at hy;omega,by simp only;rw[hu2.2.1];exact hs,by simp,by simp⟩ (by simp)) λ_ h=>hu2.trans h
theorem l5 {e:A4} (he:Zw 2 e) (hg:GW T g) (hs:lo≤g.site/\g.site<hi) {r:Int} (hr:0≤r/\r≤30):Kl (DP BT g e r) λv=>GK g v lo hi:=value_par 2 _ g e r he hg hs (by omega)
theorem assign_par (hg:GW T g) (hs:lo≤g.site/\g.site<hi) {k:Nat} {s:AP} (ho:K8 T (k+1) s) (h1:s.Op=1):Kl (G3 g s) λr=>GK g r lo hi:=by
 have he:Zw 2 s.Expr:=ho.2.2.1.resolve_right λh=>h.1 (by simp[h1])
 have hl:(g.locals.length:Int)=2:=by rw[hg.l];rfl
 unfold G3
 rw[hl]
 rcases ho.2.1 with h|⟨_,hq,a,h,ha⟩
 . rw[h]
   refine pI (λh=>by cases h) λ_=>pB (l5 he hg hs (by omega)) λv hv=> ?_
   have h2:=hg.next hv.1
   have sG:lo≤v.site/\v.site<hi:=by rw[hv.2.1];exact hs
   rw[h2.l]
   rcases name_f (ho.2.2.2.2.2.2.2.2.2.1 h1 h)with⟨c,k1,k2,k3⟩|⟨⟨c,k1,k2⟩,c,y,c1,c2,c3⟩
   . exact pE k1 (pD (λ_=>pM (Oo ⟨by simp,obj0 (by simp),by rw[rg2 rfl];exact sM (by simp only;omega) (by simp),sG,by simp,by simp⟩ (by simp)) λ_ h=>hv.trans h) λh=>by omega)
   . refine pE k1 (pD (λh=>by omega) λ_=>pE ((XP h2.w.c _).trans c1) (pM (Oo ⟨by simp,obj8 rfl (y:=y) (by rw[h2.w.c];exact c2) c3,by rw[rg8 rfl];exact dH (x:=0) (by simp),sG,by simp,by simp⟩ (by simp)) λ_ h=>hv.trans h))
 . rw[h]
   refine pI (λ_=>pE (y:=a) rfl ?_) λh=>by cases h
   rw[show Ap (2+1)=3 from rfl]
   refine pB (l5 ha hg hs (by omega)) λv hv=>pB (l5 he (hg.next hv.1) (by rw[hv.2.1];exact hs) (by omega)) λu hu=> ?_
   have hu2:=hv.trans hu
   have h2:=hg.next hu2.1
   have sG:lo≤u.site/\u.site<hi:=by rw[hu2.2.1];exact hs
   rw[hq]
   refine pE ((XP h2.w.c _).trans q_at) (pE (y:=⟨⟨#[113]⟩,0,2,false,0⟩) (by rw[h2.w.c];rfl) ?_)
   exact pM (Oo ⟨by simp,obj9 rfl (y:=⟨⟨#[113]⟩,0,2,false,0⟩) (by rw[h2.w.c];rfl) rfl (by simp) rfl,by rw[rg9 rfl];exact sM (by simp) (by simp),sG,by simp,by simp⟩ (by simp)) λ_ h=>hu2.trans h
end
theorem uV {l:List DB} (hl:l.length≤12) {L:List ABq->Int->ABp (List ABq×Bool)} {i:Nat} {names:List ABq} {x:DB} {v:List ABq×Bool} (h1:1≤x.B0/\x.B0≤4) (hi:(i:Int)+x.B0≤l.length) (hv:v.2=true):
 ∀(n t:Nat) (want:DB),want.B0=x.B0->(t:Int)≤x.B0->AR.C2 L i l names x n want t=some v->
 (∀k:Nat,t≤k->(k:Int)<x.B0->∃c,l[i+k]? =some c/\c.Index=k/\c.B0=x.B0)/\L (names++[x.Name]) (i+x.B0)=some v:=by
 intro n
 induction n with
 |zero=>intro t want _ _ h;cases h
 |succ n ih=>
  intro t want hw ht h
  unfold AR.C2 AR.L2 at h
  by_cases D5:(t:Int)<x.B0
  . rw[BC D5,DR (n:=(i:Int)+t) (by omega) (by omega),show(i:Int)+t=((i+t:Nat):Int)from by omega,CU (by omega),AAO]at h
    split at h
    . cases h;cases hv
    . rename_i hc
      rw[Ao (by omega)]at h
      obtain⟨a,b⟩:=ih (t+1) ⟨want.Name,t,want.B0,want.Fv,want.Init⟩ hw (by omega) h
      refine⟨λk hk V1=> ?_,b⟩
      by_cases e:k=t
      . subst e
        refine⟨l[i+k],AAT (by omega),?_⟩
        simp only[ABU,Bool.not_eq_false,AAP,AAd]at hc
        exact⟨hc.2.1,hc.2.2.1.trans hw⟩
      . exact a k (by omega) V1
  . rw[Ac D5]at h
    unfold AR.J2 at h
    rw[hw,DR (by omega) (by omega)]at h
    exact⟨λk hk V1=>by omega,h⟩
theorem nK {l:List DB} (hl:l.length≤12) {v:List ABq×Bool} (hv:v.2=true):∀(n i:Nat) (names:List ABq),names.length≤i->i≤l.length->AR.Aa l n names i=some v->
 ∀(b:Nat) (c:DB),i≤b->l[b]? =some c->c.Index=0->c.B0≠0->(1≤c.B0/\c.B0≤4)/\∀k:Nat,(k:Int)<c.B0->∃d,l[b+k]? =some d/\d.B0≠0:=by
 intro n
 induction n with
 |zero=>intro i names _ _ h;cases h
 |succ n ih=>
  intro i names hn hil h b c hb hc h0 hs
  have hbl:=(AAQ.1 hc).1
  unfold AR.Aa AR.L1 at h
  have hi:i<l.length:=by omega
  rw[BC (by omega),CU hi,AAO,BL (by omega)]at h
  have hx:l[i]? =some l[i]:=AAT hi
  generalize l[i]=x at h hx
  by_cases e:x.B0=0
  . rw[AAY (by simpa using e)]at h
    split at h
    . cases h;cases hv
    . rw[Ao (by omega)]at h
      by_cases eb:b=i
      . subst eb;rw[hx]at hc;cases hc;exact absurd e hs
      . exact ih (i+1) _ (by simp;omega) (by omega) h b c (by omega) hc h0 hs
  . rw[AAX (by simpa using e)]at h
    have J:∀t,AR.J1 (AR.Aa l n) i l names x t=some v->t=false/\AR.C2 (AR.Aa l n) i l names x BT x 0=some v:=by
     intro t ht
     unfold AR.J1 at ht
     cases t with
     |true=>cases ht;cases hv
     |false=>exact⟨rfl,ht⟩
    have key:(1≤x.B0/\x.B0≤4)/\(i:Int)+x.B0≤l.length/\AR.C2 (AR.Aa l n) i l names x BT x 0=some v:=by
     rw[DR (n:=(l.length:Int)-i) (by omega) (by omega)]at h
     split at h
     . exact absurd (J _ h).1 (by simp)
     . rename_i a1
       split at h
       . exact absurd (J _ h).1 (by simp)
       . rename_i a2
         split at h
         . exact absurd (J _ h).1 (by simp)
         . obtain⟨q1,q2⟩:=J _ h
           simp at a1 a2 q1
           exact⟨by omega,by omega,q2⟩
    obtain⟨k1,k2,k3⟩:=key
    obtain⟨a,r⟩:=uV hl k1 k2 hv BT 0 x rfl (by omega) k3
    by_cases eb:(b:Int)<i+x.B0
    . obtain⟨d,d1,d2,d3⟩:=a (b-i) (by omega) (by omega)
      rw[show i+(b-i)=b from by omega,hc]at d1
      cases d1
      have:b=i:=by omega
      subst this
      rw[hx]at hc;cases hc
      refine⟨k1,λk hk=> ?_⟩
      obtain⟨d,d1,d2,d3⟩:=a k (by omega) hk
      exact⟨d,d1,by rw[d3];exact hs⟩
    . rw[show(i:Int)+x.B0=((i+x.B0.toNat:Nat):Int)from by omega]at r
      exact ih (i+x.B0.toNat) _ (by simp;omega) (by omega) r b c (by omega) hc h0 hs
theorem mP {w:AD} (hw:Ck w=true) {b n:Int} (h:QT w b n):(1≤n/\n≤4)/\∀k,0≤k->k<n->∃d,gt w.Cells (b+k)=some d/\d.B0≠0:=by
 have hl:=(EC hw).c
 obtain⟨x,hx,h0,hs,hn⟩:=h
 have hb:0≤b:=by
  unfold gt at hx
  split at hx
  . assumption
  . cases hx
 obtain⟨m,rfl⟩:∃m:Nat,b=m:=⟨b.toNat,by omega⟩
 rw[LG]at hx
 have hc:∃v,AR w.Cells=some v/\v.2=true:=by
  unfold Ck at hw
  cases hv:AR w.Cells with
  |none=>simp[hv]at hw
  |some v=>simp[hv]at hw;exact⟨v,rfl,hw.2.1.1.1⟩
 obtain⟨v,v1,v2⟩:=hc
 obtain⟨a1,a2⟩:=nK hl v2 BT 0 [] (by simp) (by omega) v1 m x (by omega) hx h0 hs
 rw[hn]at a1 a2
 refine⟨a1,λk k1 k2=> ?_⟩
 obtain⟨j,rfl⟩:∃j:Nat,k=j:=⟨k.toNat,by omega⟩
 rw[show(m:Int)+j=((m+j:Nat):Int)from by omega,LG]
 exact a2 j k2
structure FT (c:BF) (s:Ad):Prop where
 v:VC c
 f:G8 c.World s.Sync=true
 c':s.Cells.length=c.World.Cells.length
 u:s.AK.length=c.World.AK.length
 n:s.AA.length=c.AA.length
 t:∀(i:Nat) x y,s.AA[i]? =some x->c.AA[i]? =some y->(0≤x.PC/\x.PC<y.A1.length)/\(x.Br.length:Int)=y.Br/\(x.Bn.length:Int)=y.Br
theorem vJ {c:BF} (hc:CK c) (s:Ad):D6 (ES c s) λb=>b=true->FT c s:=by
 have N:∀{α:Prop},D6 (some false) λb:Bool=>b=true->α:=tR λh=>by cases h
 have hn:=hc.n
 have j1:∀b,(b=false->VC c/\G8 c.World s.Sync=true/\s.Cells.length=c.World.Cells.length/\s.AK.length=c.World.AK.length/\s.AA.length=c.AA.length)->D6 (ES.J1 c s b) λb=>b=true->FT c s:=by
  intro b hb;unfold ES.J1
  refine tI (λ_=>N) λh0=> ?_
  obtain⟨h1,h2,h3,h4,h5⟩:=hb h0
  refine XN c.AA.length (λi (_:Unit)=>∀(j:Nat) x y,j<i->s.AA[j]? =some x->c.AA[j]? =some y->(0≤x.PC/\x.PC<y.A1.length)/\(x.Br.length:Int)=y.Br/\(x.Bn.length:Int)=y.Br) (s0:=()) (F:=λn _ i=>ES.Aa c s n i) (by omega) (λj _ _ h=>by omega) λn i _ hi hs k=> ?_
  unfold ES.Aa ES.L1 ES.J2 ES.J3
  refine tD (λ_=>jM (by omega) (tD (λ_=>tI (λ_=>N) λh=>by cases h) λp1=>jM (by omega) (tD (λ_=>tI (λ_=>N) λh=>by cases h) λp2=>tI (λ_=>tI (λ_=>N) λh=>by cases h) λp3=>tI (λ_=>N) λp4=>k () (by omega) ?_))) λ_=>tR λ_=>⟨h1,h2,h3,h4,h5,λj x y hx hy=>hs j x y ?_ hx hy⟩
  . intro j x y hj hx hy
    by_cases e:j<i
    . exact hs j x y e hx hy
    . obtain rfl:j=i:=by omega
      rw[AAT (by omega)]at hx hy
      rw[← AAR hx,← AAR hy]
      simp at p3 p4
      exact⟨by omega,p3,p4⟩
  . have:=(AAQ.1 hy).1;omega
 unfold ES
 refine tB (VK hc) λv hv=>tI (λ_=>j1 _ λh=>by cases h) λh=> ?_
 have hv:=hv (by simpa using h)
 refine tE (Nr _ (EC hv.w) _) (tI (λ_=>j1 _ λh=>by cases h) λh1=>tI (λ_=>j1 _ λh=>by cases h) λh2=>tI (λ_=>j1 _ λh=>by cases h) λh3=>j1 _ λh4=>⟨hv,by simpa using h1,?_,?_,?_⟩)
 . simp at h2;omega
 . simp at h3;omega
 . simp at h4;omega
theorem X8 (i n:Int):D6 (F7 i n) λv=>1≤n/\n≤4->0≤v/\v<n:=by
 unfold F7 F7.J1
 refine tD (λ_=>tR (by omega)) λh=>tC (by omega) (tD (λh1=>tR λh2=> ?_) λh1=>tR λh2=> ?_)
 . have:=Int.lt_tmod_of_pos i (show 0<n by omega)
   rw[DR (by omega) (by omega)];omega
 . have:=Int.tmod_lt_of_pos i (show 0<n by omega)
   omega
def kindL:List Int:=[3,3,4,4,5,6,7,8,9,10,11,12,13,14,15,16,18,19,20,21,22,23,2]
def KO (o k:Int):Prop:=((k=3->o=6∨o=7)/\(k=4->o=8∨o=9)/\(k=5->o=10)/\(k=22->o=26)/\(k=23->o=27)/\(k=2↔o=28)/\(k=16->o=21)/\k≠1/\k≠17)/\(o=7->k=3)/\(o=9->k=4)/\(o=10->k=5)/\(o=8->k=4)/\(o=26->k=22)
instance (o k:Int):Decidable (KO o k):=by unfold KO;infer_instance
theorem bR:∀n:Fin 23,KO ((n.1:Int)+6) kindL[n.1]:=by decide
theorem xY {o:Int} (h:1≤o/\o≤28):D6 (HQ o) λk=>k=0∨KO o k:=by
 unfold HQ HQ.J1
 refine tD (λ_=>tI (λ_=>tR (.inl rfl)) λh=>by cases h) λh6=>tD (λh=>by omega) λ_=> ?_
 rw[DR (by omega) (by omega)]
 obtain⟨n,hn⟩:∃n:Nat,o-6=n:=⟨(o-6).toNat,by omega⟩
 rw[hn]
 have hl:n<23:=by omega
 refine jM (l:=kindL) hl (tR (.inr ?_))
 have:=bR ⟨n,hl⟩
 simp only at this
 rw[show(n:Int)+6=o from by omega]at this
 exact this
theorem iD {i:Ab} {t:AL} (h7:i.Op=7∨i.Op=9->0≤i.C/\i.C<t.Br.length):
 D6 (En i t) λo=>(i.Op=7->∃v,o=Ap (i.B+v)/\(1≤i.N/\i.N≤4->0≤v/\v<i.N))/\(i.Op=9->∃v,o=Ap (i.A+v)/\(1≤i.N/\i.N≤4->0≤v/\v<i.N)):=by
 have T:∀{o:ABp Int},TT o->i.Op≠7->i.Op≠9->D6 o λo=>(i.Op=7->∃v,o=Ap (i.B+v)/\(1≤i.N/\i.N≤4->0≤v/\v<i.N))/\(i.Op=9->∃v,o=Ap (i.A+v)/\(1≤i.N/\i.N≤4->0≤v/\v<i.N)):=λh a b=>tM h λ_ _=>⟨λh=>absurd h a,λh=>absurd h b⟩
 have j1:∀b,(b=true->i.Op≠7/\i.Op≠9)->D6 (En.J1 i t b) λo=>(i.Op=7->∃v,o=Ap (i.B+v)/\(1≤i.N/\i.N≤4->0≤v/\v<i.N))/\(i.Op=9->∃v,o=Ap (i.A+v)/\(1≤i.N/\i.N≤4->0≤v/\v<i.N)):=by
  intro b hb;unfold En.J1 En.J2
  refine tI (λh=>T (tR trivial) (hb h).1 (hb h).2) λ_=>tI (λh=>tG (h7 (.inl (eq_of_beq h))) λ_ _=>tB (X8 _ _) λv hv=>tR ⟨λ_=>⟨v,rfl,hv⟩,λh9=> ?_⟩) λn7=>tI (λh=>tG (h7 (.inr (eq_of_beq h))) λ_ _=>tB (X8 _ _) λv hv=>tR ⟨λh9=> ?_,λ_=>⟨v,rfl,hv⟩⟩) λn9=>T ?_ (by simpa using n7) (by simpa using n9)
  . rw[eq_of_beq h]at h9;cases h9
  . rw[eq_of_beq h]at h9;cases h9
  . repeat' first|exact tR trivial|refine tI (λ_=> ?_) λ_=> ?_
 unfold En
 refine tI (λh=>j1 _ λ_=> ?_) λ_=>j1 _ λh=> ?_<;>rw[eq_of_beq h]<;>decide
def mD (e:AH):Prop:=e.D9.length≤100000/\e.Db.length≤100000
structure PI (w:AD) (x:AL) (y:An) (z:Ab) (q:AE) (e:AH):Prop where
 a:e.Kind=3∨e.Kind=23∨e.Kind=5->0≤z.A/\z.A<y.Br
 b:e.Kind=4∨e.Kind=22->0≤z.B/\z.B<y.Br
 d:e.D9=[]∨e.D9∈x.Bn/\(e.Kind=5∨(e.Kind=3∨e.Kind=4)/\(ix w.Cells e.Obj).B0≠0)
 r:e.Db=[]∨e.Db∈x.Bn/\(e.Kind=4∨e.Kind=22)
 s:e.Kind=1/\e.Site= -1∨(q.Status=4/\e.Kind=17∨q.Status=2/\(e.Kind=2↔z.Op=28)/\e.Kind≠1/\e.Kind≠17/\(e.Kind=16->z.Op=21))/\e.Site=z.Site
 j:e.Kind=5->z.Op=10
structure PE (c:BF) (s:Ad) (th:Int) (e:AH):Prop where
 f:FT c s
 t:0≤th/\th<c.AA.length
 l:mD e
 h:e.Thread=th
 i:∀x y z q,s.AA[th.toNat]? =some x->c.AA[th.toNat]? =some y->y.A1[x.PC.toNat]? =some z->s.Sync.AA[th.toNat]? =some q->PI c.World x y z q e
theorem kN {α:Type} [Inhabited α] {l:List α} {i:Int} {x:α} (h:gt l i=some x):ix l i=x:=by
 unfold gt at h
 split at h
 . unfold ix;rw[h];rfl
 . cases h
theorem To {E:Nat} {c:BF} (hc:CK c) {s:Ad} (hs:∀t∈s.AA,TH E t) (hE:E≤100000) (th:Int):D6 (CD c s th) λr=>r.2=true->PE c s th r.1:=by
 have N:∀{x} {P:AH×Bool->Prop},D6 (some (x,false)) λr:AH×Bool=>r.2=true->P r:=tR λh=>by cases h
 have j1:∀b,(b=false->FT c s/\0≤th/\th<c.AA.length)->D6 (CD.J1 c s th b) λr=>r.2=true->PE c s th r.1:=by
  intro b hb;unfold CD.J1
  refine tI (λ_=>N) λh0=> ?_
  obtain⟨hf,ht⟩:=hb h0
  obtain⟨_,_,l3⟩:=FA hf.f
  have hn:=hf.n;have hn2:=hf.v.n
  obtain⟨x,x1,x2,x3⟩:=Fm (l:=s.AA) (i:=th) (by omega)
  obtain⟨y,y1,y2,y3⟩:=Fm (l:=c.AA) (i:=th) (by omega)
  obtain⟨p1,p2,p3⟩:=hf.t _ x y x2 y2
  obtain⟨z,z1,z2,z3⟩:=Fm (l:=y.A1) (i:=x.PC) (by omega)
  obtain⟨q,q1,q2,q3⟩:=Fm (l:=s.Sync.AA) (i:=th) (by omega)
  have hz:=(hf.v.t _ y y2).i z z3
  have ho:=hz.o;have hg:=hz.g
  have hx:=hs x x3
  have hTl:∀q∈x.Bn,q.length≤100000:=λq hq=>by have:=(hx.b q hq).len hx.e.1;have:=hx.e.2;omega
  refine tE x1 (tE y1 (tE z1 (tE q1 ?_)))
  have fin:∀e:AH,mD e->e.Thread=th->PI c.World x y z q e->PE c s th e:=by
   intro e h1 h2 h3
   refine⟨hf,ht,h1,h2,λx' y' z' q' KY hy' hz' hq'=> ?_⟩
   rw[x2]at KY;rw[y2]at hy';rw[q2]at hq'
   obtain rfl:=AAR KY
   obtain rfl:=AAR hy'
   obtain rfl:=AAR hq'
   rw[z2]at hz'
   obtain rfl:=AAR hz'
   exact h3
  refine tI (λ_=>tR λ_=>fin _ ⟨by simp,by simp⟩ rfl ⟨by simp,by simp,.inl rfl,.inl rfl,.inl ⟨rfl,rfl⟩,by simp⟩) λ_=>tI (λh=>tR λ_=>fin _ ⟨by simp,by simp⟩ rfl ⟨by simp,by simp,.inl rfl,.inl rfl,.inr ⟨.inl ⟨eq_of_beq h,rfl⟩,rfl⟩,by simp⟩) λ_=>tI (λBs=> ?_) λ_=>N
  have Bs:=eq_of_beq Bs
  refine tB (xY ho) λk hk=> ?_
  have hC:z.Op=7∨z.Op=9->0≤z.C/\z.C<y.Br:=by
   rintro(h|h)
   . simp[rg7 h]at hg;omega
   . simp[rg9 h]at hg;omega
  have hB:z.Op=8∨z.Op=9∨z.Op=26->0≤z.B/\z.B<y.Br:=by
   rintro(h|h|h)
   . simp[rg8 h]at hg;omega
   . simp[rg9 h]at hg;omega
   . simp[rg26 h]at hg;omega
  have hA:z.Op=6∨z.Op=7∨z.Op=10∨z.Op=27->0≤z.A/\z.A<y.Br:=by
   rintro(h|h|h|h)
   . simp[rg6 h]at hg;omega
   . simp[rg7 h]at hg;omega
   . simp[rg10 h]at hg;omega
   . simp[rg27 h]at hg;omega
  refine tB (iD λh=>by have:=hC h;omega) λo hobj=>tI (λ_=>N) λaZ=> ?_
  have hk:=hk.resolve_left (by simpa using aZ)
  obtain⟨⟨a1,a2,a3,a4,a5,a6,a7,a8,a9⟩,b1,b2,b3,b4,b5⟩:=hk
  have hel:z.Op=7∨z.Op=9->(k=3∨k=4)/\(ix c.World.Cells o).B0≠0:=by
   have key:∀b v,QT c.World b z.N->o=Ap (b+v)->(1≤z.N/\z.N≤4->0≤v/\v<z.N)->(ix c.World.Cells o).B0≠0:=by
    intro b v h1 h2 h3
    obtain⟨n1,n2⟩:=mP hf.v.w h1
    obtain⟨d,d1,d2⟩:=n2 v (h3 n1).1 (h3 n1).2
    have hd:=d1
    unfold gt at hd
    split at hd
    . have:=(AAQ.1 hd).1
      have:=(EC hf.v.w).c
      rw[h2,DR (by omega) (by omega),kN d1];exact d2
    . cases hd
   rintro(h|h)
   . obtain⟨v,v1,v2⟩:=hobj.1 h
     exact⟨.inl (b1 h),key _ v (hz.a.1 h) v1 v2⟩
   . obtain⟨v,v1,v2⟩:=hobj.2 h
     exact⟨.inr (b2 h),key _ v (hz.a.2 h) v1 v2⟩
  have mk:∀D F,(D=[]∨D∈x.Bn/\(k=5∨(k=3∨k=4)/\(ix c.World.Cells o).B0≠0))->(F=[]∨F∈x.Bn/\(k=4∨k=22))->D.length≤100000->F.length≤100000->PE c s th ⟨th,k,o,0,z.Site,D,F⟩:=
   λD F h1 h2 h3 h4=>fin _ ⟨h3,h4⟩ rfl ⟨λh=>hA (by simp only at h;omega),λh=>hB (by simp only at h;omega),h1,h2,.inr ⟨.inr ⟨Bs,a6,a8,a9,a7⟩,rfl⟩,a3⟩
  have j3:∀D,(D=[]∨D∈x.Bn/\(k=5∨(k=3∨k=4)/\(ix c.World.Cells o).B0≠0))->D.length≤100000->D6 (CD.J3 x z ⟨th,k,o,0,z.Site,D,[]⟩) λr=>r.2=true->PE c s th r.1:=by
   intro D h1 h2
   have j4:∀b,(b=true->z.Op=8∨z.Op=9∨z.Op=26)->D6 (CD.J4 ⟨th,k,o,0,z.Site,D,[]⟩ x z b) λr=>r.2=true->PE c s th r.1:=by
    intro b hb;unfold CD.J4 CD.J5
    refine tI (λh=>tG (by have:=hB (hb h);omega) λq hq=> ?_) λ_=>tR λ_=>mk _ _ h1 (.inl rfl) h2 (by simp)
    have hl:=hTl q hq
    refine tC (DK (by simp;omega)) (tR λ_=>mk _ _ h1 (.inr ⟨by simpa using hq,?_⟩) h2 (by simpa using hl))
    have:=hb h;omega
   unfold CD.J3
   exact tI (λh=>j4 _ λ_=>.inl (eq_of_beq h)) λ_=>tI (λh=>j4 _ λ_=>.inr (.inl (eq_of_beq h))) λ_=>j4 _ λh=>.inr (.inr (eq_of_beq h))
  have j2:∀b,(b=true->z.Op=7∨z.Op=9)->D6 (CD.J2 th k o x z b) λr=>r.2=true->PE c s th r.1:=by
   intro b h;unfold CD.J2
   refine tI (λhb=>tG (by have:=hC (h hb);omega) λq hq=> ?_) λ_=>j3 _ (.inl rfl) (by simp)
   have hl:=hTl q hq
   exact tC (DK (by omega)) (j3 _ (.inr ⟨hq,.inr (hel (h hb))⟩) hl)
  refine tI (λh=>tG (by have:=hA (.inr (.inr (.inl (eq_of_beq h))));omega) λq hq=> ?_) λ_=>tI (λh=>j2 _ λ_=>.inl (eq_of_beq h)) λ_=>j2 _ λh=>.inr (eq_of_beq h)
  have hl:=hTl q hq
  exact tC (DK (by omega)) (j3 _ (.inr ⟨hq,.inl (b3 (eq_of_beq h))⟩) hl)
 unfold CD
 refine tB (vJ hc s) λv hv=>tI (λ_=>j1 _ λh=>by cases h) λh=>tD (λ_=>j1 _ λh=>by cases h) λh1=>j1 _ λh2=>⟨hv (by simpa using h),by omega,?_⟩
 have:=of_decide_eq_false h2
 omega
def SI (N:Nat) (s:Ad):Prop:=RB N s.Sync/\∀t∈s.AA,TH N t
theorem TH.mono {E F:Nat} {t:AL} (h:TH E t) (hf:E≤F):TH F t:=⟨h.r,h.t,h.b,h.e.1,by have:=h.e.2;omega⟩
theorem Z0 {E:Nat} {s:Ad} (h:∀t∈s.AA,TH E t) (hE:E≤100000) (hf:Tn s.Sync) (hc:s.Cells.length≤1000) (hu:s.AK.length≤1000) (ht:s.AA.length≤1000):E5 s=some s:=by
 have key:D6 (E5 s) λr=>r=s:=by
  unfold E5
  refine tE (jQ _ hf) (tC (DK (by omega)) (tC (DK (by omega)) (XN s.AA.length (λi o=>o=⟨s.Sync,s.Cells,s.AK,s.AA.take i⟩) (F:=λn o i=>E5.Aa s n o i) (by omega) rfl λn i o hi ho k=> ?_)))
  subst ho
  unfold E5.Aa E5.L1 E5.J1
  refine tD (λ_=>jM (by omega) ?_) λ_=>tR (by rw[AA3 (by omega)])
  exact tE (Zz (h _ (AAi (by omega))) hE) (tC (DK (by simp;omega)) (k _ (by omega) (by rw[AAk])))
 obtain⟨r,h1,rfl⟩:=key
 exact h1
structure SR (c:BF) (s:Ad) (ch:BK) (s':Ad) (e:AH):Prop where
 p:PE c s ch.Thread e
 en:DC c.World s.Sync ch.Thread e.Kind e.Obj=true
 sy:s'.Sync=(EN c.World s.Sync ch.Thread e.Kind e.Obj ch.S8).1
 va:(e.Kind=3->gt s.Cells e.Obj=some e.Value)/\(e.Kind=23->gt s.AK e.Obj=some e.Value)/\(e.Kind=5->e.Value=0∨e.Value=1)/\(e.Kind≠3->e.Kind≠23->e.Kind≠5->e.Kind≠4->e.Kind≠22->e.Value=(EN c.World s.Sync ch.Thread e.Kind e.Obj ch.S8).2)
 ce:s'.Cells=if e.Kind=4 then s.Cells.set e.Obj.toNat e.Value else s.Cells
 fu:s'.AK=if e.Kind=22 then s.AK.set e.Obj.toNat e.Value else s.AK
 th:∃x x',s.AA[ch.Thread.toNat]? =some x/\s'.AA=s.AA.set ch.Thread.toNat x'/\(e.Kind=16->x'.PC=x.PC)/\(x'=PN∨x'.AF=x.AF+1/\∀l∈x'.Bn,∀k∈l,(∃m∈x.Bn,k∈m)∨k=x.AF/\(e.Kind=3∨e.Kind=23))
theorem dC {E:Nat} {c:BF} (hc:CK c) {s:Ad} (hs:SI E s) (hE:E≤10000) (ch:BK):D6 (BE c s ch) λr=>r.2.2=true->(SI (E+1) r.1/\mD r.2.1)/\SR c s ch r.1 r.2.1:=by
 obtain⟨hr,hs⟩:=hs
 have N:∀{x y} {P:Ad×AH×Bool->Prop},D6 (some (x,y,false)) λr:Ad×AH×Bool=>r.2.2=true->P r:=tR λh=>by cases h
 unfold BE
 refine tB (To hc hs (by omega) ch.Thread) λv hv=>tI (λ_=>N) λh=> ?_
 have hv:=hv (by simpa using h)
 obtain⟨hf,ht,hl,hh,hi⟩:=hv
 have hw:=EC hf.v.w
 have w1:=hw.c;have w2:=hw.f;have w3:=hw.t;have c1:=hf.c';have c2:=hf.u;have c3:=hf.n;have c4:=hf.v.n
 refine tE (Sd _ hw _ (hr.mono (by omega)) _ _ _ _) (tI (λ_=>N) λh2=> ?_)
 have XI:DC c.World s.Sync ch.Thread v.1.Kind v.1.Obj=true:=by
  cases he:DC c.World s.Sync ch.Thread v.1.Kind v.1.Obj with
  |true=>rfl
  |false=>simp[Nt,he]at h2
 have ha:CF c.World v.1.Kind v.1.Obj=true:=by
  have XI:=XI
  unfold DC at XI
  simp only[AAP]at XI
  exact XI.2.2.1
 have hap:Nt c.World s.Sync ch.Thread v.1.Kind v.1.Obj ch.S8=((EN c.World s.Sync ch.Thread v.1.Kind v.1.Obj ch.S8).1,(EN c.World s.Sync ch.Thread v.1.Kind v.1.Obj ch.S8).2,true):=by simp[Nt,XI]
 rw[hap]
 have hR:=hr.apply c.World ch.Thread v.1.Kind v.1.Obj ch.S8
 refine tE (Z0 hs (by omega) (Tn.of hw hf.f (hr.mono (by omega))) (by omega) (by omega) (by omega)) ?_
 obtain⟨x,x1,x2,x3⟩:=Fm (l:=s.AA) (i:=ch.Thread) (by omega)
 obtain⟨y,y1,y2,y3⟩:=Fm (l:=c.AA) (i:=ch.Thread) (by omega)
 obtain⟨p1,p2,p3⟩:=hf.t _ x y x2 y2
 obtain⟨z,z1,z2,z3⟩:=Fm (l:=y.A1) (i:=x.PC) (by omega)
 obtain⟨q,q1,q2,q3⟩:=Fm (l:=s.Sync.AA) (i:=ch.Thread) (by have:=(FA hf.f).2.2;omega)
 have iA:=(hi x y z q x2 y2 z2 q2).a;have iB:=(hi x y z q x2 y2 z2 q2).b
 have hx:=hs x x3
 refine tE x1 (tE y1 (tE z1 ?_))
 have hpe:∀val,PE c s ch.Thread ⟨v.1.Thread,v.1.Kind,v.1.Obj,val,v.1.Site,v.1.D9,v.1.Db⟩:=λval=>⟨hf,ht,hl,hh,λx y z q a b c d=>by
  have h:=hi x y z q a b c d
  exact⟨h.a,h.b,h.d,h.r,h.s,h.j⟩⟩
 generalize hapv:EN c.World s.Sync ch.Thread v.1.Kind v.1.Obj ch.S8=ap at hR ⊢
 let VAC:Int->List Int->List Int->Prop:=λval C F=>((v.1.Kind=3->gt s.Cells v.1.Obj=some val)/\(v.1.Kind=23->gt s.AK v.1.Obj=some val)/\(v.1.Kind=5->val=0∨val=1)/\(v.1.Kind≠3->v.1.Kind≠23->v.1.Kind≠5->v.1.Kind≠4->v.1.Kind≠22->val=ap.2))/\C=(if v.1.Kind=4 then s.Cells.set v.1.Obj.toNat val else s.Cells)/\F=(if v.1.Kind=22 then s.AK.set v.1.Obj.toNat val else s.AK)
 let TX:AL->Prop:=λt=>t=PN∨t.AF=x.AF+1/\∀l∈t.Bn,∀k∈l,(∃m∈x.Bn,k∈m)∨k=x.AF/\(v.1.Kind=3∨v.1.Kind=23)
 have j6:∀val C F t,VAC val C F->TX t->(v.1.Kind=16->t.PC=x.PC)->TH (E+1) t->D6 (BE.J6 ch ⟨v.1.Thread,v.1.Kind,v.1.Obj,val,v.1.Site,v.1.D9,v.1.Db⟩ C F (ap.1,ap.2,true) s t) λr=>r.2.2=true->(SI (E+1) r.1/\mD r.2.1)/\SR c s ch r.1 r.2.1:=by
  intro val C F t h1 h2 h3 h4;unfold BE.J6
  refine tE x1 (tR λ_=>⟨⟨⟨hR,?_⟩,hl⟩,hpe val,XI,by rw[hapv],?_,h1.2.1,h1.2.2,x,t,x2,rfl,h3,h2⟩)
  . intro q hq
    rcases AAv hq with hq|rfl
    . exact(hs q hq).mono (by omega)
    . exact h4
  . rw[hapv];exact h1.1
 have e1:Ap (x.AF+1)=x.AF+1:=by have:=hx.e;exact DR (by omega) (by omega)
 have j5:∀val n C F t b,VAC val C F->(v.1.Kind=16->n=x.PC/\b=false)->t.AF=x.AF->(∀l∈t.Bn,∀k∈l,(∃m∈x.Bn,k∈m)∨k=x.AF/\(v.1.Kind=3∨v.1.Kind=23))->TH (E+1) ⟨0,t.Br,t.Bn,Ap (t.AF+1)⟩->
  D6 (BE.J5 c ch ⟨v.1.Thread,v.1.Kind,v.1.Obj,val,v.1.Site,v.1.D9,v.1.Db⟩ n C F t (ap.1,ap.2,true) s b) λr=>r.2.2=true->(SI (E+1) r.1/\mD r.2.1)/\SR c s ch r.1 r.2.1:=by
  intro val n C F t b h1 hn he hP h2;unfold BE.J5
  have h3:∀n,TH (E+1) ⟨n,t.Br,t.Bn,Ap (t.AF+1)⟩:=λn=>⟨h2.r,h2.t,h2.b,h2.e⟩
  refine tI (λhb=>tE y1 (tB (eM (h3 n) hP (by omega) (hc.i y y3)) λu hu=>j6 _ _ _ _ h1 ?_ (λh=>by rw[(hn h).2]at hb;cases hb) hu.1)) λ_=>j6 _ _ _ _ h1 (.inr ⟨by rw[he,e1],hP⟩) (λh=>(hn h).1) (h3 n)
  exact hu.2.imp id λh=>⟨by rw[h.1,he,e1],h.2⟩
 have j3:∀val n C F b,VAC val C F->(v.1.Kind=16->n=x.PC)->(b=true->(v.1.Kind=3∨v.1.Kind=23))->D6 (BE.J3 c ch ⟨v.1.Thread,v.1.Kind,v.1.Obj,val,v.1.Site,v.1.D9,v.1.Db⟩ n C F (ap.1,ap.2,true) s x z b) λr=>r.2.2=true->(SI (E+1) r.1/\mD r.2.1)/\SR c s ch r.1 r.2.1:=by
  intro val n C F b h1 hn h2;unfold BE.J3 BE.J4
  have he:=hx.e
  have k16:∀{t},(∀l∈t.Bn,∀k∈l,(∃m∈x.Bn,k∈m)∨k=x.AF/\(v.1.Kind=3∨v.1.Kind=23))->t.AF=x.AF->TH (E+1) ⟨0,t.Br,t.Bn,Ap (t.AF+1)⟩->D6 (if(v.1.Kind != 16)=true then BE.J5 c ch ⟨v.1.Thread,v.1.Kind,v.1.Obj,val,v.1.Site,v.1.D9,v.1.Db⟩ n C F t (ap.1,ap.2,true) s (v.1.Kind != 2)else BE.J5 c ch ⟨v.1.Thread,v.1.Kind,v.1.Obj,val,v.1.Site,v.1.D9,v.1.Db⟩ n C F t (ap.1,ap.2,true) s false) λr=>r.2.2=true->(SI (E+1) r.1/\mD r.2.1)/\SR c s ch r.1 r.2.1:=λhP he hT=>
   tI (λh=>j5 _ _ _ _ _ _ h1 (λh'=>by rw[h']at h;cases h) he hP hT) λ_=>j5 _ _ _ _ _ _ h1 (λh=>⟨hn h,rfl⟩) he hP hT
  refine tI (λhb=> ?_) λ_=> ?_
  . have h2:=h2 hb
    have hA:=iA (by omega)
    refine tG (by omega) λ_ _=>tG (by omega) λ_ _=>k16 ?_ rfl ?_
    . intro l hl k hk
      rcases AAv hl with hl|rfl
      . exact .inl ⟨l,hl,hk⟩
      . exact .inr ⟨AA4.1 hk,h2⟩
    . simp only[e1]
      refine⟨by simpa using hx.r,by simpa using hx.t,?_,by simp only;omega⟩
      intro q hq
      rcases AAv hq with hq|rfl
      . exact(hx.b q hq).mono (by simp only;omega)
      . exact⟨by simp,by simp;omega⟩
  . refine k16 (λl hl k hk=>.inl ⟨l,hl,hk⟩) rfl ?_
    simp only[e1]
    exact⟨hx.r,hx.t,λq hq=>(hx.b q hq).mono (by simp only;omega),by simp only;omega⟩
 have j2:∀C F val n,VAC val C F->(v.1.Kind=16->n=x.PC)->D6 (BE.J2 c ch (ap.1,ap.2,true) s x z C F ⟨v.1.Thread,v.1.Kind,v.1.Obj,val,v.1.Site,v.1.D9,v.1.Db⟩ n) λr=>r.2.2=true->(SI (E+1) r.1/\mD r.2.1)/\SR c s ch r.1 r.2.1:=by
  intro C F val n h1 hn;unfold BE.J2
  exact tI (λh=>j3 _ _ _ _ _ h1 hn λ_=>.inl (eq_of_beq h)) λ_=>j3 _ _ _ _ _ h1 hn λh=>.inr (eq_of_beq h)
 have j1:∀b,(b=true->v.1.Kind=1∨v.1.Kind=16∨v.1.Kind=2)->(b=false->v.1.Kind≠16)->D6 (BE.J1 c ch v (ap.1,ap.2,true) s x z b) λr=>r.2.2=true->(SI (E+1) r.1/\mD r.2.1)/\SR c s ch r.1 r.2.1:=by
  intro b hb hb2;unfold BE.J1
  refine tI (λh=>j2 _ _ _ _ ⟨⟨by have:=hb h;omega,by have:=hb h;omega,by have:=hb h;omega,λ_ _ _ _ _=>rfl⟩,by rw[AAX (by have:=hb h;omega)],by rw[AAX (by have:=hb h;omega)]⟩ λ_=>rfl) λh0=>tI (λh=> ?_) λn3=>tI (λh=> ?_) λn23=>tI (λh=> ?_) λn4=>tI (λh=> ?_) λn22=>tI (λh=> ?_) λn5=> ?_
  . have h:=eq_of_beq h
    have:=B9.1 (show Ee v.1.Obj c.World.Cells.length=true by simpa[CF,h]using ha)
    obtain⟨d,d1,_⟩:=Fm (l:=s.Cells) (i:=v.1.Obj) (by omega)
    exact tE d1 (j2 _ _ _ _ ⟨⟨λ_=>d1,by omega,by omega,by omega⟩,by rw[AAX (by omega)],by rw[AAX (by omega)]⟩ (by omega))
  . have h:=eq_of_beq h
    have:=B9.1 (show Ee v.1.Obj c.World.AK.length=true by simpa[CF,h]using ha)
    obtain⟨d,d1,_⟩:=Fm (l:=s.AK) (i:=v.1.Obj) (by omega)
    exact tE d1 (j2 _ _ _ _ ⟨⟨by omega,λ_=>d1,by omega,by omega⟩,by rw[AAX (by omega)],by rw[AAX (by omega)]⟩ (by omega))
  . have h:=eq_of_beq h
    have:=B9.1 (show Ee v.1.Obj c.World.Cells.length=true by simpa[CF,h]using ha)
    have hb:=iB (.inl h)
    exact tG (by omega) λ_ _=>tG (by omega) λ_ _=>j2 _ _ _ _ ⟨⟨by omega,by omega,by omega,by omega⟩,by rw[AAY h],by rw[AAX (by omega)]⟩ (by omega)
  . have h:=eq_of_beq h
    have:=B9.1 (show Ee v.1.Obj c.World.AK.length=true by simpa[CF,h]using ha)
    have hb:=iB (.inr h)
    exact tG (by omega) λ_ _=>tG (by omega) λ_ _=>j2 _ _ _ _ ⟨⟨by omega,by omega,by omega,by omega⟩,by rw[AAX (by omega)],by rw[AAY h]⟩ (by omega)
  . have h:=eq_of_beq h
    have hb:=iA (.inr (.inr h))
    exact tG (by omega) λ_ _=>tI (λ_=>j2 _ _ _ _ ⟨⟨by omega,by omega,λ_=>.inl rfl,by omega⟩,by rw[AAX (by omega)],by rw[AAX (by omega)]⟩ (by omega)) λ_=>j2 _ _ _ _ ⟨⟨by omega,by omega,λ_=>.inr rfl,by omega⟩,by rw[AAX (by omega)],by rw[AAX (by omega)]⟩ (by omega)
  . simp only[beq_eq_false_iff_ne,ne_eq]at n3 n23 n4 n22 n5
    exact j2 _ _ _ _ ⟨⟨λh=>absurd h n3,λh=>absurd h n23,λh=>absurd h n5,λ_ _ _ _ _=>rfl⟩,by rw[AAX n4],by rw[AAX n22]⟩ λh=>absurd h (hb2 h0)
 exact tI (λh=>j1 _ (λ_=>.inl (eq_of_beq h)) λh'=>by rw[h']at h;cases h) λ_=>tI (λh=>j1 _ (λ_=>.inr (.inl (eq_of_beq h))) λh'=>by rw[h']at h;cases h) λn16=>j1 _ (λh=>.inr (.inr (eq_of_beq h))) λ_=>by simpa using n16
structure TM (n:Nat) (t:Az):Prop where
 n:t.AF.length≤n
 e:∀e∈t.AF,mD e
 w:t.AF≠[]->Ck t.World=true
theorem mD.ok {e:AH} (h:mD e):S7 e:=⟨by have:=h.1;omega,by have:=h.2;omega⟩
theorem getT {s:AN} {i:Int} {f:AE->AE} {u:Nat} {q:AE} (hi:0≤i/\i<s.AA.length) (h:(LB s i f).AA[u]? =some q):(u:Int)=i/\q=f (ix s.AA i)∨(u:Int)≠i/\s.AA[u]? =some q:=by
 unfold LB at h
 by_cases e:(u:Int)=i
 . have e':i.toNat=u:=by omega
   rw[e',AAS (by omega)]at h
   exact .inl ⟨e,(AAR h).symm⟩
 . rw[AAV (by omega)]at h
   exact .inr ⟨e,h⟩
theorem lH {α:Type} [Inhabited α] {l:List α} {u:Nat} {i:Int} {x:α} (h:l[u]? =some x) (hi:(u:Int)=i):ix l i=x:=by
 subst hi;unfold ix;simp[h]
theorem qD {wv:AD} {s:AN} {t k o:Int} (h:DC wv s t k o=true) (h1:k≠1) (h2:k≠17):(ix s.AA t).Status=2:=by
 unfold DC Kb at h
 simp only[AAP,AAX h1,AAX h2]at h
 exact eq_of_beq h.2.2.2.1
theorem Mt {wake:Int} {W:List Int} (h:W≠[]):EX wake W∈W:=by
 unfold EX
 rw[AAX h]
 split
 . rename_i h;simpa using h
 . cases W with
   |nil=>exact absurd rfl h
   |cons a r=>simp
theorem jG (o:Int) (T:List AE):∀(i:Nat) (u:Int),u∈Bz o i T->∃x,T[(u-i).toNat]? =some x/\x.Status=3:=by
 induction T with
 |nil=>intro i u h;cases h
 |cons x r ih=>
  intro i u h
  unfold Bz at h
  have key:u∈Bz o (i+1) r->∃y,(x::r)[(u-i).toNat]? =some y/\y.Status=3:=by
   intro h
   have hr:=(Ie o r (i+1) u h).1
   obtain⟨y,y1,y2⟩:=ih (i+1) u h
   refine⟨y,?_,y2⟩
   rw[show(u-(i:Int)).toNat=(u-((i+1:Nat):Int)).toNat+1 from by omega,ABA]
   exact y1
  split at h
  . rename_i hw
    rcases AAp.1 h with rfl|h
    . refine⟨x,by simp,?_⟩
      unfold Ia at hw
      simp only[AAP]at hw
      exact eq_of_beq hw.1
    . exact key h
  . exact key h
theorem jE {wv:AD} {s:AN} {t k o wake:Int} (h:DC wv s t k o=true) {u:Nat} {q':AE} (hq:(EN wv s t k o wake).1.AA[u]? =some q'):
 ((u:Int)=t->k=16∨q'.Status=2∨q'.Status=5)/\((u:Int)≠t->q'.Status=1∨∃q,s.AA[u]? =some q/\(q'=q∨q.Status=3/\q'.Status=4)):=by
 have h2:=λa b=>qD h (k:=k) a b
 have h':=h
 unfold DC at h'
 simp only[AAP]at h'
 obtain⟨hf,ht,ha,RF⟩:=h'
 obtain⟨_,_,l3⟩:=FA hf
 have ht:=B9.1 ht
 rw[← l3]at ht
 -- a thread's own place
 have own:∀(s2:AN) (f:AE->AE),s2.AA=s.AA->(LB s2 t f).AA[u]? =some q'->(k=16∨(f (ix s.AA t)).Status=2∨(f (ix s.AA t)).Status=5)->
  ((u:Int)=t->k=16∨q'.Status=2∨q'.Status=5)/\((u:Int)≠t->q'.Status=1∨∃q,s.AA[u]? =some q/\(q'=q∨q.Status=3/\q'.Status=4)):=by
  intro s2 f hs h1 h3
  rcases getT (by rw[hs];exact ht) h1 with⟨e,rfl⟩|⟨e,h4⟩
  . rw[hs];exact⟨λ_=>h3,λh=>absurd e h⟩
  . rw[hs]at h4;exact⟨λh=>absurd h e,λ_=>.inr ⟨q',h4,.inl rfl⟩⟩
 -- nobody's place
 have none_:∀(T:List AE),T=s.AA->T[u]? =some q'->(ix s.AA t).Status=2->((u:Int)=t->k=16∨q'.Status=2∨q'.Status=5)/\((u:Int)≠t->q'.Status=1∨∃q,s.AA[u]? =some q/\(q'=q∨q.Status=3/\q'.Status=4)):=by
  rintro _ rfl h1 h3
  exact⟨λe=>.inr (.inl (by rw[lH h1 e]at h3;exact h3)),λ_=>.inr ⟨q',h1,.inl rfl⟩⟩
 unfold EN at hq
 by_cases n1:k=1
 . rw[AAY n1]at hq;exact own s _ rfl hq (.inr (.inl rfl))
 rw[AAX n1]at hq
 by_cases n2:k=2
 . rw[AAY n2]at hq;exact own s _ rfl hq (.inr (.inr rfl))
 rw[AAX n2]at hq
 by_cases e:k=6∨k=10
 . rw[AAY e]at hq;exact none_ _ rfl hq (h2 n1 (by omega))
 rw[AAX e]at hq
 by_cases e:k=7∨k=11
 . rw[AAY e]at hq;exact none_ _ rfl hq (h2 n1 (by omega))
 rw[AAX e]at hq
 by_cases e:k=8
 . rw[AAY e]at hq;exact none_ _ rfl hq (h2 n1 (by omega))
 rw[AAX e]at hq
 by_cases e:k=9
 . rw[AAY e]at hq;exact none_ _ rfl hq (h2 n1 (by omega))
 rw[AAX e]at hq
 by_cases e:k=12
 . rw[AAY e]at hq;exact none_ _ rfl hq (h2 n1 (by omega))
 rw[AAX e]at hq
 by_cases e:k=13
 . rw[AAY e]at hq;exact none_ _ rfl hq (h2 n1 (by omega))
 rw[AAX e]at hq
 by_cases e:k=14
 . rw[AAY e]at hq;exact own s _ rfl hq (.inr (.inl (h2 n1 (by omega))))
 rw[AAX e]at hq
 by_cases e:k=15
 . rw[AAY e]at hq;exact own s _ rfl hq (.inr (.inl (h2 n1 (by omega))))
 rw[AAX e]at hq
 by_cases dN:k=16
 . rw[AAY dN]at hq;exact own (Kc s (ix wv.Af o).Mutex λx=>⟨-1,x.As⟩) _ rfl hq (.inl dN)
 rw[AAX dN]at hq
 by_cases n17:k=17
 . rw[AAY n17]at hq;exact own (Kc s (ix wv.Af o).Mutex λx=>⟨t,x.As⟩) _ rfl hq (.inr (.inl rfl))
 rw[AAX n17]at hq
 have s2:=h2 n1 n17
 by_cases e:k=18
 . rw[AAY e]at hq
   by_cases hW:Bz o 0 s.AA=[]
   . rw[AAY hW]at hq;exact none_ _ rfl hq s2
   . rw[AAX hW]at hq
     obtain⟨x,x1,x2⟩:=jG o s.AA 0 _ (Mt (wake:=wake) hW)
     have hm:=Ie o s.AA 0 _ (Mt (wake:=wake) hW)
     generalize EX wake (Bz o 0 s.AA)=d at hq x1 hm
     have x1:s.AA[d.toNat]? =some x:=by simpa using x1
     have hd:ix s.AA d=x:=lH x1 (by omega)
     rcases getT (by simp at hm;omega) hq with⟨e,rfl⟩|⟨e,h4⟩
     . refine⟨λh=> ?_,λ_=>.inr ⟨x,?_,.inr ⟨x2,rfl⟩⟩⟩
       . rw[← h,e,hd]at s2;omega
       . rw[show u=d.toNat from by omega];exact x1
     . exact none_ _ rfl h4 s2
 rw[AAX e]at hq
 by_cases e:k=19
 . rw[AAY e]at hq
   have hq:(s.AA.map (IM o))[u]? =some q':=hq
   rw[AAZ]at hq
   cases hx:s.AA[u]? with
   |none=>rw[hx]at hq;cases hq
   |some x=>
    rw[hx]at hq
    obtain rfl:=AAR hq
    unfold IM
    by_cases hw:Ia x o=true
    . have:x.Status=3:=by
       unfold Ia at hw
       simp only[AAP]at hw
       exact eq_of_beq hw.1
      rw[AAY hw]
      refine⟨λe=> ?_,λ_=>.inr ⟨x,rfl,.inr ⟨this,rfl⟩⟩⟩
      rw[lH hx e]at s2;omega
    . rw[AAX hw]
      exact⟨λe=>.inr (.inl (by rw[lH hx e]at s2;exact s2)),λ_=>.inr ⟨x,rfl,.inl rfl⟩⟩
 rw[AAX e]at hq
 by_cases aT:k=20
 . rw[AAY aT]at hq
   have ho:Ee o wv.AA.length=true:=by simpa[CF,aT]using ha
   have hot:o≠t:=by
    simp[Kb,aT]at RF
    exact RF.2.1
   have ho:=B9.1 ho
   rcases getT (by omega) hq with⟨e,rfl⟩|⟨e,h4⟩
   . exact⟨λh=>absurd (e.symm.trans h) hot,λ_=>.inl rfl⟩
   . exact none_ _ rfl h4 s2
 rw[AAX aT]at hq
 by_cases e:k=22
 . rw[AAY e]at hq;exact none_ _ rfl hq s2
 . rw[AAX e]at hq;exact none_ _ rfl hq s2
theorem VZ (wv:AD) (s:AN) (t k o wake:Int):(EN wv s t k o (if k=18 then(EN wv s t k o wake).2 else -1)).1=(EN wv s t k o wake).1:=by
 by_cases h:k=18
 . rw[AAY h,h]
   have key:∀w,(EN wv s t 18 o w)=(if Bz o 0 s.AA=[]then s else LB s (EX w (Bz o 0 s.AA)) Hv,EX w (Bz o 0 s.AA)):=λw=>by simp[EN]
   rw[key,key]
   by_cases hW:Bz o 0 s.AA=[]
   . simp[hW]
   . have:=Mt (wake:=wake) hW
     simp only[hW,AAe]
     rw[show EX (EX wake (Bz o 0 s.AA)) (Bz o 0 s.AA)=EX wake (Bz o 0 s.AA)from ?_]
     generalize EX wake (Bz o 0 s.AA)=d at this ⊢
     unfold EX
     rw[AAX hW,AAY (by simpa using this)]
 . rw[AAX h]
   unfold EN
   simp only[AAX h]
theorem nums_of {c:Int} (D:List Int):∀last:Int,D.Pairwise (· < ·)->(∀k∈D,last<k/\k<c)->Gb c last D=true:=by
 induction D with
 |nil=>exactλ_ _ _=>rfl
 |cons x r ih=>
  intro last h1 h2
  obtain⟨p1,p2⟩:=List.pairwise_cons.1 h1
  have hx:=h2 x ABL
  unfold Gb
  simp only[AAP,AAf]
  exact⟨hx.1,hx.2,ih x p2 λk hk=>⟨p1 k hk,(h2 k (List.mem_cons_of_mem _ hk)).2⟩⟩
theorem xT {l:List Bool} {b:Bool} {k:Int} (h:NV l k=true):NV (l++[b]) k=true:=by
 unfold NV at h ⊢
 simp only[AAP]at h ⊢
 have hi:=B9.1 h.1
 refine⟨B9.2 (by simp;omega),?_⟩
 have:=h.2
 unfold ix at this ⊢
 rw[AAr (by omega)]
 exact this
theorem o5 {l:List Bool}:NV (l++[true]) (l.length:Int)=true:=by
 unfold NV
 simp only[AAP]
 exact⟨B9.2 (by simp;omega),by unfold ix;simp⟩
structure GT (pre:List AH) (u:Int) (cnt:Int) (x:AL):Prop where
 c:cnt=x.AF
 n:x.AF=((OB pre u).length:Int)
 k:∀l∈x.Bn,∀k∈l,NV (OB pre u) k=true/\1≤k
structure LK (c:BF) (pre:List AH) (S:AB) (s:Ad):Prop where
 y:S.Sync=s.Sync
 ce:S.Cells=s.Cells
 f:S.AK=s.AK
 n:S.Count.length=c.World.AA.length
 t:∀(u:Nat) x y,s.AA[u]? =some x->c.AA[u]? =some y->y.Br=0∨x=PN∨GT pre u (ix S.Count u) x
 w:∀(u:Nat) x y q,s.AA[u]? =some x->c.AA[u]? =some y->s.Sync.AA[u]? =some q->q.Status=3∨q.Status=4->∃z,gt y.A1 x.PC=some z/\z.Op=21
 e:∀(u:Nat) x q,s.AA[u]? =some x->s.Sync.AA[u]? =some q->2≤q.Status->x=PN∨1≤x.AF
theorem tK {wv:AD} {s:AN} {t k o wake:Int} (h18:k≠18) (h19:k≠19):(EN wv s t k o wake).2=0:=by
 have key:∀(P:Prop) [Decidable P] (a b:AN×Int),a.2=0->b.2=0->(if P then a else b).2=0:=λP _ a b ha hb=>by
  by_cases h:P
  . rw[AAY h];exact ha
  . rw[AAX h];exact hb
 unfold EN
 rw[AAX h18,AAX h19]
 repeat' first|rfl|apply key
theorem sim {E:Nat} {c:BF} {s s':Ad} {ch:BK} {e:AH} {pre:List AH} {S:AB} (hE:E≤10000) (hs:SI E s) (hl:LK c pre S s) (hr:SR c s ch s' e):
 Kf c.World S e=true/\RG pre e=true/\LK c (pre++[e]) (GL c.World S e) s':=by
 obtain⟨hp,XI,hsy,xM,hce,hfu,x,x',x2,hth,h16,KY⟩:=hr
 obtain⟨hf,ht,_,hh,hi⟩:=hp
 have c1:=hf.c';have c2:=hf.u;have c3:=hf.n;have c4:=hf.v.n
 have l3:=(FA hf.f).2.2
 obtain⟨y,_,y2,_⟩:=Fm (l:=c.AA) (i:=ch.Thread) (by omega)
 obtain⟨p1,p2,p3⟩:=hf.t _ x y x2 y2
 obtain⟨z,z1,z2,z3⟩:=Fm (l:=y.A1) (i:=x.PC) (by omega)
 obtain⟨q,_,q2,_⟩:=Fm (l:=s.Sync.AA) (i:=ch.Thread) (by omega)
 have hpi:=hi x y z q x2 y2 z2 q2
 have hz:=(hf.v.t _ y y2).i z z3
 have hx:=hs.2 x (AAb x2)
 have hcast:((ch.Thread.toNat:Nat):Int)=ch.Thread:=by omega
 -- a thread with registers shows what its trace shows
 have hgt:y.Br=0∨GT pre ch.Thread (ix S.Count ch.Thread) x:=by
  rcases hl.t _ x y x2 y2 with h|h|h
  . exact .inl h
  . rw[h]at p2;exact .inl p2.symm
  . rw[hcast]at h;exact .inr h
 have hD:∀D,D=[]∨D∈x.Bn->Gb (ix S.Count e.Thread) 0 D=true/\D.all (NV (OB pre e.Thread))=true:=by
  rintro D (rfl|hD)
  . exact⟨rfl,rfl⟩
  . rcases hgt with h|h
    . have:x.Bn.length=0:=by omega
      rw[List.length_eq_zero_iff.1 this]at hD;cases hD
    . rw[hh]
      refine⟨nums_of D 0 (hx.b D hD).1 λk hk=>⟨by have:=(h.k D hD k hk).2;omega,?_⟩,AAU.2 λk hk=>(h.k D hD k hk).1⟩
      rw[h.c];exact((hx.b D hD).2 k hk).2
 have hdp:=hD e.D9 (hpi.d.imp id λh=>h.1)
 have Zs:=hD e.Db (hpi.r.imp id λh=>h.1)
 have ha:CF c.World e.Kind e.Obj=true:=by
  have XI:=XI
  unfold DC at XI
  simp only[AAP]at XI
  exact XI.2.2.1
 have TK:ND c.World e=true:=by
  unfold ND
  have site:z.Op≠28->e.Site=z.Site->(Ee e.Site c.World.A7.length&&(ix c.World.A7 e.Site).Thread==e.Thread)=true:=by
   intro h1 h2
   have hs:=hz.s
   unfold W5 at hs
   rw[AAX h1,hcast]at hs
   obtain⟨b,b1,b2⟩:=hs
   have hb:=b1
   unfold gt at hb
   split at hb
   . have:=(AAQ.1 hb).1
     rw[h2,kN b1,b2,hh]
     simp only[AAP,ABB,and_true]
     exact B9.2 (by omega)
   . cases hb
  rcases hpi.s with⟨k1,k2⟩|⟨⟨q4,gV⟩|⟨q2',k2,n1,n17,k16⟩,xK⟩
  . rw[AAY (.inl k1),k2];rfl
  . obtain⟨z',b1,b2⟩:=hl.w _ x y q x2 y2 q2 (.inr q4)
    rw[z1]at b1
    obtain rfl:=AAR b1
    rw[AAX (by omega)]
    exact site (by omega) xK
  . by_cases h2:e.Kind=2
    . have hs:=hz.s
      unfold W5 at hs
      rw[AAY (k2.1 h2)]at hs
      rw[AAY (.inr h2),xK,hs];rfl
    . rw[AAX (by omega)]
      exact site (λh=>h2 (k2.2 h)) xK
 have hdet:FN c.World S e=true:=by
  unfold FN
  rw[hdp.1,Zs.1]
  simp only[Bool.and_true,AAP,AAx]
  refine⟨hpi.d.imp (λh=>by rw[h];rfl) λh=>h.2.imp (λh=>by rw[h];rfl) λh=> ?_,hpi.r.imp (λh=>by rw[h];rfl) λh=>h.2.imp (λh=>by rw[h];rfl) λh=>by rw[h];rfl⟩
  unfold RT
  rw[AAY h.1]
  simpa using h.2
 have BP:JE S e=true:=by
  unfold JE
  rw[hl.ce,hl.f,hl.y]
  obtain⟨v1,v2,v3,v4⟩:=xM
  by_cases k3:e.Kind=3
  . rw[AAY k3,kN (v1 k3)];simp
  rw[AAX k3]
  by_cases o7:e.Kind=23
  . rw[AAY o7,kN (v2 o7)];simp
  rw[AAX o7]
  by_cases k5:e.Kind=5
  . rw[AAY k5]
    rcases v3 k5 with h|h<;>rw[h]<;>rfl
  rw[AAX k5]
  by_cases k4:e.Kind=4∨e.Kind=22
  . rw[AAY k4]
  rw[AAX k4]
  have hv:=v4 k3 o7 k5 (by omega) (by omega)
  by_cases UR:e.Kind=18
  . rw[AAY UR]
    have:e.Value=EX ch.S8 (Bz e.Obj 0 s.Sync.AA):=by rw[hv,UR];simp[EN]
    by_cases hW:Bz e.Obj 0 s.Sync.AA=[]
    . rw[this,hW];rfl
    . have hm:=Mt (wake:=ch.S8) hW
      rw[← this]at hm
      simp only[AAx]
      exact .inl (by simpa using hm)
  rw[AAX UR]
  by_cases jK:e.Kind=19
  . rw[AAY jK,hv,jK];simp[EN]
  rw[AAX jK,hv]
  simp[tK UR jK]
 have hposs:Kf c.World S e=true:=by
  unfold Kf MJ
  rw[hl.y,hl.ce,hl.f,hf.f,hh,XI,TK,hdet,BP,hl.n,c1,c2]
  simp only[ABB,Bool.and_true,AA0]
  exact B9.2 (by omega)
 have hreads:RG pre e=true:=by unfold RG;rw[hdp.2,Zs.2];rfl
 refine⟨hposs,hreads,?_⟩
 have hsy':(GL c.World S e).Sync=s'.Sync:=by
  show(EN c.World S.Sync e.Thread e.Kind e.Obj (if e.Kind=18 then e.Value else -1)).1=_
  rw[hl.y,hsy,hh]
  by_cases UR:e.Kind=18
  . have hv:=xM.2.2.2 (by omega) (by omega) (by omega) (by omega) (by omega)
    have:=VZ c.World s.Sync ch.Thread e.Kind e.Obj ch.S8
    rw[AAY UR]at this ⊢
    rw[hv];exact this
  . have:=VZ c.World s.Sync ch.Thread e.Kind e.Obj ch.S8
    rw[AAX UR]at this ⊢
    exact this
 have hthr:∀(u:Nat) a,s'.AA[u]? =some a->(u:Int)=ch.Thread/\a=x'∨(u:Int)≠ch.Thread/\s.AA[u]? =some a:=by
  intro u a ha
  rw[hth]at ha
  by_cases hu:(u:Int)=ch.Thread
  . rw[show ch.Thread.toNat=u from by omega,AAS (by omega)]at ha
    exact .inl ⟨hu,(AAR ha).symm⟩
  . rw[AAV (by omega)]at ha
    exact .inr ⟨hu,ha⟩
 have sJ:∀u:Nat,ix (GL c.World S e).Count (u:Int)=if(u:Int)=ch.Thread then Ap (ix S.Count ch.Thread+1)else ix S.Count u:=by
  intro u
  show ix (S.Count.set e.Thread.toNat (Ap (ix S.Count e.Thread+1))) u=_
  rw[hh]
  by_cases hu:(u:Int)=ch.Thread
  . rw[AAY hu]
    have D5:u<S.Count.length:=by rw[hl.n];omega
    rw[show ch.Thread.toNat=u from by omega]
    unfold ix
    simp[D5]
  . rw[AAX hu]
    unfold ix
    rw[AAV (by omega)]
 have RF:∀u:Int,OB (pre++[e]) u=if ch.Thread=u then OB pre u++[rF e]else OB pre u:=λu=>by rw[NF,hh]
 have Bs:∀(u:Nat) b,s'.Sync.AA[u]? =some b->((u:Int)=ch.Thread->e.Kind=16∨b.Status=2∨b.Status=5)/\((u:Int)≠ch.Thread->b.Status=1∨∃q,s.Sync.AA[u]? =some q/\(b=q∨q.Status=3/\b.Status=4)):=by
  intro u b hb
  rw[hsy]at hb
  exact jE XI hb
 refine⟨hsy',?_,?_,?_,?_,?_,?_⟩
 . rw[hce,← hl.ce];rfl
 . rw[hfu,← hl.f];rfl
 . show(S.Count.set _ _).length=_
   rw[List.length_set];exact hl.n
 . intro u a b ha hb
   rcases hthr u a ha with⟨hu,rfl⟩|⟨hu,ha⟩
   . rw[show u=ch.Thread.toNat from by omega,y2]at hb
     obtain rfl:=AAR hb
     rcases hgt with h|h
     . exact .inl h
     . rcases KY with KY|⟨e1,e2⟩
       . exact .inr (.inl KY)
       . by_cases hR:y.Br=0
         . exact .inl hR
         . refine .inr (.inr ⟨?_,?_,?_⟩)
           . rw[sJ,AAY hu,h.c,e1]
             have:=hx.e
             exact DR (by omega) (by omega)
           . rw[RF,hu,AAY rfl,e1,h.n];simp
           . intro l hl' k hk
             rw[RF,hu,AAY rfl]
             rcases e2 l hl' k hk with⟨m,m1,m2⟩|⟨rfl,hk3⟩
             . exact⟨xT (h.k m m1 k m2).1,(h.k m m1 k m2).2⟩
             . have hr:rF e=true:=by unfold rF;rcases hk3 with h|h<;>simp[h]
               rw[hr]
               have:=o5 (l:=OB pre ch.Thread)
               rw[← h.n]at this
               refine⟨this,?_⟩
               have hq:2≤q.Status:=by
                rcases hpi.s with⟨k1,_⟩|⟨⟨_,gV⟩|⟨q2',_⟩,_⟩<;>omega
               rcases hl.e _ x q x2 q2 hq with h0|h0
               . rw[h0]at p2;exact absurd p2.symm hR
               . exact h0
   . rcases hl.t u a b ha hb with h|h|h
     . exact .inl h
     . exact .inr (.inl h)
     . refine .inr (.inr ⟨?_,?_,?_⟩)
       . rw[sJ,AAX hu];exact h.c
       . rw[RF,AAX (λh=>hu h.symm)];exact h.n
       . rw[RF,AAX (λh=>hu h.symm)];exact h.k
 . intro u a b d ha hb hd hs34
   rcases hthr u a ha with⟨hu,rfl⟩|⟨hu,ha⟩
   . rw[show u=ch.Thread.toNat from by omega,y2]at hb
     obtain rfl:=AAR hb
     have k16:e.Kind=16:=by
      rcases(Bs u d hd).1 hu with h|h|h<;>omega
     rw[h16 k16]
     refine⟨z,z1,?_⟩
     rcases hpi.s with⟨k1,_⟩|⟨⟨_,gV⟩|⟨_,_,_,_,h⟩,_⟩
     . omega
     . omega
     . exact h k16
   . rcases(Bs u d hd).2 hu with h|⟨q',h1,h2⟩
     . omega
     . refine hl.w u a b q' ha hb h1 ?_
       rcases h2 with rfl|h2
       . exact hs34
       . exact .inl h2.1
 . intro u a d ha hd h2
   rcases hthr u a ha with⟨hu,rfl⟩|⟨hu,ha⟩
   . rcases KY with h|⟨e1,_⟩
     . exact .inl h
     . have:=hx.e;exact .inr (by omega)
   . rcases(Bs u d hd).2 hu with h|⟨q',h1,h3⟩
     . omega
     . refine hl.e u a q' ha h1 ?_
       rcases h3 with rfl|h3<;>omega
theorem lZ {wv:AD} {j:Nat} {q:AE} (h:(Mj wv).AA[j]? =some q):q.Status=0∨q.Status=1:=by
 have h:=AAb h
 unfold Mj at h
 rcases AAv h with h|rfl
 . rw[List.eq_of_mem_replicate h];exact .inl rfl
 . exact .inr rfl
theorem Start9_ok {c:BF} (hc:CK c) (hv:CB c=some true):D6 (EW c) λs=>SI 0 s/\LK c [] (Gg c.World) s:=by
 unfold EW
 obtain⟨v,h1,h2⟩:=VK hc
 rw[hv]at h1
 have hv2:=h2 (AAR h1).symm
 rw[hv,AAO]
 refine tI (λh=>by cases h) λ_=> ?_
 have hv:=hv2
 have hw:=EC hv.w
 have w1:=hw.c;have w2:=hw.f;have w3:=hc.n
 refine tE (cE _ hw) (XN c.World.Cells.length (λi s=>s.Sync=Mj c.World/\s.Cells=(c.World.Cells.take i).map (·.Init)/\s.AK=[]/\s.AA=[]) (F:=λn s i=>EW.Aa c n s i) (by omega) ⟨rfl,rfl,rfl,rfl⟩ λn i s hi hs k=> ?_)
 obtain⟨s1,s2,s3,s4⟩:=hs
 have l2:s.Cells.length=i:=by rw[s2];simp;omega
 unfold EW.Aa EW.L1 EW.J1
 refine tD (λ_=>jM (by omega) (tC (DK (by omega)) (k _ (by omega) ⟨s1,by simp only;rw[s2,← AAk (by omega),AA9];rfl,s3,s4⟩))) λ_=> ?_
 have s2:s.Cells=c.World.Cells.map (·.Init):=by rw[s2,AA3 (by omega)]
 refine XN c.World.AK.length (λi t=>t.Sync=Mj c.World/\t.AK=List.replicate i 0/\t.AA=[]/\t.Cells=s.Cells) (F:=λn s i=>EW.C2 c n s i) (by omega) ⟨s1,by simp[s3],s4,rfl⟩ λn i t hi hs k=> ?_
 obtain⟨t1,t2,t3,t4⟩:=hs
 have l2:t.AK.length=i:=by rw[t2];simp
 unfold EW.C2 EW.L2 EW.J2
 refine tD (λ_=>tC (DK (by omega)) (k _ (by omega) ⟨t1,by simp only;rw[t2,← List.replicate_succ'],t3,t4⟩)) λ_=> ?_
 have t2:t.AK=List.replicate c.World.AK.length 0:=by rw[t2,show i=c.World.AK.length by omega]
 refine XN c.AA.length (λi u=>u.Sync=Mj c.World/\u.AA.length=i/\(∀x∈u.AA,TH 0 x/\x.AF=0/\∀l∈x.Bn,l=[])/\u.Cells=s.Cells/\u.AK=t.AK) (F:=λn s i=>EW.Gm c n s i) (by omega) ⟨t1,by simp[t3],by simp[t3],t4,rfl⟩ λn i u hi hs k=> ?_
 obtain⟨u1,u2,u3,u4,u5⟩:=hs
 unfold EW.Gm EW.L3 EW.J3
 refine tD (λ_=>jM (by omega) ?_) λ_=>tR ⟨⟨by rw[u1];exact RB.start _,λx hx=>(u3 x hx).1⟩,by rw[u1];rfl,by rw[u4,s2];rfl,by rw[u5,t2];rfl,by have:=hv.n;simp[Gg],?_,?_,?_⟩
 . have hr:=(hv.t i _ (AAT (by omega))).r
   refine tC ⟨by omega,by omega,DK (by omega)⟩ (tC ⟨by omega,by omega,DK (by omega)⟩ (tC (DK (by omega)) (k _ (by omega) ⟨u1,by simp;omega,?_,u4,u5⟩)))
   intro x hx
   rcases AAj.1 hx with hx|hx
   . exact u3 x hx
   . rw[AA4.1 hx]
     refine⟨⟨by simp;omega,by simp;omega,?_,by simp⟩,rfl,λl hl=>List.eq_of_mem_replicate hl⟩
     intro y hy
     have hy:=List.eq_of_mem_replicate hy
     rw[hy]
     exact⟨List.Pairwise.nil,by simp⟩
 . intro j x y hx _
   have hx:=u3 x (AAb hx)
   refine .inr (.inr ⟨?_,by rw[hx.2.1];rfl,λl hl k hk=>by rw[hx.2.2 l hl]at hk;cases hk⟩)
   rw[hx.2.1]
   show ix (List.replicate c.World.AA.length 0) (j:Int)=0
   unfold ix
   simp only[ABE]
   by_cases hj:j<c.World.AA.length
   . rw[AAT (by simpa using hj)];simp
   . rw[ABQ (by simp;omega)];rfl
 . intro j x y q _ _ hq h34
   rw[u1]at hq
   have:=lZ hq
   omega
 . intro j x q _ hq h2
   rw[u1]at hq
   have:=lZ hq
   omega
def Acc (wv:AD) (l:List AH) (S:AB):Prop:=∀r,Hg wv [] (Gg wv) (l++r)=Hg wv l S r
theorem Acc.step {wv:AD} {l:List AH} {S:AB} (h:Acc wv l S) {e:AH} (h1:Kf wv S e=true) (h2:RG l e=true):Acc wv (l++[e]) (GL wv S e):=by
 intro r
 rw[AA6,h,List.singleton_append,Hg,h1,h2]
 rfl
theorem from_ok {c:BF} (hc:CK c) {s:Ad} (hs:SI 0 s) (hk:LK c [] (Gg c.World) s) {l:List BK} (hl:l.length≤1000):D6 (Gk c s [] l) λr=>(r.1.length≤l.length/\∀e∈r.1,mD e)/\∃S,Acc c.World r.1 S/\LK c r.1 S r.2:=by
 unfold Gk
 refine XN l.length (λi (s:List AH×Ad)=>(SI i s.2/\s.1.length≤i/\∀e∈s.1,mD e)/\∃S,Acc c.World s.1 S/\LK c s.1 S s.2) (F:=λn s i=>Gk.Aa c l n s.1 s.2 i) (s0:=([],s)) (by omega) ⟨⟨hs,by simp,by simp⟩,_,λ_=>rfl,hk⟩ λn i s hi hs k=> ?_
 obtain⟨⟨s1,s2,s3⟩,S,a1,a2⟩:=hs
 have up:SI (i+1) s.2:=⟨s1.1.mono (by omega),λt ht=>(s1.2 t ht).mono (by omega)⟩
 unfold Gk.Aa Gk.L1 Gk.J1 Gk.J2 Gk.J3
 refine tD (λ_=>tI (λ_=>tG (by omega) λx _=> ?_) λ_=>tR ⟨⟨by simp only;omega,s3⟩,S,a1,a2⟩) λ_=>tI (λh=>by cases h) λ_=>tR ⟨⟨by simp only;omega,s3⟩,S,a1,a2⟩
 refine tB (dC hc s1 (by omega) x) λv hv=>tI (λh=> ?_) λ_=>k (_,_) (by omega) ⟨⟨up,by simp only;omega,s3⟩,S,a1,a2⟩
 obtain⟨⟨v1,v2⟩,v3⟩:=hv h
 obtain⟨b1,b2,b3⟩:=sim (by omega) s1 a2 v3
 refine tC (DK (by omega)) (k (_,_) (by omega) ⟨⟨v1,by simp;omega,?_⟩,_,a1.step b1 b2,b3⟩)
 intro e he
 rcases AAj.1 he with he|he
 . exact s3 e he
 . rw[AA4.1 he];exact v2
structure TA (n:Nat) (t:Az):Prop where
 m:TM n t
 c:Hg t.World [] (Gg t.World) t.AF=(0,0)
theorem Run_ok {c:BF} (hc:CK c) {l:List BK} (hl:l.length≤1000):D6 (LN c l) λr=>TA l.length r.1:=by
 unfold LN
 obtain⟨v,h1,h2⟩:=VK hc
 rw[h1,AAO]
 refine tI (λ_=>tR ⟨⟨by simp,by simp,λh=>absurd rfl h⟩,rfl⟩) λh=> ?_
 have ht:v=true:=by simpa using h
 refine tB (Start9_ok hc (by rw[h1,ht])) λs hs=>tB (from_ok hc hs.1 hs.2 hl) λr hr=>tR ⟨⟨hr.1.1,hr.1.2,λ_=>(h2 ht).w⟩,?_⟩
 obtain⟨S,a1,_⟩:=hr.2
 have:=a1 []
 rw[ABf]at this
 exact this
section
variable {T:ABq->Prop}
def XX:Nat->List AP->Nat
 |0,_=>0
 |d+1,l=>(l.map λs=>1+XX d s.Body+XX d s.Else).sum
theorem sum_le {l:List Nat} {k:Nat} (h:∀x∈l,x≤k):l.sum≤l.length*k:=by
 induction l with
 |nil=>simp
 |cons x r ih=>
  have h1:=h x ABL
  have h2:=ih λy hy=>h y (List.mem_cons_of_mem _ hy)
  rw[List.sum_cons,AA7,ABa];omega
theorem szs_le (d:Nat):∀l,dT T d l->XX d l≤10*MS d:=by
 induction d with
 |zero=>exactλ_ _=>Nat.zero_le _
 |succ d ih=>
  intro l ⟨h1,h2⟩
  have hc:MS (d+1)=1+20*MS d:=rfl
  refine ABO (sum_le (k:=MS (d+1)) ?_) (by rw[AAo];exact ABN _ h1)
  intro x hx
  obtain⟨s,hs,rfl⟩:=ABZ.1 hx
  have a1:=ih _ (h2 s hs).body
  have a2:=ih _ (h2 s hs).els
  omega
theorem zZ {l:List AP} {i:Nat} (h:i<l.length) (f:AP->Nat):((l.take (i+1)).map f).sum=((l.take i).map f).sum+f l[i]:=by
 rw[← AAk h,AA9,List.sum_append];simp
theorem XW (l:List AP) (i:Nat) (f:AP->Nat):((l.take i).map f).sum≤(l.map f).sum:=by
 conv=>rhs;rw[← List.take_append_drop i l,AA9,List.sum_append]
 omega
theorem cst_le {d:Nat} (h:d≤4):MS d≤8421:=by
 have:d=0∨d=1∨d=2∨d=3∨d=4:=by omega
 rcases this with rfl|rfl|rfl|rfl|rfl<;>decide
theorem Count_eq (d:Nat):∀(n:Nat) (l:List AP),d≤4->d+1≤n->dT T d l->D6 (IF n l) λr=>r=(XX d l:Int):=by
 induction d with
 |zero=>
  intro n l _ hn ⟨_,h⟩
  obtain⟨n,rfl⟩:∃k,n=k+1:=⟨n-1,by omega⟩
  have:l=[]:=ABj.2 λx hx=>(h x hx).elim
  subst this
  show D6 (EU (IF n) []) _
  exact tR rfl
 |succ d ih=>
  intro n l hd hn ⟨h1,h2⟩
  obtain⟨n,rfl⟩:∃k,n=k+1:=⟨n-1,by omega⟩
  show D6 (EU (IF n) l) _
  unfold EU
  have hc:=cst_le (d:=d) (by omega)
  have hle:=szs_le (T:=T) (d+1) l ⟨h1,h2⟩
  have ML:=cst_le hd
  let f:AP->Nat:=λs=>1+XX d s.Body+XX d s.Else
  refine XN l.length (λi (s:Int)=>s+i=((l.take i).map f).sum+l.length) (F:=λn s i=>EU.Aa _ l n s i) (by omega) (by simp) λm i s hi hs k=> ?_
  unfold EU.Aa EU.L1 EU.J1
  have hl:=XW l i f
  have hz:XX (d+1) l=(l.map f).sum:=rfl
  refine tD (λD5=>jM (by omega) ?_) λ_=>tR ?_
  . have hx:l[i]∈l:=AAi (by omega)
    have b1:=(h2 _ hx).body;have b2:=(h2 _ hx).els
    have a1:=szs_le d _ b1;have a2:=szs_le d _ b2
    have hl2:=XW l (i+1) f
    have st:=zZ (by omega) f (i:=i) (l:=l)
    refine tB (ih n _ (by omega) (by omega) b1) λv hv=>tB (ih n _ (by omega) (by omega) b2) λu hu=>k _ (by omega) ?_
    rw[DR (n:=s+v) (by omega) (by omega),DR (by omega) (by omega),st]
    show _=((((l.take i).map f).sum+(1+XX d l[i].Body+XX d l[i].Else):Nat):Int)+_
    omega
  . rw[hz]
    have:i=l.length:=by omega
    subst this
    rw[List.take_length]at hs
    omega
theorem sum_takeT {l:List CZ} {i:Nat} (h:i<l.length) (f:CZ->Nat):((l.take (i+1)).map f).sum=((l.take i).map f).sum+f l[i]:=by
 rw[← AAk h,AA9,List.sum_append];simp
theorem check60 {p:AQ} (h:MP p):D6 (Bg p) λr=>r.1=0->(p.AA.map λt=>XX 4 t.Body).sum≤60:=by
 have hd:=h.dl;have ht:=h.t
 have hc:MS 4=8421:=rfl
 have N:∀{a b:Int} {P:Prop},(a != 0)=true->D6 (some (a,b)) λr:Int×Int=>r.1=0->P:=λh=>tR λh2=>by
  simp only at h2
  rw[h2]at h
  cases h
 unfold Bg
 refine NN (sZ h) λ_=>tI (λ_=>N rfl) λ_=>NN (decls_tot h) λ_=>tI (λh=>N h) λ_=>tI (λ_=>N rfl) λ_=>NN (rE h) λ_=>tI (λh=>N h) λ_=> ?_
 let f:CZ->Nat:=λt=>XX 4 t.Body
 have hs:∀t∈p.AA,f t≤84210:=λt ht=>by have:=szs_le 4 _ (h.b t ht);show XX 4 t.Body≤_;omega
 refine XN p.AA.length (λi (s:Int)=>s=((p.AA.take i).map f).sum/\s≤i*84210) (F:=λn s i=>Bg.Aa p n s i) (by omega) (by simp) λm i s hi hs1 k=> ?_
 unfold Bg.Aa Bg.L1 Bg.J1
 refine tD (λ_=>jM (by omega) (tB (Count_eq 4 _ _ (by omega) (XR (by omega)) (h.b _ (AAi (by omega)))) λv hv=>k _ (by omega) ?_)) λl8=>tD (λ_=>N rfl) λh60=> ?_
 . have st:=sum_takeT (l:=p.AA) (i:=i) (by omega) f
   have hb:=hs _ (AAi (show i<p.AA.length by omega))
   have e:f p.AA[i]=XX 4 p.AA[i].Body:=rfl
   rw[DR (by omega) (by omega),st]
   omega
 have hi2:i=p.AA.length:=by omega
 rw[hi2,List.take_length]at hs1
 have h6:(p.AA.map f).sum≤60:=by omega
 refine XN p.AA.length (λi w=>WK p 0 (i*84210) w) (F:=λn s i=>Bg.C2 p n s i) (by omega) ⟨rfl,rfl,by simp,by simp⟩ λm i s hi hs k=> ?_
 unfold Bg.C2 Bg.L2 Bg.J2
 refine tD (λD5=>tG (by omega) λx hx=> ?_) λ_=>tR λ_=>h6
 refine tB (all_tot h 4 _ 0 (i*84210) _ _ (XR (by omega)) (by omega) (by omega) ⟨hs.p,hs.a,hs.s,hs.t⟩ (h.b x hx)) λv hv=>tI (λh=>N h) λ_=>k _ (by omega) (hv.mono (by omega))
def SN (t nv:Int) (l:List DL):Prop:=∀(j:Nat) x,l[j]? =some x->x.Thread=t/\x.Stmt=nv+j
theorem SN.app {t nv:Int} {a b:List DL} (h:SN t nv a) (g:SN t (nv+a.length) b):SN t nv (a++b):=by
 intro j x hx
 by_cases hj:j<a.length
 . rw[AAr hj]at hx;exact h j x hx
 . rw[AAt (by omega)]at hx
   have:=g _ x hx
   exact⟨this.1,by rw[this.2];omega⟩
theorem SN.one {t nv l:Int}:SN t nv [⟨t,nv,l⟩]:=by
 intro j x hx
 cases j with
 |zero=>simp at hx;subst hx;exact⟨rfl,by simp⟩
 |succ j=>simp at hx
theorem sites_ok (d:Nat):∀(n:Nat) (o:List DL) (t nv:Int) (l:List AP),d+1≤n->o.length+XX d l≤900000->(0≤nv/\nv+XX d l≤900000)->dT T d l->D6 (IG n o t nv l) λr=>∃S,r.1=o++S/\S.length=XX d l/\SN t nv S/\r.2=nv+XX d l:=by
 induction d with
 |zero=>
  intro n o t nv l hn _ _ ⟨_,h⟩
  obtain⟨n,rfl⟩:∃k,n=k+1:=⟨n-1,by omega⟩
  have:l=[]:=ABj.2 λx hx=>(h x hx).elim
  subst this
  show D6 (EV (IG n) o t nv []) _
  exact tR ⟨[],by simp,rfl,λj x hx=>by simp at hx,by simp[XX]⟩
 |succ d ih=>
  intro n o t nv l hn ho hv ⟨h1,h2⟩
  obtain⟨n,rfl⟩:∃k,n=k+1:=⟨n-1,by omega⟩
  show D6 (EV (IG n) o t nv l) _
  unfold EV
  let f:AP->Nat:=λs=>1+XX d s.Body+XX d s.Else
  have hz:XX (d+1) l=(l.map f).sum:=rfl
  refine XN l.length (λi (s:List DL×Int)=>∃S,s.1=o++S/\S.length=((l.take i).map f).sum/\SN t nv S/\s.2=nv+((l.take i).map f).sum) (F:=λm s i=>EV.Aa _ l t m s.1 s.2 i) (s0:=(o,nv)) (by omega) ⟨[],by simp,rfl,λj x hx=>by simp at hx,by simp⟩ λm i s hi hs k=> ?_
  obtain⟨S,s1,s2,s3,s4⟩:=hs
  unfold EV.Aa EV.L1 EV.J1
  refine tD (λD5=>jM (by omega) ?_) λl8=> ?_
  . have st:=zZ (l:=l) (i:=i) (by omega) f
    have hl2:=XW l (i+1) f
    have hx:l[i]∈l:=AAi (by omega)
    have hf:f l[i]=1+XX d l[i].Body+XX d l[i].Else:=rfl
    have hlen:s.1.length=o.length+((l.take i).map f).sum:=by rw[s1,AA1,s2]
    refine tC (DK (by omega)) ?_
    rw[s4,DR (n:=nv+((l.take i).map f).sum+1) (by omega) (by omega)]
    refine tB (ih n _ t _ _ (by omega) (by simp;omega) (by omega) (h2 _ hx).body) λv hv2=> ?_
    obtain⟨S2,v1,v2,v3,v4⟩:=hv2
    refine tB (ih n _ t _ _ (by omega) (by rw[v1];simp;omega) (by rw[v4];omega) (h2 _ hx).els) λu hu=> ?_
    obtain⟨S3,u1,u2,u3,u4⟩:=hu
    refine k (_,_) (by omega) ⟨S++([⟨t,nv+((l.take i).map f).sum,l[i].Ep⟩]++(S2++S3)),?_,?_,?_,?_⟩
    . simp only[u1,v1,s1,AA6]
    . simp only[AA1,AA7,ABR];omega
    . refine s3.app ?_
      rw[s2]
      refine SN.one.app ?_
      rw[show nv+((l.take i).map f).sum+(([⟨t,nv+((l.take i).map f).sum,l[i].Ep⟩]:List DL).length:Int)=nv+((l.take i).map f).sum+1 from by simp]
      refine v3.app ?_
      rw[v2,← v4];exact u3
    . simp only;rw[u4,v4,st,hf];omega
  . have hi2:i=l.length:=by omega
    subst hi2
    rw[List.take_length]at s2 s4
    exact tR ⟨S,s1,s2,s3,s4⟩
end
section
variable {T:ABq->Prop} {g h r:A5} {lo hi lo' hi':Int}
def BS (T:ABq->Prop) (R:A5->List AP->ABp A5) (l:List AP) (n:Nat):Prop:=
 ∀g,GW T g->(0≤g.next/\g.next+n≤1000000)->Kl (R g l) λr=>GV g r g.next (g.next+n)/\r.next=g.next+n
theorem U7 {l k:List Ab} {i:Nat} (h:i<l.length):(l++k)[i]? =l[i]? :=AAr h
theorem kK {l:List Ab} {x:Ab}:(l++[x])[l.length]? =some x:=by simp
theorem around_par {R:A5->List AP->ABp A5} {s:AP} {n:Nat} (hg:GW T g) (hs:lo≤g.site/\g.site<hi) (hn:0≤g.next/\g.next+n≤1000000) (hl:lo≤g.next) (hh:g.next+n≤hi) (hR:BS T R s.Body n) {a b c:Int}
 (ha:11≤a/\a≤25) (hb:11≤b/\b≤25) (ho:∀p S,p=a∨p=b->AY g.w ⟨p,c,0,0,0,S⟩=some true):Kl (Es R g s a b c) λr=>GV g r lo hi/\r.next=g.next+n:=by
 unfold Es
 refine pB (put_par (lo:=lo) (hi:=hi) ⟨by simp only;omega,ho _ _ (.inl rfl),by rw[rg0 (by simp only;omega)];simp,hs,by simp only;omega,by simp only;omega⟩ (by simp only;omega)) λv hv=> ?_
 have h1:=hR v (hg.next hv.1) (by rw[hv.2.2];exact hn)
 rw[hv.2.2]at h1
 refine pB h1 λu hu=> ?_
 have h2:=hv.1.trans (hu.1.mono hl hh)
 have h3:=h2.site g.site u.next
 refine pM (Oo (lo:=lo) (hi:=hi) ⟨by simp only;omega,?_,by rw[rg0 (by simp only;omega)];simp,hs,by simp only;omega,by simp only;omega⟩ (by simp only;omega)) λ_ h=>⟨h3.trans h.1,h.2.2.trans hu.2⟩
 simp only;rw[h2.w];exact ho _ _ (.inr rfl)
theorem branches_par {R:A5->List AP->ABp A5} {s:AP} {n m:Nat} (hg:GW T g) (hs:lo≤g.site/\g.site<hi) (hn:0≤g.next/\g.next+n+m≤1000000) (hl:lo≤g.next) (hh:g.next+n+m≤hi) (he:Zw 2 s.Expr) (hR:BS T R s.Body n) (hE:BS T R s.Else m)
 (h3:s.Op=3->m=0) (h0:s.Else=[]->m=0):Kl (EP R g s) λr=>GV g r lo hi/\r.next=g.next+n+m:=by
 have hL:(g.locals.length:Int)=2:=by rw[hg.l];rfl
 unfold EP
 rw[hL]
 refine pB (l5 he hg hs (by omega)) λd hd=> ?_
 have dL:(d.locals.length:Int)=2:=by rw[hd.1.l];exact hL
 rw[dL]
 refine pB (put_eq _) λq hq=> ?_
 have Jd:d.site=g.site:=hd.2.1
 have hdn:d.next=g.next:=hd.2.2
 subst hq
 have hgd:=hg.next hd.1
 have h1:=hR ⟨d.w,d.locals,d.out++[⟨10,2,0,0,0,d.site⟩],d.site,d.next⟩ ⟨hgd.w,hgd.l⟩ (by simp only;rw[hdn];omega)
 refine pB h1 λb hb=> ?_
 obtain⟨hb,hbn⟩:=hb
 simp only at hbn
 rw[hdn]at hbn
 have hb:=hb.mono (lo':=lo) (hi':=hi) (by simp only;rw[hdn];exact hl) (by simp only;rw[hdn];omega)
 have q1:=hd.1.n
 have b1:d.out.length+1≤b.out.length:=by have:=hb.n;simpa using this
 have bp:∀i,i<d.out.length+1->b.out[i]? =(d.out++[(⟨10,2,0,0,0,d.site⟩:Ab)])[i]? :=λi hi=>hb.p i (by simpa using hi)
 have bs:SG d.w lo hi b.out (d.out.length+1) b.out.length b.out.length:=by have:=hb.s;simpa using this
 have bw:b.w=g.w:=hb.w.trans hd.1.w
 have bl:b.locals=g.locals:=hb.l.trans hd.1.l
 have dw:=hd.1.w
 rw[dw]at bs
 -- a list that goes on as these do, but for the branch
 have val:∀(F:List Ab),b.out.length≤F.length->(∀i,i<d.out.length->F[i]? =b.out[i]?)->SG g.w lo hi F g.out.length d.out.length F.length:=λF f1 f2=>
  hd.1.s.frame (λi _ hi=>by rw[f2 i hi,bp i (by omega),U7 hi]) (by omega) (by omega) (by omega) (by omega)
 have pre:∀(F:List Ab),(∀i,i<d.out.length->F[i]? =b.out[i]?)->∀i,i<g.out.length->F[i]? =g.out[i]? :=λF f2 i hi=>by
  rw[f2 i (by omega),bp i (by omega),U7 (by omega),hd.1.p i hi]
 have bod:∀(F:List Ab) (c:Nat),b.out.length≤F.length->b.out.length≤c->(∀i,d.out.length<i->i<b.out.length->F[i]? =b.out[i]?)->SG g.w lo hi F (d.out.length+1) b.out.length c:=λF c f1 f3 f2=>
  bs.frame (λi h1 h2=>(f2 i (by omega) h2).symm) f1 (by omega) (by omega) f3
 have br:∀(c:Nat) (B:Nat),B≤c->LV g.w lo hi c ⟨10,2,(B:Int),0,0,d.site⟩:=λc B hB=>⟨by simp,obj0 (by simp),by rw[rg10 rfl];exact dH (x:=0) (by simp),by simp only;rw[Jd];exact hs,by simp,λ_=>by simp only;omega⟩
 have ju:∀(c:Nat) (A:Nat),A≤c->LV g.w lo hi c ⟨5,(A:Int),0,0,0,g.site⟩:=λc A hA=>⟨by simp,obj0 (by simp),by rw[rg0 (.inl rfl)];simp,hs,λ_=>by simp only;omega,by simp⟩
 have bd:b.out[d.out.length]? =some ⟨10,2,0,0,0,d.site⟩:=by rw[bp _ (by omega)];exact kK
 refine pI (λh=> ?_) λNp=>pI (λh=> ?_) λhne2=> ?_
 . -- a loop
   have hm:=h3 (eq_of_beq h)
   refine pB (put_eq _) λe he=> ?_
   subst he
   refine pE (y:=⟨10,2,0,0,0,d.site⟩) (by rw[LG];simp only;rw[U7 (by omega)];exact bd) (pR ⟨?_,by simp only;omega⟩)
   simp only
   generalize hF:(b.out++[(⟨5,(g.out.length:Int),0,0,0,g.site⟩:Ab)]).set d.out.length ⟨10,2,((b.out++[(⟨5,(g.out.length:Int),0,0,0,g.site⟩:Ab)]).length:Int),0,0,d.site⟩=F
   have fl:F.length=b.out.length+1:=by rw[← hF];simp
   have f1:∀i,i≠d.out.length->i<b.out.length->F[i]? =b.out[i]? :=λi h1 h2=>by rw[← hF,AAV (by omega),U7 h2]
   have f2:F[d.out.length]? =some ⟨10,2,((b.out.length+1:Nat):Int),0,0,d.site⟩:=by rw[← hF,AAS (by simp;omega)];simp
   have f3:F[b.out.length]? =some ⟨5,(g.out.length:Int),0,0,0,g.site⟩:=by rw[← hF,AAV (by omega)];exact kK
   refine⟨bw,bl,by simp only;omega,pre F λi hi=>f1 i (by omega) (by omega),?_⟩
   simp only
   have:=SG.back (val F (by omega) λi hi=>f1 i (by omega) (by omega)) f2 (br _ _ (by omega)) rfl (bod F F.length (by omega) (by omega) λi h1 h2=>f1 i (by omega) h2) f3 (ju _ _ (by omega)) rfl rfl
   rw[fl]at this ⊢
   exact this
 . -- without another part
   have hm:m=0:=h0 (by have:=eq_of_beq h;exact List.length_eq_zero_iff.1 (by omega))
   refine pE (y:=⟨10,2,0,0,0,d.site⟩) (by rw[LG];exact bd) (pR ⟨?_,by simp only;omega⟩)
   simp only
   generalize hF:b.out.set d.out.length ⟨10,2,(b.out.length:Int),0,0,d.site⟩=F
   have fl:F.length=b.out.length:=by rw[← hF];simp
   have f1:∀i,i≠d.out.length->F[i]? =b.out[i]? :=λi h1=>by rw[← hF,AAV (by omega)]
   have f2:F[d.out.length]? =some ⟨10,2,(b.out.length:Int),0,0,d.site⟩:=by rw[← hF,AAS (by omega)]
   refine⟨bw,bl,by simp only;omega,pre F λi hi=>f1 i (by omega),?_⟩
   simp only
   have:=((val F (by omega) λi hi=>f1 i (by omega)).app (SG.one f2 (br _ _ (by omega)) (by simp))).app (bod F F.length (by omega) (by omega) λi h1 h2=>f1 i (by omega))
   rw[fl]at this ⊢
   exact this
 . -- with another part
   refine pB (put_eq _) λf hf=> ?_
   subst hf
   refine pE (y:=⟨10,2,0,0,0,d.site⟩) (by rw[LG];simp only;rw[U7 (by omega)];exact bd) ?_
   simp only
   generalize hF:(b.out++[(⟨5,0,0,0,0,g.site⟩:Ab)]).set d.out.length ⟨10,2,((b.out++[(⟨5,0,0,0,0,g.site⟩:Ab)]).length:Int),0,0,d.site⟩=F
   have fl:F.length=b.out.length+1:=by rw[← hF];simp
   have f1:∀i,i≠d.out.length->i<b.out.length->F[i]? =b.out[i]? :=λi h1 h2=>by rw[← hF,AAV (by omega),U7 h2]
   have f2:F[d.out.length]? =some ⟨10,2,((b.out.length+1:Nat):Int),0,0,d.site⟩:=by rw[← hF,AAS (by simp;omega)];simp
   have f3:F[b.out.length]? =some ⟨5,0,0,0,0,g.site⟩:=by rw[← hF,AAV (by omega)];exact kK
   have h4:=hE ⟨b.w,b.locals,F,g.site,b.next⟩ ⟨by simp only;rw[bw];exact hg.w,bl.trans hg.l⟩ (by simp only;omega)
   refine pB h4 λi hi=> ?_
   obtain⟨hj,UP⟩:=hi
   simp only at UP
   have hj:=hj.mono (lo':=lo) (hi':=hi) (by simp only;omega) (by simp only;omega)
   have i1:b.out.length+1≤i.out.length:=by have:=hj.n;simp only[fl]at this;exact this
   have ip:∀k,k<b.out.length+1->i.out[k]? =F[k]? :=λk hk=>hj.p k (by simp only[fl];exact hk)
   have is:SG g.w lo hi i.out (b.out.length+1) i.out.length i.out.length:=by have:=hj.s;simp only[fl,bw]at this;exact this
   refine pE (y:=⟨5,0,0,0,0,g.site⟩) (by rw[LG,ip _ (by omega)];exact f3) (pR ⟨?_,by simp only;omega⟩)
   simp only
   generalize hK:i.out.set b.out.length ⟨5,(i.out.length:Int),0,0,0,g.site⟩=K
   have kl:K.length=i.out.length:=by rw[← hK];simp
   have k1:∀k,k≠b.out.length->K[k]? =i.out[k]? :=λk h1=>by rw[← hK,AAV (by omega)]
   have k2:∀k,k≠d.out.length->k<b.out.length->K[k]? =b.out[k]? :=λk h1 h2=>by rw[k1 k (by omega),ip k (by omega),f1 k h1 h2]
   have k3:K[d.out.length]? =some ⟨10,2,((b.out.length+1:Nat):Int),0,0,d.site⟩:=by rw[k1 _ (by omega),ip _ (by omega)];exact f2
   have k4:K[b.out.length]? =some ⟨5,(i.out.length:Int),0,0,0,g.site⟩:=by rw[← hK,AAS (by omega)]
   refine⟨hj.w.trans bw,hj.l.trans bl,by simp only;omega,pre K λi hi=>k2 i (by omega) (by omega),?_⟩
   simp only
   have hA:=((val K (by omega) λi hi=>k2 i (by omega) (by omega)).app (SG.one k3 (br _ _ (by omega)) (by simp))).app (bod K K.length (by omega) (by omega) λi h1 h2=>k2 i (by omega) h2)
   have hB:SG g.w lo hi K (b.out.length+1) i.out.length K.length:=is.frame (λk h1 _=>(k1 k (by omega)).symm) (by omega) (by omega) (by omega) (by omega)
   have:=hA.jump k4 (ju _ _ (by omega)) rfl rfl hB
   rw[kl]at this ⊢
   exact this
theorem szs_nil (d:Nat):XX d []=0:=by cases d<;>rfl
end
section
variable {T:ABq->Prop} {g h r:A5} {lo hi lo' hi':Int}
theorem cond_eq (h:g.w.Af=[⟨cN,0⟩]):Cw g cN=some (0,g):=by
 unfold Cw
 have hb:=B1
 obtain⟨n,hn⟩:∃n,BT=n+1:=⟨BT-1,by omega⟩
 rw[hn]
 unfold Cw.Aa Cw.L1
 rw[h]
 simp[gt]
theorem At_par {l:List ABq} {s:ABq} (hl:l.length<1000000):Kl (Ca l s) λr=>s∈l->0≤r/\r<l.length:=by
 unfold Ca
 refine pLs l.length (λi (_:Unit)=>∀j:Nat,j<i->l[j]? ≠some s) (s0:=()) (F:=λn _ i=>Ca.Aa l s n i) (λ_ _=>rfl) (by omega) (λj hj=>by omega) λn i _ hi hs k=> ?_
 unfold Ca.Aa Ca.L1 Ca.J1
 refine pD (λD5=>pE (CU (by omega)) (pI (λ_=>pR λ_=>by omega) λNp=>k () (by omega) ?_)) λl8=>pR λhm=> ?_
 . intro j hj e
   by_cases h:j<i
   . exact hs j h e
   . obtain rfl:j=i:=by omega
     rw[AAT (by omega)]at e
     rw[AAR e]at Np
     simp at Np
 . obtain⟨j,j1,j2⟩:=List.getElem_of_mem hm
   exact absurd (by rw[AAT j1,j2]) (hs j (by omega))
theorem stmt_par {R:A5->List AP->ABp A5} {s:AP} {k B E:Nat} (hg:GW T g) (hs:K8 T (k+1) s) (hn:0≤g.next/\g.next+(1+B+E)≤1000000) (hB:BS T R s.Body B) (hE:BS T R s.Else E) (b0:s.Body=[]->B=0) (e0:s.Else=[]->E=0):
 Kl (Dj (EP R) (Es R) g s) λr=>GV g r g.next (g.next+(1+B+E))/\r.next=g.next+(1+B+E):=by
 have hw:Ap (g.next+1)=g.next+1:=DR (by omega) (by omega)
 have bd:=hs.2.2.2.2.2.2.2.2.1
 have nm:=hs.2.2.2.2.2.2.2.2.2
 have nB:s.Op∉[(2:Int),3,4,5,6,7,8]->B=0:=λh=>b0 (bd.1 h)
 have nE:s.Op≠2->E=0:=λh=>e0 (bd.2 h)
 unfold Dj
 rw[hw]
 generalize hg1:A5.mk g.w g.locals g.out g.next (g.next+1)=g1
 have gw:GW T g1:=by rw[← hg1];exact⟨hg.w,hg.l⟩
 have gs:g1.site=g.next:=by rw[← hg1]
 have gn:g1.next=g.next+1:=by rw[← hg1]
 have gww:g1.w=g.w:=by rw[← hg1]
 have gl:(g1.locals.length:Int)=2:=by rw[gw.l];rfl
 have up:∀{r lo hi},GV g1 r lo hi->GV g r lo hi:=λh=>by rw[← hg1]at h;exact⟨h.w,h.l,h.n,h.p,h.s⟩
 have si:g.next≤g1.site/\g1.site<g.next+(1+B+E):=by rw[gs];omega
 -- one instruction
 have P:∀i:Ab,s.Op∉[(2:Int),3,4,5,6,7,8]->LV g1.w g.next (g.next+(1+B+E)) (g1.out.length+1) ⟨i.Op,i.A,i.B,i.C,i.N,g1.site⟩->i.Op≠5->Kl ((A8 g1 i).bind λv=>some v) λr=>GV g r g.next (g.next+(1+B+E))/\r.next=g.next+(1+B+E):=by
  intro i h1 h2 h3
  have z1:=nB h1;have z2:=nE (by intro h;rw[h]at h1;simp at h1)
  exact pM (Oo h2 h3) λr h=>⟨up h.1,by rw[h.2.2,gn];omega⟩
 have A:∀{a b c:Int},s.Op≠2->11≤a/\a≤25->11≤b/\b≤25->(∀p S,p=a∨p=b->AY g1.w ⟨p,c,0,0,0,S⟩=some true)->Kl ((Es R g1 s a b c).bind λv=>some v) λr=>GV g r g.next (g.next+(1+B+E))/\r.next=g.next+(1+B+E):=by
  intro a b c h2 ha hb ho
  have z2:=nE h2
  exact pB (around_par (lo:=g.next) (hi:=g.next+(1+B+E)) gw si (by omega) (by omega) (by omega) hB ha hb ho) λr h=>pR ⟨up h.1,by rw[h.2,gn];omega⟩
 have lk:g.w.AG=bV:=hg.w.l
 have j1:∀b,(b=true->s.Op=2∨s.Op=3)->(b=false->s.Op≠1/\s.Op≠2/\s.Op≠3)->Kl (Dj.J1 (EP R) (Es R) g s b) λr=>GV g r g.next (g.next+(1+B+E))/\r.next=g.next+(1+B+E):=by
  intro b hb rZ;unfold Dj.J1
  rw[hw,hg1]
  refine pI (λh=> ?_) λh0=> ?_
  . have ho:=hb h
    have he:Zw 2 s.Expr:=hs.2.2.1.resolve_right λh=>h.1 (by rcases ho with h|h<;>simp[h])
    exact pB (branches_par (lo:=g.next) (hi:=g.next+(1+B+E)) gw si (by omega) (by omega) (by omega) he hB hE (λh=>nE (by omega)) e0) λr h=>pR ⟨up h.1,by rw[h.2,gn];omega⟩
  have n0:=rZ h0
  refine pI (λh=> ?_) λn4=>pI (λh=> ?_) λn5=>pI (λh=> ?_) λn6=>pI (λh=> ?_) λn7=>pI (λh=> ?_) λn8=> ?_
  . have h:=eq_of_beq h
    rw[lk]
    rcases nm.2.1 h with h1|h1<;>rw[h1]
    . exact pE (y:=0) (by decide +kernel) (A (by omega) (by omega) (by omega) λp S hp=>objM (by simp only;omega) (y:=⟨⟨#[109]⟩,false⟩) (by rw[gww,lk];rfl) rfl)
    . exact pE (y:=1) (by decide +kernel) (A (by omega) (by omega) (by omega) λp S hp=>objM (by simp only;omega) (y:=⟨⟨#[110]⟩,false⟩) (by rw[gww,lk];rfl) rfl)
  . have h:=eq_of_beq h
    rw[lk,nm.2.2.1 (.inl h)]
    exact pE (y:=2) (by decide +kernel) (A (by omega) (by omega) (by omega) λp S hp=>objR (by simp only;omega) (y:=⟨⟨#[114]⟩,true⟩) (by rw[gww,lk];rfl) rfl)
  . have h:=eq_of_beq h
    rw[lk,nm.2.2.1 (.inr h)]
    exact pE (y:=2) (by decide +kernel) (A (by omega) (by omega) (by omega) λp S hp=>objR (by simp only;omega) (y:=⟨⟨#[114]⟩,true⟩) (by rw[gww,lk];rfl) rfl)
  . have h:=eq_of_beq h
    exact A (by omega) (by omega) (by omega) λp S hp=>obj0 (by rcases hp with h|h<;>simp[h])
  . have h:=eq_of_beq h
    exact A (by omega) (by omega) (by omega) λp S hp=>obj0 (by rcases hp with h|h<;>simp[h])
  simp only[beq_eq_false_iff_ne,ne_eq]at n4 n5 n6 n7 n8
  have KX:s.Op∉[(2:Int),3,4,5,6,7,8]:=by simp;omega
  have nl:∀{p c e:Int},11≤p/\p≤25->AY g1.w ⟨p,c,0,0,0,g1.site⟩=some true->LV g1.w g.next (g.next+(1+B+E)) (g1.out.length+1) ⟨p,c,0,0,0,g1.site⟩:=λh1 h2=>
   ⟨by simp only;omega,h2,by rw[rg0 (by simp only;omega)];simp,si,by simp only;omega,by simp only;omega⟩
  have hc:g1.w.Af=[⟨cN,0⟩]:=by rw[gww];exact hg.w.d
  have GX:(g1.w.Af.length:Int)=1:=by rw[hc];rfl
  refine pI (λh=> ?_) λn9=>pI (λh=> ?_) λn10=>pI (λh=> ?_) λn11=>pI (λh=> ?_) λn12=>pI (λh=> ?_) λn13=>pI (λh=> ?_) λn14=>pI (λh=> ?_) λn15=> ?_
  . rw[hs.2.2.2.1 (by simp[eq_of_beq h])]
    exact pE (cond_eq hc) (P ⟨21,0,0,0,0,0⟩ KX (nl (e:=0) (by simp) (objC (.inl rfl) (by simp only;omega))) (by simp))
  . rw[hs.2.2.2.1 (by simp[eq_of_beq h])]
    exact pE (cond_eq hc) (P ⟨22,0,0,0,0,0⟩ KX (nl (e:=0) (by simp) (objC (.inr (.inl rfl)) (by simp only;omega))) (by simp))
  . rw[hs.2.2.2.1 (by simp[eq_of_beq h])]
    exact pE (cond_eq hc) (P ⟨23,0,0,0,0,0⟩ KX (nl (e:=0) (by simp) (objC (.inr (.inr rfl)) (by simp only;omega))) (by simp))
  . refine pB (At_par (by have:=hg.w.n;omega)) λv hv=> ?_
    have:=hv (hg.w.t _ (nm.2.2.2.1 (.inl (eq_of_beq h))))
    exact P ⟨24,v,0,0,0,0⟩ KX (nl (e:=0) (by simp) (objT (.inl rfl) (by simp only;rw[gww];exact this))) (by simp)
  . refine pB (At_par (by have:=hg.w.n;omega)) λv hv=> ?_
    have:=hv (hg.w.t _ (nm.2.2.2.1 (.inr (eq_of_beq h))))
    exact P ⟨25,v,0,0,0,0⟩ KX (nl (e:=0) (by simp) (objT (.inr rfl) (by simp only;rw[gww];exact this))) (by simp)
  . have h:=eq_of_beq h
    have he:Zw 2 s.Expr:=hs.2.2.1.resolve_right λq=>q.1 (by simp[h])
    have z1:=nB KX;have z2:=nE (by omega)
    rw[show(g.locals.length:Int)=2 from by rw[hg.l];rfl]
    refine pB (l5 (lo:=g.next) (hi:=g.next+(1+B+E)) he gw si (by omega)) λv hv=> ?_
    have hf:v.w.AK=[⟨#[102]⟩]:=by rw[hv.1.w,gww];exact hg.w.f
    rw[hf,nm.2.2.2.2.1 h]
    refine pE (y:=0) (by decide +kernel) (pM (Oo ⟨by simp,obj26 rfl (by rw[hf];simp),by rw[rg26 rfl];exact dH (x:=0) (by simp),by rw[hv.2.1];exact si,by simp,by simp⟩ (by simp)) λr h=>⟨up (hv.trans h).1,by rw[h.2.2,hv.2.2,gn];omega⟩)
  . have h:=eq_of_beq h
    have hn:=nm.2.2.2.2.2 h
    rw[hg.l,hg.w.f,hn.1,hn.2]
    refine pE (y:=0) (by decide +kernel) (pE (y:=0) (by decide +kernel) (P ⟨27,0,0,0,0,0⟩ KX ⟨by simp,obj27 rfl (by rw[gww,hg.w.f];simp),by rw[rg27 rfl];exact dH (x:=0) (by simp),si,by simp,by simp⟩ (by simp)))
  . have:=hs.1
    simp only[beq_eq_false_iff_ne,ne_eq]at n9 n10 n11 n12 n13 n14 n15
    omega
 refine pI (λh=> ?_) λn1=>pI (λh=>j1 _ (λ_=>.inl (eq_of_beq h)) λh'=>by rw[h']at h;cases h) λn2=>j1 _ (λh=>.inr (eq_of_beq h)) λh=>⟨by simpa using n1,by simpa using n2,by simpa using h⟩
 have h:=eq_of_beq h
 have z1:=nB (by rw[h];decide);have z2:=nE (by omega)
 exact pB (assign_par (lo:=g.next) (hi:=g.next+(1+B+E)) gw si hs h) λr h=>pR ⟨up h.1,by rw[h.2.2,gn];omega⟩
theorem stmts_par (d:Nat):∀(n:Nat) (l:List AP),3*d+1≤n->dT T d l->BS T (E4 n) l (XX d l):=by
 induction d with
 |zero=>
  intro n l hn ⟨_,h⟩ g hg hx
  obtain⟨n,rfl⟩:∃k,n=k+1:=⟨n-1,by omega⟩
  have:l=[]:=ABj.2 λx hx=>(h x hx).elim
  subst this
  show Kl (some g) _
  exact pR ⟨GV.refl,by simp[XX]⟩
 |succ d ih=>
  intro n l hn ⟨h1,h2⟩ g hg hx
  obtain⟨n,rfl⟩:∃k,n=k+3:=⟨n-3,by omega⟩
  show Kl (Cr (Dj (EP (E4 n)) (Es (E4 n))) g l) _
  unfold Cr
  let f:AP->Nat:=λs=>1+XX d s.Body+XX d s.Else
  have hz:XX (d+1) l=(l.map f).sum:=rfl
  refine pLs l.length (λi s=>GV g s g.next (g.next+((l.take i).map f).sum)/\s.next=g.next+((l.take i).map f).sum) (F:=λm s i=>Cr.Aa _ l m s i) (λ_ _=>rfl) (by omega) ⟨GV.refl,by simp⟩ λm i s hi hs k=> ?_
  obtain⟨s1,s2⟩:=hs
  unfold Cr.Aa Cr.L1
  refine pD (λD5=>pE (CU (by omega)) ?_) λl8=> ?_
  . have st:=zZ (l:=l) (i:=i) (by omega) f
    have hl2:=XW l (i+1) f
    have Qg:l[i]∈l:=AAi (by omega)
    have hf:f l[i]=1+XX d l[i].Body+XX d l[i].Else:=rfl
    refine pB (stmt_par (hg.next s1) (h2 _ Qg) (by rw[s2];omega) (ih n _ (by omega) (h2 _ Qg).body) (ih n _ (by omega) (h2 _ Qg).els) (λh=>by rw[h];exact szs_nil d) λh=>by rw[h];exact szs_nil d) λv hv=>k _ (by omega) ?_
    rw[s2]at hv
    refine⟨(s1.mono (by omega) (by omega)).trans (hv.1.mono (by omega) (by omega)),by rw[hv.2];omega⟩
  . have:i=l.length:=by omega
    subst this
    rw[List.take_length]at s1 s2
    exact pR ⟨s1,s2⟩
theorem gX {l:List Ab} {a b:Nat} (hl:l.length≤8000000) (hb:b≤l.length):∀(n fuel i k m:Nat),UI l a b n k m->Ev l m->n+i≤l.length->l.length+1<fuel+i->CP.Aa l fuel k i=some true:=by
 intro n
 induction n with
 |zero=>
  intro fuel i k m r ⟨x,x1,x2⟩ h1 h2
  cases r
  obtain⟨fuel,rfl⟩:∃f,fuel=f+1:=⟨fuel-1,by omega⟩
  have hk:=(AAQ.1 x1).1
  unfold CP.Aa CP.L1 CP.J1
  rw[BC (by omega),Ac (by omega),AAX (by simp;omega),LG,x1,AAO,PO,x2]
  rfl
 |succ n ih=>
  intro fuel i k m ⟨hk,j,⟨x,x1,x2,x3⟩,r⟩ ev h1 h2
  obtain⟨fuel,rfl⟩:∃f,fuel=f+1:=⟨fuel-1,by omega⟩
  unfold CP.Aa CP.L1 CP.J1 CP.J2
  have hk:=(AAQ.1 x1).1
  rw[BC (by omega),Ac (by omega),AAX (by simp;omega),LG,x1,AAO,PO,x2,AAO,Ao (by omega)]
  have:=ih fuel (i+1) j m r ev (by omega) (by omega)
  rcases x3 with⟨h5,hA⟩|⟨h5,rfl⟩
  . rw[AAX (by simp),AAY (by simpa using h5),hA];exact this
  . rw[AAX (by simp),AAX (by simpa using h5),Ao (by omega)];exact this
structure VO (w:AD) (t:Int) (c:An):Prop where
 r:2≤c.Br/\c.Br≤32
 n:∃out lo hi,c.A1=out++[⟨28,0,0,0,0, -1⟩]/\SG w lo hi out 0 out.length out.length/\(∀k,lo≤k->k<hi->∃y,gt w.A7 k=some y/\y.Thread=t)
 g:∀x∈c.A1,∀y∈rg x,y<c.Br
theorem objE {w:AD} {x:Ab} (h:x.Op=28):AY w x=some true:=by
 simp[AY,AY.J3,AY.J5,AY.J7,AY.J8,h]
theorem qR {w:AD} {t:Int} {c:An} (hc:c.A1.length≤8000000) (hv:VO w t c):AZ w t c=some true:=by
 obtain⟨⟨r1,r2⟩,⟨out,lo,hi,o1,o2,o3⟩,hg⟩:=hv
 have hl:c.A1.length=out.length+1:=by rw[o1];simp
 have hb:=B1
 -- an instruction
 have hi2:∀(i:Nat) x,c.A1[i]? =some x->(i<out.length/\out[i]? =some x)∨i=out.length/\x=⟨28,0,0,0,0, -1⟩:=by
  intro i x hx
  rw[o1]at hx
  by_cases h:i<out.length
  . rw[U7 h]at hx;exact .inl ⟨h,hx⟩
  . have:=(AAQ.1 hx).1
    simp at this
    obtain rfl:i=out.length:=by omega
    rw[kK]at hx;cases hx;exact .inr ⟨rfl,rfl⟩
 have wQ:c.A1[out.length]? =some ⟨28,0,0,0,0, -1⟩:=by rw[o1];exact kK
 have land:∀i:Nat,i<c.A1.length->CP c.A1 (i:Int)=some true:=by
  intro i hi
  have fr:∀{n k m},UI out 0 out.length n k m->UI c.A1 0 out.length n k m:=λr=>r.frame (λj _ hj=>by rw[o1,U7 hj]) (by omega) (by omega)
  have ee:Ev c.A1 out.length:=⟨_,wQ,rfl⟩
  unfold CP
  by_cases h:i<out.length
  . rcases o2.f i (by omega) h with⟨n,m,r,m1,⟨x,x1,x2⟩,hn⟩|⟨n,r,hn⟩
    . exact gX hc (by omega) n BT 0 i m (fr r) ⟨x,by rw[o1,U7 m1.2];exact x1,x2⟩ (by omega) (by omega)
    . exact gX hc (by omega) n BT 0 i _ (fr r) ee (by omega) (by omega)
  . obtain rfl:i=out.length:=by omega
    exact gX (a:=0) (b:=0) hc (by omega) 0 BT 0 _ _ rfl ee (by omega) (by omega)
 have key:D6 (AZ w t c) λb=>b=true:=by
  unfold AZ
  refine tD (λh=>by omega) λ_=>tD (λh=>by omega) λ_=> ?_
  rw[show((c.A1.length:Int)==0)=false from beq_eq_false_iff_ne.2 (by omega)]
  unfold AZ.J1
  refine tI (λh=>by cases h) λ_=>XN c.A1.length (λ_ (_:Unit)=>True) (s0:=()) (F:=λn _ i=>AZ.Aa c t w n i) (by omega) trivial λn i _ hi _ k=> ?_
  unfold AZ.Aa AZ.L1 AZ.J6
  refine tD (λD5=>jM (by omega) ?_) λ_=>tR rfl
  have hx:c.A1[i]? =some c.A1[i]:=AAT (by omega)
  have hxm:c.A1[i]∈c.A1:=AAi (by omega)
  generalize c.A1[i]=x at hx hxm
  have ln:CP c.A1 (i:Int)=some true:=land i (by omega)
  have wl:Ap ((c.A1.length:Int)-1)=out.length:=by rw[DR (by omega) (by omega)];omega
  -- the registers
  have j4:D6 (AZ.J4 (AZ.Aa c t w n) c i x false) λb=>b=true:=by
   unfold AZ.J4
   refine tI (λh=>by cases h) λ_=>tE (GF x).1 (XN (rg x).length (λ_ (_:Unit)=>True) (s0:=()) (F:=λn _ i=>AZ.C2 _ c _ (rg x) n i) (by have:=(GF x).2;omega) trivial λm j _ hj _ k2=> ?_)
   unfold AZ.C2 AZ.L2 AZ.J5
   refine tD (λ_=>jM (by omega) ?_) λ_=>k () (by omega) trivial
   have hy:(rg x)[j]∈rg x:=AAi (by omega)
   have h0:0≤(rg x)[j]:=by
    rcases hi2 i x hx with⟨h,h'⟩|⟨_,rfl⟩
    . exact((o2.i i x (by omega) h h').g _ hy).1
    . have:=List.length_pos_of_mem hy
      rw[rg0 (.inr (.inr rfl))]at this
      cases this
   exact tE (PX ⟨h0,hg x hxm _ hy⟩) (tI (λh=>by cases h) λ_=>k2 () (by omega) trivial)
  rcases hi2 i x hx with⟨hlt2,h'⟩|⟨he,rfl⟩
  . have lv:=o2.i i x (by omega) hlt2 h'
    have lo':=lv.o
    have n28:x.Op≠28:=by omega
    refine tD (λh=>by omega) λ_=>tD (λh=>by omega) λ_=> ?_
    rw[wl,show(x.Op==28)=false from by simpa using n28,show((i:Int)==(out.length:Int))=false from by simp;omega]
    refine tI (λh=>by cases h) λ_=>tE lv.ob (tI (λh=>by cases h) λ_=>tE ln ?_)
    unfold AZ.J2
    obtain⟨y,y1,y2⟩:=o3 _ lv.s.1 lv.s.2
    refine tI (λh=>by cases h) λ_=>tI (λh=>absurd (eq_of_beq h) n28) λ_=>tI (λ_=> ?_) λh=>by simp at h;omega
    refine tE (PX (gt_in y1)) (tI (λh=>by cases h) λ_=>tE y1 ?_)
    rw[y2,show(t != t)=false from by simp]
    unfold AZ.J3
    refine tI (λh=>by cases h) λ_=>tI (λh5=> ?_) λ_=>tI (λh10=> ?_) λ_=>j4
    . have:=lv.j (eq_of_beq h5)
      refine tE (PX (by omega)) (tI (λh=>by cases h) λ_=>tI (λh10=> ?_) λ_=>j4)
      rw[eq_of_beq h5]at h10;cases h10
    . have:=lv.b (eq_of_beq h10)
      exact tE (PX (by omega)) j4
  . refine tD (λh=>by simp at h) λ_=>tD (λh=>by simp at h) λ_=> ?_
    rw[wl,he]
    simp only[ABB,Bool.not_true]
    refine tI (λh=>by cases h) λ_=>tE (objE rfl) (tI (λh=>by cases h) λ_=>tE (he▸ln) ?_)
    rw[he]at j4
    unfold AZ.J2 AZ.J3
    refine tI (λh=>by cases h) λ_=>tI (λ_=>tI (λh=>by cases h) λ_=>tI (λh=>by cases h) λ_=>tI (λh=>by cases h) λ_=>tI (λh=>by cases h) λ_=>tI (λh=>by cases h) λ_=>j4) λh=>by cases h
 obtain⟨b,hb,rfl⟩:=key
 exact hb
end
section
theorem sitesS_in {nt:Nat} {i:Int} (hi:i<nt):∀(S:List DL) (m:Int) (R:List DL),SN i m S->HC nt i m (S++R)=HC nt i (m+S.length) R:=by
 intro S
 induction S with
 |nil=>intro m R _;simp
 |cons x r ih=>
  intro m R h
  obtain⟨h1,h2⟩:=h 0 x rfl
  have h3:SN i (m+1) r:=λj y hy=>by
   have:=h (j+1) y (by simpa using hy)
   exact⟨this.1,by rw[this.2];omega⟩
  rw[AA5,HC,AAX (by omega),AAX (by omega),ih _ _ h3,h2]
  simp only[AA7]
  rw[show m+((0:Nat):Int)=m from by omega,show m+1+(r.length:Int)=m+((r.length+1:Nat):Int)from by omega]
  simp
theorem sitesS_blk {nt:Nat} {i t n:Int} (hi:i<nt) (h:t<i∨t=i/\n=0) {S:List DL} (hS:SN i 0 S):∃t' n',(t'<i+1∨t'=i+1/\n'=0)/\∀R,HC nt t n (S++R)=HC nt t' n' R:=by
 rcases h with h|⟨rfl,rfl⟩
 . cases S with
   |nil=>exact⟨t,n,.inl (by omega),λ_=>rfl⟩
   |cons x r=>
    obtain⟨h1,h2⟩:=hS 0 x rfl
    have h3:SN i 1 r:=λj y hy=>by
     have:=hS (j+1) y (by simpa using hy)
     exact⟨this.1,by rw[this.2];omega⟩
    refine⟨i,1+r.length,.inl (by omega),λR=> ?_⟩
    rw[AA5,HC,AAX (by omega),AAY (by omega),h1,sitesS_in hi _ _ _ h3,h2]
    simp
 . exact⟨t,0+S.length,.inl (by omega),λR=>sitesS_in hi _ _ _ hS⟩
def Zv (p:AQ) (i:Nat):Nat:=((p.AA.take i).map λt=>XX 4 t.Body).sum
theorem offP_succ {p:AQ} {i:Nat} (h:i<p.AA.length):Zv p (i+1)=Zv p i+XX 4 p.AA[i].Body:=sum_takeT h _
theorem offP_le {p:AQ} (h:(p.AA.map λt=>XX 4 t.Body).sum≤60) (i:Nat):Zv p i≤60:=by
 have:((p.AA.map λt=>XX 4 t.Body)).sum=Zv p i+((p.AA.drop i).map λt=>XX 4 t.Body).sum:=by
  conv=>lhs;rw[← List.take_append_drop i p.AA,AA9,List.sum_append]
  rfl
 omega
theorem offP_mono {p:AQ} {i j:Nat} (h:i≤j):Zv p i≤Zv p j:=by
 have:Zv p j=Zv p i+(((p.AA.take j).drop i).map λt=>XX 4 t.Body).sum:=by
  unfold Zv
  conv=>lhs;rw[← List.take_append_drop i (p.AA.take j),List.take_take,Nat.min_eq_left h,AA9,List.sum_append]
 omega
structure WV (p:AQ) (N:Nat) (w:AD):Prop where
 c:w.Cells=QU
 l:w.AG=bV
 d:w.Af=[⟨cN,0⟩]
 f:w.AK=[⟨#[102]⟩]
 t:w.AA=(p.AA.take N).map (·.Name)
 n:w.A7.length=Zv p N
 o:∀j k,j<N->Zv p j≤k->k<Zv p (j+1)->∃y,w.A7[k]? =some y/\y.Thread=(j:Int)
 s:∃t n:Int,(t<N∨t=N/\n=0)/\∀R,HC p.AA.length 0 0 (w.A7++R)=HC p.AA.length t n R
theorem World_ok {p:AQ} (h:MP p) (ho:∃l,Bg p=some (0,l)) (h6:(p.AA.map λt=>XX 4 t.Body).sum≤60):D6 (DD p) (WV p p.AA.length):=by
 obtain⟨l,ho⟩:=ho
 have ht:=h.t
 unfold DD
 refine tE ho (tI (λh=>by cases h) λ_=> ?_)
 have key:∀D T,G0=some D->DD.Aa ⟨D,T⟩ BT (AD.mk [] [] [] [] [] []) 0=DD.J4 ⟨D,T⟩ ⟨QU,bV,[⟨cN,0⟩],[⟨#[102]⟩],[],[]⟩:=by
  intro D T hD
  unfold G0 at hD
  obtain rfl:=AAR hD
  kernel_rfl
 rw[show DD.Aa p BT (AD.mk [] [] [] [] [] []) 0=_ from key p.Decls p.AA h.d]
 unfold DD.J4
 show D6 (DD.Gm p BT ⟨QU,bV,[⟨cN,0⟩],[⟨#[102]⟩],[],[]⟩ 0) _
 refine XN p.AA.length (λi w=>WV p i w) (F:=λn s i=>DD.Gm _ n s i) (by omega) ⟨rfl,rfl,rfl,rfl,rfl,rfl,λj k h=>by omega,0,0,.inr ⟨rfl,rfl⟩,λ_=>rfl⟩ λn i w hi hw k=> ?_
 unfold DD.Gm DD.L3 DD.J5
 refine tD (λD5=>jM (by omega) ?_) λl8=>tR ?_
 . have D5:i<p.AA.length:=by omega
   have ho1:=offP_succ D5
   have ho2:=offP_le h6 (i+1)
   have hn:=hw.n
   refine tC (DK (by rw[hw.t];simp;omega)) (tB (sites_ok 4 _ _ _ _ _ (XR (by omega)) (by omega) (by omega) (h.b _ (AAi D5))) λv hv=>k _ (by omega) ?_)
   obtain⟨S,v1,v2,v3,v4⟩:=hv
   obtain⟨t,m,t1,t2⟩:=hw.s
   obtain⟨t',m',u1,u2⟩:=sitesS_blk (nt:=p.AA.length) (i:=i) (by omega) t1 v3
   refine⟨hw.c,hw.l,hw.d,hw.f,?_,?_,?_,t',m',by omega,λR=> ?_⟩
   . simp only;rw[hw.t,← AAk D5,AA9];rfl
   . simp only;rw[v1,AA1];omega
   . intro j q hj hk1 V1
     simp only
     rw[v1]
     by_cases e:j<i
     . have:=offP_mono (p:=p) (show j+1≤i by omega)
       rw[AAr (by omega)]
       exact hw.o j q e hk1 V1
     . obtain rfl:j=i:=by omega
       rw[AAt (by omega)]
       have hk:q-w.A7.length<S.length:=by omega
       exact⟨S[q-w.A7.length],AAT hk,(v3 _ _ (AAT hk)).1⟩
   . simp only
     rw[v1,AA6,t2,u2]
 . have:i=p.AA.length:=by omega
   rw[this]at hw;exact hw
theorem WV.names {p:AQ} {w:AD} (hw:WV p p.AA.length w):w.AA=p.AA.map (·.Name):=by rw[hw.t,List.take_length]
theorem worldS_ok {p:AQ} {w:AD} (h:MP p) (h6:(p.AA.map λt=>XX 4 t.Body).sum≤60) (hw:WV p p.AA.length w):Ck w=true:=by
 obtain⟨n,n1,n2,nm⟩:=h.nm
 have e:=hw.names
 rw[nm]at e
 obtain⟨t,m,t1,t2⟩:=hw.s
 have hs:=t2 []
 rw[ABf]at hs
 have hl:p.AA.length=w.AA.length:=by rw[hw.names,AAo]
 rw[hl]at hs
 have hn:=hw.n;have h60:=offP_le h6 p.AA.length
 have h1:=hw.c;have h2:=hw.l;have h3:=hw.d;have h4:=hw.f
 obtain⟨c,l,d,f,T,S⟩:=w
 simp only at h1 h2 h3 h4 e hn hs
 subst h1 h2 h3 h4
 have hc:AR QU=some ([⟨#[120]⟩,⟨#[121]⟩,⟨#[118]⟩,qS],true):=by decide +kernel
 have hS:HC T.length 0 0 S=true:=hs
 have hT:T=XO.take 1∨T=XO.take 2∨T=XO.take 3∨T=XO.take 4:=by
  have:n=1∨n=2∨n=3∨n=4:=by omega
  rcases this with rfl|rfl|rfl|rfl<;>simp[e]
 unfold Ck
 simp only[hc,hS]
 have hd:decide (S.length≤60)=true:=decide_eq_true (by omega)
 rw[hd]
 rcases hT with rfl|rfl|rfl|rfl<;>(show @Eq Bool _ true;kernel_rfl)
theorem compile_ok {p:AQ} (h:MP p) (ho:∃l,Bg p=some (0,l)):D6 (BX p) λr=>CK r.1/\CB r.1=some true:=by
 obtain⟨q,hq,h60⟩:=check60 h
 have h6:(p.AA.map λt=>XX 4 t.Body).sum≤60:=by
  obtain⟨l,ho⟩:=ho
  rw[ho]at hq;cases hq;exact h60 rfl
 have ht:=h.t
 let Q:BF->Prop:=λc=>WV p p.AA.length c.World/\c.AA.length=p.AA.length/\∀(j:Nat) t,c.AA[j]? =some t->VO c.World j t
 have par:Kl (BX p) λr=>Q r.1:=by
  obtain⟨l,oS⟩:=ho
  unfold BX
  refine pE oS (pI (λh=>by cases h) λ_=>pB (pA (pT (World_tot h ⟨l,oS⟩)) (pT (World_ok h ⟨l,oS⟩ h6))) λw hw=> ?_)
  obtain⟨mw,hw⟩:=hw
  have wf:WF (λs=>s∈p.AA.map (·.Name)) w:=⟨hw.c,hw.l,hw.d,hw.f,λs hs=>by rw[hw.names];exact hs,by rw[hw.names,AAo];exact ht⟩
  refine pLs p.AA.length (λi (s:BF×Int)=>s.1.World=w/\s.1.AA.length=i/\s.2=Zv p i/\∀(j:Nat) t,s.1.AA[j]? =some t->VO w j t) (F:=λn s i=>BX.Aa p n s.1 s.2 i) (s0:=(_,_)) (λ_ _=>rfl) (by omega) ⟨rfl,rfl,rfl,by simp⟩ λn i s hi hs k=> ?_
  obtain⟨s1,s2,s3,s4⟩:=hs
  unfold BX.Aa BX.L1 BX.J4
  refine pD (λD5=>pE (CU (by omega)) ?_) λl8=>pR ⟨by simp only;rw[s1];exact hw,by simp only;omega,by simp only;rw[s1];exact s4⟩
  have D5:i<p.AA.length:=by omega
  have hx:p.AA[i]∈p.AA:=AAi D5
  have ho1:=offP_succ D5
  have ho2:=offP_le h6 (i+1)
  have hc:cg 4=336840:=rfl
  have g0:GB (A5.mk s.1.World p.AA[i].HB [] 0 s.2) 4000000:=⟨by rw[s1];exact mw,h.l _ hx,by simp⟩
  refine pB (pA (pT (vW 4 _ _ _ (XR (by omega)) (g0.less (by omega)) (h.b _ hx))) (stmts_par 4 _ _ (XR (by omega)) (h.b _ hx) ⟨s.1.World,p.AA[i].HB,[],0,s.2⟩ ⟨by rw[s1];exact wf,h.lo _ hx⟩ (by simp only;omega))) λv hv=>pB (put_eq _) λu hu=> ?_
  obtain⟨v0,v1,v2⟩:=hv
  have v0:=v0.b
  simp only[ABR]at v0
  have hl2:(u.locals.length:Int)=2:=by rw[hu];simp only;rw[v1.l];simp only;rw[h.lo _ hx];rfl
  have Xk:u.out=v.out++[⟨28,0,0,0,0, -1⟩]:=by rw[hu]
  have sg:=v1.s
  simp only[ABR,s1,s3]at sg
  have v2':v.next=Zv p (i+1):=by rw[v2];simp only;omega
  have rb:∀y∈u.out,∀r∈rg y,0≤r/\r<32:=by
   intro y hy r hr
   rw[Xk]at hy
   rcases AAj.1 hy with hy|hy
   . obtain⟨m,m1,m2⟩:=List.getElem_of_mem hy
     exact(sg.i m y (by omega) m1 (by rw[AAT m1,m2])).g r hr
   . rw[AA4.1 hy,rg0 (.inr (.inr rfl))]at hr;cases hr
  rw[hl2]
  have wG:u.out.length<1000000000000:=by rw[Xk];simp;omega
  refine pLs u.out.length (λk (t:An)=>t.A1=u.out/\(2≤t.Br/\t.Br≤32)/\∀y∈u.out.take k,∀r∈rg y,r<t.Br) (F:=λn t k=>BX.C2 _ _ _ _ _ n t k) (λ_ _=>rfl) wG ⟨rfl,by simp,by simp⟩ λm q t hq2 ht2 k2=> ?_
  obtain⟨t1,t2,t3⟩:=ht2
  unfold BX.C2 BX.L2 BX.J2 BX.J3
  refine pD (λhlt2=>pE (CU (by omega)) ?_) λhge2=>pC λ_=>k (_,_) (by omega) ⟨s1,by simp;omega,v2',?_⟩
  . have hy:u.out[q]∈u.out:=AAi (by omega)
    have ry:=rb _ hy
    have hql:q<u.out.length:=by omega
    have tk:=AAk hql
    generalize u.out[q]=y at hy ry tk
    refine pE (GF y).1 (pLs (rg y).length (λl (t:An)=>t.A1=u.out/\(2≤t.Br/\t.Br≤32)/\(∀y∈u.out.take q,∀r∈rg y,r<t.Br)/\∀r∈(rg y).take l,r<t.Br) (F:=λn t k=>BX.Gm _ _ _ n t k) (λ_ _=>rfl) (by have:=(GF y).2;omega) ⟨t1,t2,t3,by simp⟩ λm3 q3 t' hq3 ht3 k3=> ?_)
    obtain⟨x1,x2,x3,x4⟩:=ht3
    unfold BX.Gm BX.L3 BX.J1
    refine pD (λhlt3=>pE (CU (by omega)) ?_) λhge3=>k2 _ hql ⟨x1,x2,λz hz r hr=> ?_⟩
    . have hr:(rg y)[q3]'(by omega)∈rg y:=AAi (by omega)
      have hb:=ry _ hr
      have tk3:=AAk (show q3<(rg y).length by omega)
      generalize (rg y)[q3]'(by omega)=r at hr hb tk3
      rw[DR (by omega) (by omega)]
      have hmax:∀z,(if r+1>t'.Br then r+1 else t'.Br)=z->t'.Br≤z/\r<z/\z≤32:=by
       intro z hz
       split at hz<;>omega
      generalize hz:(if r+1>t'.Br then r+1 else t'.Br)=z
      obtain⟨z1,z2,z3⟩:=hmax z hz
      refine k3 _ (by omega) ⟨x1,by simp only;omega,λy hy r hr=>by have:=x3 y hy r hr;simp only;omega,?_⟩
      rw[← tk3]
      intro a ha
      rcases AAj.1 ha with ha|ha
      . have:=x4 a ha;simp only;omega
      . rw[AA4.1 ha];exact z2
    . rw[← tk]at hz
      rcases AAj.1 hz with hz|hz
      . exact x3 z hz r hr
      . rw[AA4.1 hz]at hr
        rw[AA3 (by omega)]at x4
        exact x4 r hr
  . intro j t' oW
    simp only at oW
    by_cases hj:j<s.1.AA.length
    . rw[AAr hj]at oW;exact s4 j t' oW
    . have:=(AAQ.1 oW).1
      simp at this
      obtain rfl:j=s.1.AA.length:=by omega
      rw[show(s.1.AA++[t])[s.1.AA.length]? =some t from by simp]at oW
      obtain rfl:=AAR oW
      rw[s2]
      rw[AA3 (by omega)]at t3
      refine⟨t2,⟨v.out,_,_,by rw[t1,Xk],sg,λk k1 k2=> ?_⟩,by rw[t1];exact t3⟩
      obtain⟨k,rfl⟩:∃m:Nat,k=m:=⟨k.toNat,by omega⟩
      rw[LG]
      exact hw.o i k D5 (by omega) (by omega)
 obtain⟨r,hr,Jc⟩:=compile_tot h
 refine⟨r,hr,Jc,?_⟩
 obtain⟨q1,q2,q3⟩:=par r hr
 have hl:r.1.AA.length=r.1.World.AA.length:=by rw[q2,q1.names,AAo]
 have hn:=Jc.n
 have key:D6 (CB r.1) λb=>b=true:=by
  unfold CB
  refine tE (Ot _) ?_
  rw[worldS_ok h h6 q1]
  refine tI (λh=>by cases h) λ_=> ?_
  rw[hl,show((r.1.World.AA.length:Int) != r.1.World.AA.length)=false from by simp]
  unfold CB.J1
  refine tI (λh=>by cases h) λ_=>XN r.1.AA.length (λ_ (_:Unit)=>True) (s0:=()) (F:=λn _ i=>CB.Aa r.1 n i) (by omega) trivial λn i _ hi _ k=> ?_
  unfold CB.Aa CB.L1 CB.J2
  refine tD (λD5=>jM (by omega) ?_) λ_=>tR rfl
  refine tE (qR (Jc.i _ (AAi (by omega))) (q3 i _ (AAT (by omega)))) (tI (λh=>by cases h) λ_=>k () (by omega) trivial)
 obtain⟨b,hb,rfl⟩:=key
 exact hb
end
theorem Code_ok {l:List Int} (hl:l.length≤4000000000000000000) (hu:∀x∈l,0≤x/\x<256):D6 (Ma l) λc=>CK c/\CB c=some true:=by
 unfold Ma
 exact tB (Program_tot hl hu) λp hp=>tB (compile_ok hp.1 hp.2) λc hc=>tR hc
theorem Trace_wf {p s:List Int} (hp:p.length≤4000000000000000000) (hu:∀x∈p,0≤x/\x<256) (hs:s.length≤1000):D6 (IX p s) λt=>TA s.length t/\Ck t.World=true:=by
 unfold IX
 refine tB (Code_ok hp hu) λc hc=>tB (Choices_tot hs) λl hl=>tB (tP (Run_ok hc.1 (by omega)) (Q:=λr=>Ck r.1.World=true) ?_) λr hr=>tR ⟨⟨⟨by have:=hr.1.m.n;omega,hr.1.m.e,hr.1.m.w⟩,hr.1.c⟩,hr.2⟩
 obtain⟨v,h1,h2⟩:=VK hc.1
 rw[hc.2]at h1
 have hv:=h2 (AAR h1).symm
 unfold LN
 exact pE hc.2 (pI (λh=>by cases h) λ_=>pB' λ_=>pB' λ_=>pR hv.w)
theorem sQ {n:Nat} {t:Az} (ht:TA n t) (hn:n≤400) (hw:Ck t.World=true):Io t=(0,0):=by
 have:=ht.m.n
 unfold Io
 rw[AAX (by omega),AAY hw,ht.c]
theorem TA.at {n:Nat} {t:Az} (h:TA n t) (hw:Ck t.World=true) (hn:n≤400):AT t:=
 AT.of (λe he=>(h.m.e e he).ok) (by rw[sQ h hn hw])
theorem made_at {p s:List Int} (hp:p.length≤200) (hu:∀x∈p,0≤x/\x<256) (hs:s.length≤400):D6 (IX p s) λt=>AT t:=
 tM (Trace_wf (by omega) hu (by omega)) λt ht=>ht.1.at ht.2 hs
theorem SameInts_ne_loop (a b:List Int) (hl:a.length≤1000000000) (hab:a.length=b.length):∀n i:Nat,i≤a.length->a.length<n+i->Cb.Aa a b n (i:Int)=some (decide (a.drop i=b.drop i))
 |0,i,h1,h2=>by omega
 |n+1,i,h1,h2=>by
  rw[Cb.Aa]
  unfold Cb.L1
  by_cases hi:i<a.length
  . rw[BC (by omega),CU hi,AAO,CU (by omega),AAO,Ao (by omega),SameInts_ne_loop a b hl hab n (i+1) (by omega) (by omega),E6 hi,E6 (l:=b) (i:=i) (by omega)]
    by_cases e:a[i]=b[i]
    . rw[AAX (by simp[e]),e];simp only[ABg,true_and]
    . rw[AAY (by simpa using e)]
      rw[show decide (a[i]::a.drop (i+1)=b[i]::b.drop (i+1))=false from decide_eq_false λh=>e (List.cons.inj h).1]
  . rw[Ac (by omega),GM hi,GM (l:=b) (i:=i) (by omega)];rfl
theorem SameInts_eq (a b:List Int) (hl:a.length≤1000000000) (hab:a.length=b.length):Cb a b=some (decide (a=b)):=by
 unfold Cb
 rw[AAX (by simp[hab])]
 have:=SameInts_ne_loop a b hl hab BT 0 (by omega) (by have:=B1;omega)
 rwa [AAq,AAq]at this
theorem poss_cell {wv:AD} {s:AB} {x:AH} (h:Kf wv s x=true) (h4:x.Kind=4):Ee x.Obj wv.Cells.length=true:=by
 unfold Kf DC at h
 simp only[AAP]at h
 have:=h.2.2.1.2.2.1
 rw[h4]at this
 simpa[CF]using this
theorem snapS_at {t:Az} (h:AT t) {n:Nat} (hn:n≤t.AF.length):snapS t (n:Int)=(Gw t n,0):=by
 unfold snapS
 rw[h.check,AAX (by simp),AAX (by omega),ABE]
theorem WindowSnapshots_tot {p s:List Int} {f:Int} (hu:∀x∈p,0≤x/\x<256) (hf:0≤f/\f<256):Bo p s f=some true:=by
 have hb:=B1
 unfold Bo
 have key:∀b,(b=false->p.length≤200/\s.length≤60)->Bo.J1 f p s b=some true:=by
  intro b dK
  unfold Bo.J1
  cases b with
  |true=>rfl
  |false=>
   obtain⟨g1,g2⟩:=dK rfl
   obtain⟨t,ht,h⟩:=made_at (s:=s) g1 hu (by omega)
   have hl:=h.l
   rw[AAX (by simp),ht,AAO]
   by_cases h0:t.AF.length=0
   . rw[AAY (by simp[h0]),AAL];rfl
   . rw[AAX (by simp;exactλe=>h0 (by rw[e];rfl)),AAY (by omega)]
     obtain⟨k,hk,hkl⟩:∃k:Nat,(Ap f).tmod (t.AF.length:Int)=(k:Int)/\k<t.AF.length:=by
      obtain⟨m,rfl⟩:∃m:Nat,f=m:=⟨f.toNat,by omega⟩
      rw[DR (n:=(m:Int)) (by omega) (by omega)]
      exact⟨m%t.AF.length,by rw[Int.ofNat_tmod],Nat.mod_lt _ (by omega)⟩
     rw[hk,q8 t h.e,AAO,Ao (by omega),q8 t h.e,AAO,snapS_at h (by omega),snapS_at h (by omega)]
     have hp:=h.poss hkl
     have hs1:=h.small (i:=k) (by omega);have sG:=h.small (i:=k+1) (by omega)
     have hS:=OH hkl
     obtain⟨a,_⟩:=eU h.w h.l h.c k (by omega)
     obtain⟨f1,f2,f3,f4⟩:=Nn a.f
     have ht:=Pc hp
     obtain⟨t1,t2⟩:=B9.1 ht
     have sJ:(Gw t (k+1)).Count=(Gw t k).Count.set t.AF[k].Thread.toNat (Ap (ix (Gw t k).Count t.AF[k].Thread+1)):=by rw[hS];rfl
     have BR:(Gw t (k+1)).Cells=if t.AF[k].Kind=4 then(Gw t k).Cells.set t.AF[k].Obj.toNat t.AF[k].Value else(Gw t k).Cells:=by rw[hS];rfl
     have hcv:=a.c _ ht
     have hcb:=Ly (t.AF.take k) t.AF[k].Thread
     rw[List.length_take_of_le (by omega)]at hcb
     have Np:(Gw t k).Count≠(Gw t (k+1)).Count:=by
      intro e
      have:=congrArg (λl=>ix l t.AF[k].Thread) (e.trans sJ)
      rw[show ix ((Gw t k).Count.set t.AF[k].Thread.toNat (Ap (ix (Gw t k).Count t.AF[k].Thread+1))) t.AF[k].Thread=Ap (ix (Gw t k).Count t.AF[k].Thread+1)from by unfold ix;rw[AAS (by omega)];rfl,DR (by omega) (by omega)]at this
      omega
     have l1:(Gw t (k+1)).Count.length=(Gw t k).Count.length:=by rw[sJ,List.length_set]
     have l2:(Gw t (k+1)).Cells.length=(Gw t k).Cells.length:=by rw[BR];split<;>simp
     generalize hA:Gw t k=A at*
     generalize hB:Gw t (k+1)=B at*
     simp only[l1,l2,f2,bne_self_eq_false,AAW,AAe]
     unfold Bo.J2
     rw[AAX (by simp),hk,CU hkl,AAO]
     generalize t.AF[k]=x at*
     have X6:=hs1.c;have hn1:=hs1.n
     have hJ7:Bo.J7 t (A,0) (B,0)=some true:=by
      unfold Bo.J7 Bo.J8
      rw[q8 t h.e,AAO,SameInts_eq _ _ (by simp;omega) (by simp[l1]),AAO,AAL]
      have e1:(snapS t (Ap ((t.AF.length:Int)+1))).2=1:=by
       unfold snapS
       rw[h.check,AAX (by simp),AAY (.inr (by rw[Ao (by omega)];omega))]
      rw[e1,AAY (by decide),decide_eq_false Np];rfl
     have hJ5:Bo.J5 t (A,0) (B,0) x=some true:=by
      unfold Bo.J5
      refine Nq (L:=Bo.C2 t (A,0) (B,0) x) (N:=A.Count.length) (λm i hi=> ?_) (λm=> ?_) BT 0 (by omega) (by omega)
      . rw[Bo.C2];unfold Bo.L2 Bo.J6
        rw[BC (by simp;omega),CU (l:=B.Count) (by omega),AAO,CU hi,AAO,Ao (by omega)]
        by_cases e:x.Thread=(i:Int)
        . have e2:B.Count[i]'(by omega)=Ap (A.Count[i]+1):=by
           have:ix A.Count x.Thread=A.Count[i]:=by rw[e];exact sA hi
           simp only[sJ,this,show x.Thread.toNat=i from by omega,List.getElem_set_self]
          rw[e2,e];simp
        . have e2:B.Count[i]'(by omega)=A.Count[i]:=by
           simp only[sJ];rw[List.getElem_set_ne (by omega)]
          rw[e2];simp
      . rw[Bo.C2];unfold Bo.L2
        rw[Ac (by simp)];exact hJ7
     refine Nq (L:=Bo.Aa t (A,0) (B,0) x) (N:=A.Cells.length) (λm i hi=> ?_) (λm=> ?_) BT 0 (by omega) (by omega)
     . rw[Bo.Aa];unfold Bo.L1 Bo.J3 Bo.J4
       rw[BC (by simp;omega),CU (l:=B.Cells) (by omega),CU hi,Ao (by omega)]
       simp only[AAO]
       by_cases h4:x.Kind=4
       . obtain⟨o1,o2⟩:=B9.1 (poss_cell hp h4)
         rw[AAY h4]at BR
         by_cases e:x.Obj=(i:Int)
         . have e2:B.Cells[i]'(by omega)=x.Value:=by simp only[BR,show x.Obj.toNat=i from by omega,List.getElem_set_self]
           rw[e2,e,h4];simp
         . have e2:B.Cells[i]'(by omega)=A.Cells[i]:=by simp only[BR];rw[List.getElem_set_ne (by omega)]
           rw[e2,h4];simp[e]
       . rw[AAX h4]at BR
         have e2:B.Cells[i]'(by omega)=A.Cells[i]:=by simp only[BR]
         rw[e2];simp[h4]
     . rw[Bo.Aa];unfold Bo.L1
       rw[Ac (by simp)];exact hJ5
 by_cases g1:(p.length:Int)>200
 . rw[BC g1];exact key _ (λh=>by cases h)
 . rw[Ac g1]
   exact key _ λh=>by have:=of_decide_eq_false h;omega
theorem pS {α β:Type} {o:ABp α} {f:α->ABp β} {R:β->Prop} (k:∀x,o=some x->Kl (f x) R):Kl (o.bind f) R:=pB (Q:=λx=>o=some x) (λ_ e=>e) k
theorem vX {α:Type} {l:List α} {i:Int} {x:α} (h:gt l i=some x):(0≤i/\i<l.length)/\l[i.toNat]? =some x:=by
 unfold gt at h
 split at h
 . have:=(AAQ.1 h).1
   exact⟨by omega,h⟩
 . cases h
def Lnd (l:List Ab):Nat->Int->Prop
 |0,_=>False
 |n+1,a=>∃x,gt l a=some x/\(UF x.Op=false∨UF x.Op=true/\Lnd l n (if x.Op=5 then x.A else Ap (a+1)))
def OpN (x:Ab):Prop:=(x.Op=3->x.N=4∨x.N=5)/\(x.Op=4->6≤x.N/\x.N≤18)
def VSi (c:An) (k:Nat) (x:Ab):Prop:=Lnd c.A1 (c.A1.length+1) (k:Int)/\(x.Op=28↔k+1=c.A1.length)/\(x.Op=10->0≤x.B/\x.B<c.A1.length)/\OpN x
def VS (c:An):Prop:=∀(k:Nat) x,c.A1[k]? =some x->VSi c k x
theorem SC {n:Int} (h:1≤n/\n≤100):Cj n=some n:=by
 unfold Cj Cj.J1
 rw[AAX (by simp;omega),AAX (by simp;omega)]
theorem mH {n:Int} (h:n=4∨n=5) (a:Int):Kl (Hq n a) λr=>r.2=true:=by
 unfold Hq
 refine pI (λ_=>pR rfl) λh4=>pI (λ_=>pS λ_ _=>pR rfl) λh5=> ?_
 simp at h4 h5;omega
theorem eC {n:Int} (h:6≤n/\n≤18) (a b:Int):Kl (DW n a b) λr=>r.2=true:=by
 unfold DW DW.J1 DW.J2
 repeat' first|exact pR rfl|refine pS λ_ _=> ?_|refine pC λ_=> ?_|refine pI (λ_=> ?_) λ_=> ?_
 simp at *;omega
theorem zV {i:Ab} {s:AL} (hg:∀y∈rg i,0≤y/\y<s.Br.length) (ho:UF i.Op=true) (hn:OpN i):Kl (B4 i s) λr=>(r.2=true/\r.1.AF=s.AF)/\r.1.PC=(if i.Op=5 then i.A else Ap (s.PC+1))/\r.1.Br.length=s.Br.length/\r.1.Bn.length=s.Bn.length:=by
 have j3:∀v ok t,ok=true->i.Op≠5->Kl (B4.J3 i s v ok t) λr=>(r.2=true/\r.1.AF=s.AF)/\r.1.PC=(if i.Op=5 then i.A else Ap (s.PC+1))/\r.1.Br.length=s.Br.length/\r.1.Bn.length=s.Bn.length:=by
  intro v ok t h h5
  unfold B4.J3
  exact pC λ_=>pS λ_ _=>pS λ_ _=>pR ⟨⟨h,rfl⟩,by rw[AAX h5],by simp,by simp⟩
 unfold B4
 refine pE (GF i).1 (pLs (rg i).length (λ_ (_:Unit)=>True) (s0:=()) (F:=λn _ j=>B4.Aa i s (rg i) n j) (λ_ _=>rfl) (by have:=(GF i).2;omega) trivial λn j _ hj _ k=> ?_)
 unfold B4.Aa B4.L1 B4.J1
 refine pD (λD5=>pE (CU (by omega)) ?_) λ_=> ?_
 . have:=hg _ (AAi (show j<(rg i).length by omega))
   exact pD (λh=>by omega) λ_=>pI (λh=>by simp at h;omega) λ_=>k () (by omega) trivial
 . unfold B4.J2
   refine pI (λh=>pR ⟨⟨rfl,rfl⟩,by rw[AAY (eq_of_beq h)],rfl,rfl⟩) λn5=> ?_
   have n5:i.Op≠5:=by simpa using n5
   refine pI (λh1=>j3 _ _ _ rfl n5) λn1=>pI (λh2=>pS λ_ _=>pS λ_ _=>j3 _ _ _ rfl n5) λn2=>pI (λh3=> ?_) λn3=> ?_
   . have h:=hn.1 (eq_of_beq h3)
     exact pE (SC (by omega)) (pS λ_ _=>pB (mH h _) λf hf=>pS λ_ _=>j3 _ _ _ hf n5)
   . have h4:i.Op=4:=by simp[UF]at ho n1 n2 n3;omega
     have h:=hn.2 h4
     exact pE (SC (by omega)) (pS λ_ _=>pS λ_ _=>pB (eC h _ _) λf hf=>pS λ_ _=>pS λ_ _=>pS λ_ _=>j3 _ _ _ hf n5)
theorem l9 {s:AL} (ht:s.Bn.length≤100):Kl (Ch s) λr=>r=s:=by
 unfold Ch
 refine pC λ_=>pLs s.Bn.length (λi o=>o=⟨s.PC,s.Br,s.Bn.take i,s.AF⟩) (F:=λn o i=>Ch.Aa s n o i) (λ_ _=>rfl) (by omega) rfl λn i o hi ho k=> ?_
 subst ho
 unfold Ch.Aa Ch.L1 Ch.J1
 exact pD (λ_=>pE (CU (by omega)) (pC λ_=>pC λ_=>k _ (by omega) (by rw[AAk]))) λ_=>pR (by rw[AA3 (by omega)])
theorem eL {c:An} {s:AL} (hv:VS c) (hc:c.A1.length≤8000000) (hg:∀x∈c.A1,∀y∈rg x,0≤y/\y<c.Br) (h32:c.Br≤32) (hr:(s.Br.length:Int)=c.Br) (ht:(s.Bn.length:Int)=c.Br) (hl:Lnd c.A1 (c.A1.length+1) s.PC):Kl (Bf c s) λr=>r.1.AF=s.AF:=by
 unfold Bf
 refine pI (λh=>by simp at h;omega) λ_=> ?_
 unfold Bf.J1
 refine pI (λh=>by simp at h;omega) λ_=>pB (l9 (by omega)) λs' Fl=> ?_
 subst Fl
 refine pLs (c.A1.length+1) (λi t=>(t.AF=s'.AF/\(t.Br.length:Int)=c.Br)/\Lnd c.A1 (c.A1.length+1-i) t.PC) (F:=λn s j=>Bf.Aa c n s j) (λ_ _=>rfl) (by omega) ⟨⟨rfl,hr⟩,hl⟩ λn i t hi hI k=> ?_
 obtain⟨⟨t1,t2⟩,t3⟩:=hI
 unfold Bf.Aa Bf.L1 Bf.J2 Bf.J3
 refine pD (λhle=> ?_) λl8=> ?_
 . rw[show c.A1.length+1-i=(c.A1.length-i)+1 from by omega]at t3
   obtain⟨x,hx,hor⟩:=t3
   have hp:=(vX hx).1
   have Qg:=(vX hx).2
   refine pD (λh=>by omega) λ_=>pI (λh=>by simp at h;omega) λ_=>pE hx (pE (PO _) (pI (λ_=>pR t1) λhsil=> ?_))
   have hsil:UF x.Op=true:=by simpa using hsil
   have hor:=(hor.resolve_left (by rw[hsil];simp)).2
   refine pI (λh=> ?_) λNp=> ?_
   . have:i=c.A1.length:=by simp at h;omega
     rw[show c.A1.length-i=0 from by omega]at hor
     exact hor.elim
   . have hm:=AAb Qg
     have bJ:=hv _ x Qg
     refine pB (zV (λy hy=>by rw[t2];exact hg x hm y hy) hsil bJ.2.2.2) λv hv2=>pI (λh=>by rw[hv2.1.1]at h;cases h) λ_=>k _ (by simp at Np;omega) ⟨⟨hv2.1.2.trans t1,by rw[hv2.2.2.1];exact t2⟩,?_⟩
     rw[hv2.2.1,show c.A1.length+1-(i+1)=c.A1.length-i from by omega]
     exact hor
 . rw[show c.A1.length+1-i=0 from by omega]at t3
   exact t3.elim
end Go.Abs
