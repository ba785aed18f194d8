/- A calculus of abstract states of Go memory, and that it is sound. -/
import Derived.Test.YtdadohkcmclilaaGreatDoorCoreC
import Derived.KernelRfl
import Derived.WalkKit
import Derived.ProofKit
import Derived.OpenShut
import Derived.WideKeyArgs
import Derived.SizedLaws
import Derived.DataReads
import Derived.Below
import Derived.ChangeSame
import Derived.Shelf.Slices.SearchI
set_option linter.unusedSimpArgs false
set_option linter.unusedVariables false
namespace Go.Abs
variable {P:Program} {G:Gi}
def jT (G:Gi) (rs:List RV) (res:AV) (outs:List AV) (e:Exit) (σ:Sg):Prop:=
 (match e with| .normal=>True| .ret=>True|_=>False)/\∃vs τ,FG G rs σ=some (vs,τ)/\one (vs.map rX)=res/\SE τ 0 outs
def iN (x:ABp (List AV×Sg)) (res:AV) (outs:List AV):Prop:=match x with
 |some (vs,τ)=>one (vs.map rX)=res/\SE τ 0 outs
 |none=>False
theorem cL (vs:List AV) (τ:Sg) (res:AV) (outs:List AV):iN (some (vs,τ)) res outs=(one (vs.map rX)=res/\SE τ 0 outs):=(rfl)
theorem mC (G:Gi) (rs:List RV) (res:AV) (outs:List AV) (σ:Sg):jT G rs res outs .ret σ=iN (FG G rs σ) res outs:=by
 unfold jT iN
 cases FG G rs σ with
 |none=>simp
 |some x=>
  obtain⟨vs,τ⟩:=x
  simp only[AAN,AAc,true_and,eq_iff_iff]
  exact⟨λ⟨_,_,⟨e1,e2⟩,h⟩=>by subst e1;subst e2;exact h,λh=>⟨_,_,⟨rfl,rfl⟩,h⟩⟩
theorem qK {f:Nat} {fn:Func} {I:FI} {args:List AV} {res:AV} {outs:List AV} (hm:P.follows .mixedOrders=true) (hf:P.funcs[f]? =some fn) (hc:JP P fn I=true) (hD:fI fn args.length=true) (hn:args.length≤fn.ntmps) (FK:args.all Il=true) (wY:outs.length=args.length)
 (h:HX P I.g I.c (jT I.g I.r res outs) (start args)):BD P f args res outs:=by
 intro w S ds F MX Jd CH hS
 subst Jd
 refine PS (m:=ds.length) hm hf hc (by simpa using hn) FK (λc hb=>by simp only[fI,hb]at hD;simpa using hD) MX CH hS h ?_
 rintro ex w1 S1 δ1 F1 tmps hq Ed EO D5 QB IK ML
 have hex:ex= .normal∨ex= .ret:=by obtain⟨h,_⟩:=hq;cases ex<;>simp_all
 refine⟨hex,?_⟩
 obtain⟨_,vs,τ,XL,Rl,Xk⟩:=hq
 have OU:=IK.resolve_left (by rcases hex with rfl|rfl<;>simp)
 obtain⟨Ds,FD,g1,g2,g3,g4,δ2,F2,k1,k2,k3,k4,k5⟩:=Is fn.results.toList Ed QB ML XL
 rw[← k2]at Xk
 obtain⟨os,e1,e2,Fo,e3,e4⟩:=WT k1 outs 0 Xk
 have C9:os.map DV.Aq=ds.map DV.Aq:=by
  rw[e2]
  have hl:outs.length=ds.length:=by simpa using wY
  rw[hl]
  apply ABV
  intro i
  simp only[AAZ]
  by_cases hi:i<ds.length
  . rw[List.getElem?_range' (by simpa using hi),AAT hi]
    simp only[ABS,Nat.one_mul,AAl,AAN]
    rw[k3,← QB,OU i hi]
    simp[hi]
  . rw[ABQ (by simp;omega),ABQ (by omega)]
    rfl
 obtain⟨Ds',q1,q2,q3⟩:=YP _ g3
 have hO:JF w1 (λx=>S1 x∨FD x) os Fo:=e3.mono (λ_ _=>rfl) (λ_ _=>rfl) (λ_ h=>.inl h) λx hx hy=>by
  rcases hy with hy|hy
  . exact(Be.2 e3).EZ x hx hy
  . obtain⟨s,_,hs⟩:=e4 x hx;exact k4 s x hs hy
 refine⟨_,Sm g2,N4 Ds',os,λx=>S1 x∨FD x,Fo,by rw[SA,SA,q2],by rw[SB,q1,g1,Rl],e1,C9,A9.2 ⟨λ_=>False,Fo,NC q3,hO,λ_ h=>h.elim,λx=>by simp⟩,⟨EO.os,EO.tape,EO.output,EO.size,EO.block⟩,λb hb=>.inl (EO.sub b hb),?_,?_,?_⟩
 . rintro b (hb|hb)
   . exact EO.sup b hb
   . exact .inr (EO.own b (g4 b hb))
 . rintro b (hb|hb)
   . exact D5 b hb
   . exact(NC g3).lt b hb
 . intro x hx
   obtain⟨s,_,hs⟩:=e4 x hx;exact EO.own x (k5 x ⟨s,hs⟩)
def putK (G:Gi) (n:Nat) (x:ABp AV) (res:AV) (d:ABp Dg) (K:Sg->Prop) (r:Nat) (σ:Sg):Prop:=match x with
 |some t=>CM d res K (C1 (FV G n r σ) r t)
 |none=>False
theorem qA (n:Nat) (t res:AV) (d:ABp Dg) (K:Sg->Prop) (r:Nat) (σ:Sg):putK G n (some t) res d K r σ=CM d res K (C1 (FV G n r σ) r t):=(rfl)
def mF (P:Program) (G:Gi) (r:Nat) (p:List Step) (b:Bool) (k f:Nat) (xs ys:List AV) (n:AV) (c:ABp Nat) (d:ABp Dg) (K:Sg->Prop) (σ:Sg):Prop:=
 ∃res out o,BD P f (xs++n::ys) res ((xs.map λ_=>.dead)++out::ys.map λ_=>.dead)/\RI c out=some o/\Hk o=true/\clean res=true/\putK G (Ru o b k p) (put (σ r) p o) res d K r σ
theorem mF.intro {r:Nat} {p:List Step} {b:Bool} {k f:Nat} {xs ys:List AV} {n:AV} {c:ABp Nat} {d:ABp Dg} {K:Sg->Prop} {σ:Sg} {res out o:AV} (h:BD P f (xs++n::ys) res ((xs.map λ_=>.dead)++out::ys.map λ_=>.dead)) (h1:RI c out=some o) (h2:Hk o=true) (h3:clean res=true)
 (h4:putK G (Ru o b k p) (put (σ r) p o) res d K r σ):mF P G r p b k f xs ys n c d K σ:=⟨res,out,o,h,h1,h2,h3,h4⟩
def lndB (P:Program) (G:Gi) (y:ABp AV) (r:Nat) (p:List Step) (xs ys:List AV) (a:AV->AV) (c:ABp Nat) (f:Nat) (d:ABp Dg) (K:Sg->Prop) (σ:Sg):Prop:=match y with
 |some (.own b k rows)=>mF P G r p b k f xs ys (a (.own b k rows)) c d K σ
 |_=>False
theorem yB (b:Bool) (k:Nat) (rows:List (List AV)) (r:Nat) (p:List Step) (xs ys:List AV) (a:AV->AV) (c:ABp Nat) (f:Nat) (d:ABp Dg) (K:Sg->Prop) (σ:Sg):lndB P G (some (.own b k rows)) r p xs ys a c f d K σ=mF P G r p b k f xs ys (a (.own b k rows)) c d K σ:=(rfl)
theorem lndK_s (r:Nat) (p:List Step) (xs ys:List AV) (a:AV->AV) (c:ABp Nat) (f:Nat) (d:ABp Dg) (K:Sg->Prop) (σ:Sg):lndK P G (some (r,p)) (some xs) (some ys) a c f d K σ=lndB P G (sub (σ r) p) r p xs ys a c f d K σ:=(rfl)
theorem yC (b:Bool) (k:Nat) (rows:List (List AV)) (p:List Step):Ru (.own b k rows) b k p=p.length+1:=by simp[Ru]
def lbY (G:Gi) (x:ABp AV) (r N r2:Nat) (p2:List Step) (v res:AV) (d:ABp Dg) (K:Sg->Prop) (τ:Sg):Prop:=match x with
 |some t=>putK G p2.length (put (C1 (FV G N r τ) r t r2) p2 v) res d K r2 (C1 (FV G N r τ) r t)
 |none=>False
theorem LbE.intro {d:ABp Dg} {f r r2:Nat} {p p2:List Step} {v n:AV} {b:Bool} {k:Nat} {ms:List AV} {K:Sg->Prop} {τ:Sg} {res out:AV} (h:BD P f (n::(ms++[v])) res (out::((ms.map λ_=>.dead)++[v]))) (h1:(!(r==r2)&&(Hk out&&clean res))=true)
 (h4:lbY G (put (τ r) p out) r (Ru out b k p) r2 p2 v res d K τ):lbQ P G d f r r2 p p2 v n b k ms K τ:=by
 simp only[AAP,ABU,beq_eq_false_iff_ne,ne_eq]at h1
 refine⟨h1.1,res,out,h,h1.2.1,h1.2.2,?_⟩
 unfold lbY at h4
 split at h4
 . rename_i t e
   simp only[e];exact h4
 . exact h4.elim
attribute [go_sem] yC lndK_s yB qA mC cL
end Go.Abs
namespace Go.Abs
variable {P:Program} {G:Gi}
def Ip (a b:IC):IC:=.seq a b
def BT:Nat:=18446744073709551616
abbrev BM (s:ABq):AV:=.sc (.string s)
abbrev Ap (n:Int):Int:=IntKind.i64.wrap n
abbrev w8 (n:Int):Int:=IntKind.u8.wrap n
def gt {α:Type} (l:List α) (i:Int):ABp α:=if 0≤i then l[i.toNat]? else none
def sgt (s:ABq) (i:Int):ABp UInt8:=if 0≤i then s[i.toNat]? else none
theorem gt_bind {α β:Type} {l:List α} {i:Int} {f:α->ABp β} {r:β} (h:(gt l i).bind f=some r):∃x,l[i.toNat]? =some x/\0≤i/\i<(l.length:Int)/\i.toNat<l.length/\f x=some r:=by
 unfold gt at h
 by_cases h0:0≤i
 . rw[AAY h0]at h
   cases hx:l[i.toNat]? with
   |none=>simp[hx]at h
   |some x=>
    have:=(AAQ.1 hx).1
    exact⟨x,rfl,h0,by omega,this,by simpa[hx]using h⟩
 . simp[h0]at h
theorem zN {β:Type} {l:ABq} {i:Int} {f:UInt8->ABp β} {r:β} (h:(sgt l i).bind f=some r):∃x,l[i.toNat]? =some x/\0≤i/\f x=some r:=by
 unfold sgt at h
 by_cases h0:0≤i
 . rw[AAY h0]at h
   cases hx:l[i.toNat]? with
   |none=>simp[hx]at h
   |some x=>exact⟨x,rfl,h0,by simpa[hx]using h⟩
 . simp[h0]at h
theorem gB {α β:Type} {l:List α} {i:Int} {f:α->ABp β} {r:β} (h:(gt l i).bind f=some r):∃x,(l[i.toNat]? =some x/\0≤i/\i<(l.length:Int)/\i.toNat<l.length)/\f x=some r:=by
 obtain⟨x,a,b,c,d,e⟩:=gt_bind h;exact⟨x,⟨a,b,c,d⟩,e⟩
theorem sgB {β:Type} {l:ABq} {i:Int} {f:UInt8->ABp β} {r:β} (h:(sgt l i).bind f=some r):∃x,(l[i.toNat]? =some x/\0≤i)/\f x=some r:=by
 obtain⟨x,a,b,e⟩:=zN h;exact⟨x,⟨a,b⟩,e⟩
theorem sgL {β:Type} {l:ABq} {i:Int} {n:Nat} (hn:i.toNat=n) {f:UInt8->ABp β} {r:β} (h:(sgt l i).bind f=some r):∃x,(l[n]? =some x/\0≤i)/\f x=some r:=by
 subst hn;exact sgB h
theorem bind_some {α β:Type} {o:ABp α} {f:α->ABp β} {r:β} (h:o.bind f=some r):∃x,o=some x/\f x=some r:=by
 cases o with
 |none=>simp at h
 |some x=>exact⟨x,rfl,h⟩
theorem Gx {α:Type} {p:Prop} [Decidable p] {a:ABp α} {r:α} (h:(if p then a else none)=some r):p/\a=some r:=by
 by_cases hp:p
 . rw[AAY hp]at h;exact⟨hp,h⟩
 . rw[AAX hp]at h;cases h
theorem bS {α β:Type} {o:ABp α} {f:α->ABp β} {r:β} (h:o.bind f=some r):∃x,o=some x/\f x=some r:=bind_some h
theorem cS {α:Type} {p:Prop} [Decidable p] {a:ABp α} {r:α} (h:(if p then a else none)=some r):p/\a=some r:=Gx h
theorem ifT {α:Type} {c:Bool} {a b r:α} (e:c=true) (h:(if c=true then a else b)=r):a=r:=by rw[AAY e]at h;exact h
theorem ifF {α:Type} {c:Bool} {a b r:α} (e:c=false) (h:(if c=true then a else b)=r):b=r:=by rw[AAX (by rw[e];decide)]at h;exact h
theorem Bi {α:Type} {r:α} {C:Prop} (h:(none:ABp α)=some r):C:=nomatch h
theorem bool_sp (c:Bool):c=true∨c=false:=by cases c<;>simp
theorem Y0 {α:Type} {i:Int} {a b:ABp α} {x:α} (h:(if(i==0)=true then a else if(i==1)=true then b else none)=some x):(i=0/\a=some x)∨(i=1/\b=some x):=by
 by_cases h0:i=0
 . subst h0;exact .inl ⟨rfl,by simpa using h⟩
 . by_cases h1:i=1
   . subst h1;exact .inr ⟨rfl,by simpa using h⟩
   . simp[h0,h1]at h
theorem uZ {c:Bool} {a b:Sg->Prop} {σ:Sg} (h1:c=true->a σ) (h2:c=false->b σ):RQ (.sc (.bool c)) a b σ:=by
 cases c with
 |true=>rw[kE];exact h1 rfl
 |false=>rw[kD];exact h2 rfl
theorem gK_sp {c:Bool} {want:Bool} {a b:Sg->Prop} {σ:Sg} (h1:c=true->gK (.sc (.bool true)) want a b σ) (h2:c=false->gK (.sc (.bool false)) want a b σ):gK (.sc (.bool c)) want a b σ:=by
 cases c with
 |true=>exact h1 rfl
 |false=>exact h2 rfl
theorem cI {α:Type} {c:Bool} {x y z:α} {a b:Sg->Prop} {σ:Sg} (h:(if c=true then x else y)=z) (h1:c=true->x=z->a σ) (h2:c=false->y=z->b σ):RQ (.sc (.bool c)) a b σ:=
 uZ (λe=>h1 e (ifT e h)) λe=>h2 e (ifF e h)
theorem gI {α:Type} {c:Bool} {x y z:α} {want:Bool} {a b:Sg->Prop} {σ:Sg} (h:(if c=true then x else y)=z) (h1:c=true->x=z->gK (.sc (.bool true)) want a b σ) (h2:c=false->y=z->gK (.sc (.bool false)) want a b σ):gK (.sc (.bool c)) want a b σ:=
 gK_sp (λe=>h1 e (ifT e h)) λe=>h2 e (ifF e h)
theorem awp_cut {a b:IC} {Q:Exit->Sg->Prop} {M:Sg->Prop} {σ:Sg} (h1:HX P G a (Exit.P4 M Q) σ) (h2:∀τ,M τ->HX P G b Q τ):HX P G (Ip a b) Q σ:=by
 unfold Ip
 rw[jY]
 refine aG ?_ h1
 intro e τ h
 cases e with
 |normal=>exact h2 τ h
 |_=>exact h
def Imp (A B:Sg->Prop):Prop:=∀τ,A τ->B τ
theorem gBk {α β:Type} {C:Prop} {l:List α} {i:Int} {f:α->ABp β} {r:β} (h:(gt l i).bind f=some r) (k:∀x,((∀n,i.toNat=n->l[n]? =some x)/\(∀n,i.toNat=n->n<l.length)/\0≤i/\i<(l.length:Int))->f x=some r->C):C:=by
 obtain⟨x,⟨a1,a2,a3,a4⟩,b⟩:=gB h;exact k x ⟨λn e=>e▸a1,λn e=>e▸a4,a2,a3⟩ b
theorem gBe {α β:Type} {C:Prop} {l:List α} {i:Int} {f:α->ABp β} {r:β} {x:α} (h:(gt l i).bind f=some r) (g:(∀n,i.toNat=n->l[n]? =some x)/\(∀n,i.toNat=n->n<l.length)/\0≤i/\i<(l.length:Int)) (k:f x=some r->C):C:=by
 have e:gt l i=some x:=by unfold gt;rw[AAY g.2.2.1];exact g.1 _ rfl
 rw[e]at h;exact k h
theorem gBm {α β:Type} (e:α->List AV) {C:Prop} {a:α} {l:List α} {i:Int} {f:α->ABp β} {r:β} (h:(gt (a::l) i).bind f=some r)
 (k:∀x,((∀n rows,i.toNat=n->(a::l).map e=rows->rows[n]? =some (e x))/\(∀n m,i.toNat=n->(a::l).length=m->n<m)/\0≤i/\∀m:Nat,(a::l).length=m->i<(m:Int))->f x=some r->C):C:=by
 obtain⟨x,⟨a1,a2,a3,a4⟩,b⟩:=gB h
 exact k x ⟨λn rows e1 e2=>by rw[← e1,← e2,AAZ,a1];rfl,λn m e1 e2=>e1▸e2▸a4,a2,λm e1=>e1▸a3⟩ b
theorem bSk {α β:Type} {C:Prop} {o:ABp α} {f:α->ABp β} {r:β} (h:o.bind f=some r) (k:∀x,o=some x->f x=some r->C):C:=by
 obtain⟨x,a,b⟩:=bS h;exact k x a b
theorem bSs {α β:Type} {C:Prop} {x:α} {f:α->ABp β} {r:β} (h:(some x).bind f=some r) (k:f x=some r->C):C:=k h
theorem cSk {α:Type} {C:Prop} {p:Prop} [Decidable p] {a:ABp α} {r:α} (h:(if p then a else none)=some r) (k:p->a=some r->C):C:=by
 obtain⟨a,b⟩:=cS h;exact k a b
theorem bI {α:Type} {C:Prop} {c:Bool} {x y z:α} (h:(if c=true then x else y)=z) (h1:c=true->x=z->C) (h2:c=false->y=z->C):C:=by
 cases c with
 |true=>exact h1 rfl (ifT rfl h)
 |false=>exact h2 rfl (ifF rfl h)
theorem JH {a b:IC} {Q:Exit->Sg->Prop} (M0:Sg->Prop) {σ:Sg} (h:∀M:Sg->Prop,Imp M0 M->HX P G a (Exit.P4 M Q) σ/\∀τ,M0 τ->HX P G b Q τ):HX P G (Ip a b) Q σ:=
 awp_cut (h M0 λ_ h=>h).1 (h M0 λ_ h=>h).2
def Ny (n:Nat) (a b:IC):IC:=.seq a b
theorem cutNH (n:Nat) {a b:IC} {Q:Exit->Sg->Prop} (M0:Sg->Prop) {σ:Sg} (h:∀M:Sg->Prop,Imp M0 M->HX P G a (Exit.P4 M Q) σ/\∀τ,M0 τ->HX P G b Q τ):HX P G (Ny n a b) Q σ:=JH M0 h
theorem nF {a:IC} {Q:Exit->Sg->Prop} {σ:Sg} (I:Nat->Sg->Prop) (n:Nat) (h:I n σ)
 (round:∀n τ (N:Sg->Prop),I n τ->(∀m,m<n->∀τ',I m τ'->N τ')->HX P G a (Exit.P4 N Q) τ):HX P G (.loop a) Q σ:=
 uM I n h λn τ hI=>round n τ _ hI λm hm τ' hτ'=>⟨m,hm,hτ'⟩
def Back (n:Nat) (I:Nat->Sg->Prop) (N:Sg->Prop):Prop:=∀m,m<n->∀τ',I m τ'->N τ'
theorem impI {A B:Sg->Prop} (m:Imp A B) {τ:Sg} (h:A τ):B τ:=m τ h
theorem RJ {n:Nat} {I:Nat->Sg->Prop} {N:Sg->Prop} (k:Back (n+1) I N) {τ:Sg} (h:I n τ):N τ:=k n (AA8 n) τ h
theorem Ir {a:IC} {Q:Exit->Sg->Prop} {σ:Sg} (I:Nat->Sg->Prop) (h:I BT σ)
 (round:∀n τ (N:Sg->Prop),I n τ->Back n I N->HX P G a (Exit.P4 N Q) τ):HX P G (.loop a) Q σ:=nF I BT h round
theorem gK_mono {x:AV} {want:Bool} {a b a' b':Sg->Prop} {σ:Sg} (h1:∀σ,a σ->a' σ) (h2:∀σ,b σ->b' σ) (h:gK x want a b σ):gK x want a' b' σ:=by
 unfold gK at*
 split at h
 . split at h
   . rename_i hx;simp only[hx,AAs];exact h1 _ h
   . rename_i hx;simp only[hx,AAe];exact h2 _ h
 . exact h2 _ h
 . exact h.elim
theorem gM_mono {g:ABp (Nat×Bool)} {d:Dg} {A A' K K':Sg->Prop} {σ:Sg} (h1:∀σ,A σ->A' σ) (h2:∀σ,K σ->K' σ) (h:gM g d A K σ):gM g d A' K' σ:=by
 cases g with
 |none=>exact h1 _ h
 |some x=>obtain⟨s,want⟩:=x;exact gK_mono h1 (λσ hx=>h2 _ hx) h
theorem JM {K K':Sg->Mu->Prop} (h:∀σ μ,K σ μ->K' σ μ):∀{l:List eH} {σ:Sg} {μ:Mu},Ns P G l K σ μ->Ns P G l K' σ μ
 |[],_,_,ht=>h _ _ ht
 | .x _::_,_,_,ht=>KI (λ_ hx=>JM h hx) ht
 | .mkm _::_,_,_,ht=>λb hb=>Gl (λ_ hx=>JM h hx) (ht b hb)
 | .lkp g d m k::l,σ,μ,ht=>by
  simp only[Ns]at ht ⊢
  refine gM_mono (λσ hx=> ?_) (λσ hx=>JM h hx) ht
  unfold yA at hx ⊢
  split at hx
  . split at hx
    . exact⟨hx.1,Gl (λ_ hy=>JM h hy) hx.2⟩
    . exact hx.elim
  . exact hx.elim
 | .mup m k v::l,σ,μ,ht=>by
  simp only[Ns]at ht ⊢
  unfold yJ at ht ⊢
  split at ht
  . split at ht
    . exact⟨ht.1,JM h ht.2⟩
    . exact ht.elim
  . exact ht.elim
 | .rng d x::l,σ,μ,ht=>by
  simp only[Ns]at ht ⊢
  unfold zC at ht ⊢
  split at ht
  . exactλb hb=>Gl (λ_ hx=>JM h hx) (ht b hb)
  . exact ht.elim
 | .nxt d x::l,σ,μ,ht=>by
  simp only[Ns]at ht ⊢
  unfold yQ at ht ⊢
  split at ht
  . split at ht
    . split at ht
      . rename_i hp;simp only[hp,AAs];exact Gl (λ_ hx=>JM h hx) ht
      . rename_i hp;simp only[hp,AAe];exact Gl (λ_ hx=>JM h hx) ht
    . exact ht.elim
  . exact ht.elim
theorem mY {ic:XZ}:∀{Q Q':Exit->Sg->Mu->Prop} {σ:Sg} {μ:Mu},(∀e σ μ,Q e σ μ->Q' e σ μ)->IQ P G ic Q σ μ->IQ P G ic Q' σ μ:=by
 induction ic with
 |ic c=>exactλh ht=>aG (λe σ hx=>h e σ _ hx) ht
 |Xq xs=>exactλh ht=>JM (h .normal) ht
 |seq a b Rn xP=>
  intro Q Q' σ μ h ht
  refine Rn (λe σ' μ' hq=> ?_) ht
  cases e with
  |normal=>exact xP h hq
  |_=>exact h _ _ _ hq
 |cond c a b Rn xP=>
  intro Q Q' σ μ h ht
  rw[Vc]at ht ⊢
  unfold kG at ht ⊢
  split at ht
  . split at ht
    . rename_i hx;simp only[hx,AAs];exact Rn h ht
    . rename_i hx;simp only[hx,AAe];exact xP h ht
  . exact ht.elim
 |block id a Rn=>
  intro Q Q' σ μ h ht
  refine Rn (λe σ' μ' hq=> ?_) ht
  cases e with
  |exit i=>
   rw[Tp]at hq ⊢
   split
   . rename_i hi;rw[AAY hi]at hq;exact h _ _ _ hq
   . rename_i hi;rw[AAX hi]at hq;exact h _ _ _ hq
  |_=>exact h _ _ _ hq
 |loop a Rn=>
  intro Q Q' σ μ h ht
  obtain⟨I,h0,hr⟩:=ht
  refine⟨I,h0,λn τ ν hI=>Rn (λe σ' μ' hq=> ?_) (hr n τ ν hI)⟩
  cases e with
  |normal=>exact hq
  |_=>exact h _ _ _ hq
def aQ (a b:XZ):XZ:=.seq a b
theorem uK {a b:XZ} {Q:Exit->Sg->Mu->Prop} {M:Sg->Mu->Prop} {σ:Sg} {μ:Mu} (h1:IQ P G a (Exit.W3 M Q) σ μ) (h2:∀τ ν,M τ ν->IQ P G b Q τ ν):IQ P G (aQ a b) Q σ μ:=by
 unfold aQ
 rw[aE]
 refine mY ?_ h1
 intro e τ ν h
 cases e with
 |normal=>exact h2 τ ν h
 |_=>exact h
def ImpM (A B:Sg->Mu->Prop):Prop:=∀τ ν,A τ ν->B τ ν
theorem aR {a b:XZ} {Q:Exit->Sg->Mu->Prop} (M0:Sg->Mu->Prop) {σ:Sg} {μ:Mu} (h:∀M:Sg->Mu->Prop,ImpM M0 M->IQ P G a (Exit.W3 M Q) σ μ/\∀τ ν,M0 τ ν->IQ P G b Q τ ν):IQ P G (aQ a b) Q σ μ:=
 uK (h M0 λ_ _ h=>h).1 (h M0 λ_ _ h=>h).2
theorem eW {a:XZ} {Q:Exit->Sg->Mu->Prop} {σ:Sg} {μ:Mu} (I:Nat->Sg->Mu->Prop) (n:Nat) (h:I n σ μ)
 (round:∀n τ ν (N:Sg->Mu->Prop),I n τ ν->(∀m,m<n->∀τ' ν',I m τ' ν'->N τ' ν')->IQ P G a (Exit.W3 N Q) τ ν):IQ P G (.loop a) Q σ μ:=
 mX I n h λn τ ν hI=>round n τ ν _ hI λm hm τ' ν' hτ'=>⟨m,hm,hτ'⟩
def BackM (n:Nat) (I:Nat->Sg->Mu->Prop) (N:Sg->Mu->Prop):Prop:=∀m,m<n->∀τ' ν',I m τ' ν'->N τ' ν'
theorem yF {a:XZ} {Q:Exit->Sg->Mu->Prop} {σ:Sg} {μ:Mu} (I:Nat->Sg->Mu->Prop) (h:I BT σ μ)
 (round:∀n τ ν (N:Sg->Mu->Prop),I n τ ν->BackM n I N->IQ P G a (Exit.W3 N Q) τ ν):IQ P G (.loop a) Q σ μ:=eW I BT h round
def tv (s:ABq):ABq×Value:=(s,.bool true)
theorem yE (l:List ABq) (s:ABq):LZ (l.map tv) s (.bool false)= .bool (l.any λx=>x==s):=by
 induction l with
 |nil=>rfl
 |cons x l ih=>
  unfold LZ at ih ⊢
  rw[AAg,List.find?_cons,List.any_cons]
  cases hx:(tv x).1==s with
  |true=>simp[show(x==s)=true from hx,tv]
  |false=>simp only[show(x==s)=false from hx,Bool.false_or];exact ih
theorem all_set (l:List ABq) (s:ABq):((l.map tv).all λx=> !(x.1==s))= !(l.any λx=>x==s):=by
 induction l with
 |nil=>rfl
 |cons x l ih=>rw[AAg,ABF,List.any_cons,ih];simp[tv]
theorem add_set (l:List ABq) (s:ABq):eN (l.map tv) s (.bool true)=(l++[s]).map tv:=by simp[eN,tv]
theorem cA (b:Bool):FW (.bool b)=true:=rfl
attribute [go_sem] yE all_set add_set cA
theorem map_len {α β:Type} (f:α->β) (l:List α):(l.map f).length=l.length:=AAo ..
theorem map_get {α β:Type} (f:α->β) (l:List α) (i:Nat):(l.map f)[i]? =(l[i]?).map f:=AAZ ..
theorem map_app {α β:Type} (f:α->β) (l m:List α):l.map f++m.map f=(l++m).map f:=(AA9 ..).symm
theorem map_tk {α β:Type} (f:α->β) (l:List α) (n:Nat):(l.map f).take n=(l.take n).map f:=(ABY ..).symm
theorem map_dr {α β:Type} (f:α->β) (l:List α) (n:Nat):(l.map f).drop n=(l.drop n).map f:=(ABl ..).symm
theorem dt1 {α:Type} {l:List α} {i:Nat} {x:α} (h:l[i]? =some x):(l.drop i).take 1=[x]:=by
 obtain⟨hi,rfl⟩:=AAQ.1 h
 rw[ABH hi];rfl
theorem sc_str (l:List ABq):(l.map Value.string).map AV.sc=l.map BM:=by rw[List.map_map];rfl
theorem cast22:((22:Nat):Int)=22:=rfl
attribute [go_sem] dt1 sc_str cast22 Nat.mul_one List.getElem?_set_self List.set_set List.length_set Nat.zero_le Option.isSome_none Option.isSome_some Option.isNone_none map_len map_get map_app map_tk map_dr
theorem one_nil:one []= .BJ []:=rfl
attribute [go_sem] one_nil
theorem tn1:Int.toNat 1=1:=rfl
theorem tn2:Int.toNat 2=2:=rfl
theorem tn3:Int.toNat 3=3:=rfl
attribute [go_sem] tn1 tn2 tn3 Nat.reduceAdd
theorem map_ce {α:Type} (e:α->List AV) (l:List α) (h:∀x,(e x).all Ex=true):((l.map e).all λx=>x.all Ex)=true:=by rw[ABG];exact AAU.2 λx _=>h x
theorem map_pl {α:Type} (e:α->List AV) (l:List α) (h:∀x,(e x).all G1=true):((l.map e).all λx=>x.all G1)=true:=by rw[ABG];exact AAU.2 λx _=>h x
theorem map_fr {α:Type} (e:α->List AV) (l:List α) (h:∀x,OP (e x)=true):QZ (l.map e)=true:=by induction l with|nil=>rfl|cons x l ih=>simp[QZ,h x,ih]
theorem p8 {l:List AV} (h:l.all G1=true):Xg l=l:=by
 induction l with
 |nil=>rfl
 |cons a l ih=>
  simp only[ABF,AAP]at h
  rw[Xg,ih h.2]
  cases a<;>simp_all [G1,I0]
theorem yG {α:Type} (e:α->List AV) (l:List α) (h:∀x,(e x).all G1=true):MU (l.map e)=l.map e:=by
 induction l with
 |nil=>rfl
 |cons x l ih=>simp[MU,p8 (h x),ih]
theorem map_fm {α:Type} (e:α->List AV) (l:List α) (h:∀x,(e x).all G1=true):(l.map e).map (λx=>x.map I0)=l.map e:=by rw[← U6];exact yG e l h
attribute [go_sem] implies_true map_ce map_pl map_fr yG map_fm
def i0 (d:Nat) (op:XJ):BH:=⟨some ⟨d,[],[]⟩,op,none⟩
def i1 (d r:Nat) (op:XJ):BH:=⟨some ⟨d,[],[r]⟩,op,none⟩
def j0 (d:Nat) (op:XJ) (g:Nat) (b:Bool):BH:=⟨some ⟨d,[],[]⟩,op,some (g,b)⟩
def j1 (d r:Nat) (op:XJ) (g:Nat) (b:Bool):BH:=⟨some ⟨d,[],[r]⟩,op,some (g,b)⟩
def iC (d s:Nat):BH:=⟨some ⟨d,[],[]⟩,.cp (.t s),none⟩
def iL (d s:Nat):BH:=⟨some ⟨d,[],[]⟩,.ld false 1 (.t s),none⟩
def Zu (d r s:Nat):BH:=⟨some ⟨d,[],[r]⟩,.ld false 1 (.t s),none⟩
def iF (d o s:Nat):BH:=⟨some ⟨d,[],[]⟩,.Tu o (.t s),none⟩
def Lt (d r o s:Nat):BH:=⟨some ⟨d,[],[r]⟩,.Tu o (.t s),none⟩
def iI (d k s i:Nat):BH:=⟨some ⟨d,[],[]⟩,.VA k (.t s) (.t i),none⟩
def iIr (d r k s i:Nat):BH:=⟨some ⟨d,[],[r]⟩,.VA k (.t s) (.t i),none⟩
def iS (n a b:Nat):BH:=⟨none,.st n (.t a) (.t b),none⟩
def jL (d s g:Nat) (b:Bool):BH:=⟨some ⟨d,[],[]⟩,.ld false 1 (.t s),some (g,b)⟩
def jFr (d r o s g:Nat) (b:Bool):BH:=⟨some ⟨d,[],[r]⟩,.Tu o (.t s),some (g,b)⟩
def iOr (d a b:Nat):BH:=⟨some ⟨d,[],[]⟩,.pick (.t a) (.c (.sc (.bool true))) (.t b),none⟩
def iAn (d a b:Nat):BH:=⟨some ⟨d,[],[]⟩,.pick (.t a) (.t b) (.c (.sc (.bool false))),none⟩
def iU (d:Nat) (n:Int):BH:=⟨some ⟨d,[],[]⟩,.cp (.c (.sc (.int .i64 n))),none⟩
def iZ (d s:Nat):BH:=⟨some ⟨d,[],[]⟩,.len (.t s),none⟩
def iA (d k s:Nat):BH:=⟨some ⟨d,[],[]⟩,.ld true k (.t s),none⟩
def jC (d s g:Nat) (b:Bool):BH:=⟨some ⟨d,[],[]⟩,.cp (.t s),some (g,b)⟩
def jN (d s g:Nat) (b:Bool):BH:=⟨some ⟨d,[],[]⟩,.un .not (.t s),some (g,b)⟩
def jP (d:Nat) (op:BinOp) (x:Nat) (n:Int) (g:Nat) (b:Bool):BH:=⟨some ⟨d,[],[]⟩,.bin op (.t x) (.c (.sc (.int .i64 n))),some (g,b)⟩
def cX (c id:Nat):IC:=.cond (.t c) .skip (.exit id)
def iQ (d s:Nat) (n:Int):BH:=⟨some ⟨d,[],[]⟩,.bin .eql (.t s) (.c (.sc (.int .i64 n))),none⟩
def iO (d:Nat) (op:BinOp) (a b:Nat):BH:=⟨some ⟨d,[],[]⟩,.bin op (.t a) (.t b),none⟩
def iP (d:Nat) (op:BinOp) (a:Nat) (n:Int):BH:=⟨some ⟨d,[],[]⟩,.bin op (.t a) (.c (.sc (.int .i64 n))),none⟩
def iK (d:Nat) (n:Int):BH:=⟨some ⟨d,[],[]⟩,.mv (.c (.sc (.int .i64 n))),none⟩
def iB (d:Nat) (b:Bool):BH:=⟨some ⟨d,[],[]⟩,.mv (.c (.sc (.bool b))),none⟩
def bA (k:Nat) (cs:List AV):AV:=.own true k [cs]
attribute [go_sem] iOr iAn iU iZ iA jC jN jP cX iQ iO iP iK iB bA i0 i1 j0 j1 iC iL Zu iF Lt iI iIr iS jL jFr
end Go.Abs
namespace Go.Abs
variable {P:Program} {G:Gi}
theorem exI {α:Sort _} {p:α->Prop} {C:Prop} (h:∃x,p x) (k:∀x,p x->C):C:=h.elim k
theorem anI {a b C:Prop} (h:a/\b) (k:a->b->C):C:=k h.1 h.2
def IP (n:Nat) (M0:Sg->Prop):Prop:=∀(P:Program) (G:Gi) (a b:IC) (Q:Exit->Sg->Prop) (σ:Sg),(∀M:Sg->Prop,Imp M0 M->HX P G a (Exit.P4 M Q) σ/\∀τ,M0 τ->HX P G b Q τ)->HX P G (Ny n a b) Q σ
theorem Bh (n:Nat) (M0:Sg->Prop):IP n M0:=λ_ _ _ _ _ _ h=>cutNH n M0 h
theorem IP.use {n:Nat} {M0:Sg->Prop} (c:IP n M0) {a b:IC} {Q:Exit->Sg->Prop} {σ:Sg} (h:∀M:Sg->Prop,Imp M0 M->HX P G a (Exit.P4 M Q) σ/\∀τ,M0 τ->HX P G b Q τ):HX P G (Ny n a b) Q σ:=c _ _ _ _ _ _ h
def VQ (I:Nat->Sg->Prop):Prop:=∀(P:Program) (G:Gi) (a:IC) (Q:Exit->Sg->Prop) (σ:Sg),I BT σ->(∀n τ (N:Sg->Prop),I n τ->Back n I N->HX P G a (Exit.P4 N Q) τ)->HX P G (.loop a) Q σ
theorem Ax (I:Nat->Sg->Prop):VQ I:=λ_ _ _ _ _ h r=>Ir I h r
theorem VQ.use {I:Nat->Sg->Prop} (c:VQ I) {a:IC} {Q:Exit->Sg->Prop} {σ:Sg} (h:I BT σ) (r:∀n τ (N:Sg->Prop),I n τ->Back n I N->HX P G a (Exit.P4 N Q) τ):HX P G (.loop a) Q σ:=c _ _ _ _ _ h r
theorem walk {p:Prop} (q:p:=by
  try
    unfold Run
    intro C R I e1 e2 e3
    conv at e3=>lhs;cbv
    repeat
      conv at e3=>
        pattern R _ _
        rw[e2]
        cbv
    subst e3
    subst e1
    dsimp only
  have n1:=0
  have n2:=0
  have n3:=0
  have n4:=0
  repeat' first
    |with_reducible exact Bi h
    | (with_reducible refine exI h ?_
       clear h
       intro _ h)
    | (with_reducible refine anI h ?_
       clear h
       intro _ h)
    |with_reducible refine gBm eS h λ_ _ h=> ?_
    |with_reducible refine gBm eI h λ_ _ h=> ?_
    |with_reducible refine gBe h (by assumption) λh=> ?_
    |with_reducible refine gBk h λ_ _ h=> ?_
    |with_reducible refine cSk h λ_ h=> ?_
    | (with_reducible refine bSs h λh=> ?_
       try simp +decide only[go_sem, *]
       refine⟨_,by first|exact a1 (by assumption)|exact a2 (by assumption)|exact a3 (by assumption)|exact a4 (by assumption)|exact a5 (by assumption)|exact a6 (by assumption)|exact a7 (by assumption)|exact a8 (by assumption)|exact a9 (by assumption)|exact a10 (by assumption)|exact a11 (by assumption)|exact a12 (by assumption)|exact a13 (by assumption)|exact a14 (by assumption)|exact a15 (by assumption)|exact a16 (by assumption)|exact a17 (by assumption)|exact a18 (by assumption)|exact a19 (by assumption)|exact a20 (by assumption)|exact a21 (by assumption)|exact a22 (by assumption)|exact a23 (by assumption)|exact a24 (by assumption)|exact a25 (by assumption)|exact a26 (by assumption)|exact a27 (by assumption)|exact a28 (by assumption)|exact a29 (by assumption)|exact a30 (by assumption),?_⟩)
    | (with_reducible refine bSk h λ_ g h=> ?_
       try simp +decide only[go_sem, *]
       first
         |refine⟨_,by first| ((with_reducible have g:=a1 g);exact g)| ((with_reducible have g:=a2 g);exact g)| ((with_reducible have g:=a3 g);exact g)| ((with_reducible have g:=a4 g);exact g)| ((with_reducible have g:=a5 g);exact g)| ((with_reducible have g:=a6 g);exact g)| ((with_reducible have g:=a7 g);exact g)| ((with_reducible have g:=a8 g);exact g)| ((with_reducible have g:=a9 g);exact g)| ((with_reducible have g:=a10 g);exact g)| ((with_reducible have g:=a11 g);exact g)| ((with_reducible have g:=a12 g);exact g)| ((with_reducible have g:=a13 g);exact g)| ((with_reducible have g:=a14 g);exact g)| ((with_reducible have g:=a15 g);exact g)| ((with_reducible have g:=a16 g);exact g)| ((with_reducible have g:=a17 g);exact g)| ((with_reducible have g:=a18 g);exact g)| ((with_reducible have g:=a19 g);exact g)| ((with_reducible have g:=a20 g);exact g)| ((with_reducible have g:=a21 g);exact g)| ((with_reducible have g:=a22 g);exact g)| ((with_reducible have g:=a23 g);exact g)| ((with_reducible have g:=a24 g);exact g)| ((with_reducible have g:=a25 g);exact g)| ((with_reducible have g:=a26 g);exact g)| ((with_reducible have g:=a27 g);exact g)| ((with_reducible have g:=a28 g);exact g)| ((with_reducible have g:=a29 g);exact g)| ((with_reducible have g:=a30 g);exact g),?_⟩
         | (refine mF.intro (by first| ((with_reducible have g:=a1 g);exact g)| ((with_reducible have g:=a2 g);exact g)| ((with_reducible have g:=a3 g);exact g)| ((with_reducible have g:=a4 g);exact g)| ((with_reducible have g:=a5 g);exact g)| ((with_reducible have g:=a6 g);exact g)| ((with_reducible have g:=a7 g);exact g)| ((with_reducible have g:=a8 g);exact g)| ((with_reducible have g:=a9 g);exact g)| ((with_reducible have g:=a10 g);exact g)| ((with_reducible have g:=a11 g);exact g)| ((with_reducible have g:=a12 g);exact g)| ((with_reducible have g:=a13 g);exact g)| ((with_reducible have g:=a14 g);exact g)| ((with_reducible have g:=a15 g);exact g)| ((with_reducible have g:=a16 g);exact g)| ((with_reducible have g:=a17 g);exact g)| ((with_reducible have g:=a18 g);exact g)| ((with_reducible have g:=a19 g);exact g)| ((with_reducible have g:=a20 g);exact g)| ((with_reducible have g:=a21 g);exact g)| ((with_reducible have g:=a22 g);exact g)| ((with_reducible have g:=a23 g);exact g)| ((with_reducible have g:=a24 g);exact g)| ((with_reducible have g:=a25 g);exact g)| ((with_reducible have g:=a26 g);exact g)| ((with_reducible have g:=a27 g);exact g)| ((with_reducible have g:=a28 g);exact g)| ((with_reducible have g:=a29 g);exact g)| ((with_reducible have g:=a30 g);exact g)) rfl ?_ ?_ ?_
            . rfl
            . first|rfl|simp +decide only[go_sem, *])
         |refine LbE.intro (by first| ((with_reducible have g:=a1 g);exact g)| ((with_reducible have g:=a2 g);exact g)| ((with_reducible have g:=a3 g);exact g)| ((with_reducible have g:=a4 g);exact g)| ((with_reducible have g:=a5 g);exact g)| ((with_reducible have g:=a6 g);exact g)| ((with_reducible have g:=a7 g);exact g)| ((with_reducible have g:=a8 g);exact g)| ((with_reducible have g:=a9 g);exact g)| ((with_reducible have g:=a10 g);exact g)| ((with_reducible have g:=a11 g);exact g)| ((with_reducible have g:=a12 g);exact g)| ((with_reducible have g:=a13 g);exact g)| ((with_reducible have g:=a14 g);exact g)| ((with_reducible have g:=a15 g);exact g)| ((with_reducible have g:=a16 g);exact g)| ((with_reducible have g:=a17 g);exact g)| ((with_reducible have g:=a18 g);exact g)| ((with_reducible have g:=a19 g);exact g)| ((with_reducible have g:=a20 g);exact g)| ((with_reducible have g:=a21 g);exact g)| ((with_reducible have g:=a22 g);exact g)| ((with_reducible have g:=a23 g);exact g)| ((with_reducible have g:=a24 g);exact g)| ((with_reducible have g:=a25 g);exact g)| ((with_reducible have g:=a26 g);exact g)| ((with_reducible have g:=a27 g);exact g)| ((with_reducible have g:=a28 g);exact g)| ((with_reducible have g:=a29 g);exact g)| ((with_reducible have g:=a30 g);exact g)) (by first|rfl|simp +decide only[go_sem, *]) ?_)
    | (with_reducible cases h
       simp +decide only[go_sem, *]
       done)
    |simp only[eq_self,AAs,AAe,AAW]at h
    |simp +decide only[go_sem, *]
    | (with_reducible refine impI (by assumption) ?_
       repeat with_reducible apply Exists.intro
       with_reducible refine⟨?_,h⟩
       simp +decide only[go_sem, *]
       done)
    | (with_reducible refine IP.use (c1 n1 n2 n3 n4) λM m=>⟨?_,?_⟩
       rotate_left
       clear h
       intro τ h
       rotate_left)
    | (with_reducible refine IP.use (c2 n1 n2 n3 n4) λM m=>⟨?_,?_⟩
       rotate_left
       clear h
       intro τ h
       rotate_left)
    | (with_reducible refine IP.use (c3 n1 n2 n3 n4) λM m=>⟨?_,?_⟩
       rotate_left
       clear h
       intro τ h
       rotate_left)
    | (with_reducible refine IP.use (c4 n1 n2 n3 n4) λM m=>⟨?_,?_⟩
       rotate_left
       clear h
       intro τ h
       rotate_left)
    | (with_reducible refine IP.use (c5 n1 n2 n3 n4) λM m=>⟨?_,?_⟩
       rotate_left
       clear h
       intro τ h
       rotate_left)
    | (with_reducible refine IP.use (c6 n1 n2 n3 n4) λM m=>⟨?_,?_⟩
       rotate_left
       clear h
       intro τ h
       rotate_left)
    | (with_reducible refine IP.use (c7 n1 n2 n3 n4) λM m=>⟨?_,?_⟩
       rotate_left
       clear h
       intro τ h
       rotate_left)
    | (with_reducible refine IP.use (c8 n1 n2 n3 n4) λM m=>⟨?_,?_⟩
       rotate_left
       clear h
       intro τ h
       rotate_left)
    | (with_reducible refine IP.use (c9 n1 n2 n3 n4) λM m=>⟨?_,?_⟩
       rotate_left
       clear h
       intro τ h
       rotate_left)
    | (with_reducible refine IP.use (c10 n1 n2 n3 n4) λM m=>⟨?_,?_⟩
       rotate_left
       clear h
       intro τ h
       rotate_left)
    | (with_reducible refine IP.use (c11 n1 n2 n3 n4) λM m=>⟨?_,?_⟩
       rotate_left
       clear h
       intro τ h
       rotate_left)
    | (with_reducible refine IP.use (c12 n1 n2 n3 n4) λM m=>⟨?_,?_⟩
       rotate_left
       clear h
       intro τ h
       rotate_left)
    | (with_reducible refine IP.use (c13 n1 n2 n3 n4) λM m=>⟨?_,?_⟩
       rotate_left
       clear h
       intro τ h
       rotate_left)
    | (with_reducible refine IP.use (c14 n1 n2 n3 n4) λM m=>⟨?_,?_⟩
       rotate_left
       clear h
       intro τ h
       rotate_left)
    | (with_reducible refine IP.use (c15 n1 n2 n3 n4) λM m=>⟨?_,?_⟩
       rotate_left
       clear h
       intro τ h
       rotate_left)
    | (with_reducible refine IP.use (c16 n1 n2 n3 n4) λM m=>⟨?_,?_⟩
       rotate_left
       clear h
       intro τ h
       rotate_left)
    | (with_reducible refine IP.use (c17 n1 n2 n3 n4) λM m=>⟨?_,?_⟩
       rotate_left
       clear h
       intro τ h
       rotate_left)
    | (with_reducible refine IP.use (c18 n1 n2 n3 n4) λM m=>⟨?_,?_⟩
       rotate_left
       clear h
       intro τ h
       rotate_left)
    | (with_reducible refine IP.use (c19 n1 n2 n3 n4) λM m=>⟨?_,?_⟩
       rotate_left
       clear h
       intro τ h
       rotate_left)
    | (with_reducible refine IP.use (c20 n1 n2 n3 n4) λM m=>⟨?_,?_⟩
       rotate_left
       clear h
       intro τ h
       rotate_left)
    | (with_reducible refine IP.use (c21 n1 n2 n3 n4) λM m=>⟨?_,?_⟩
       rotate_left
       clear h
       intro τ h
       rotate_left)
    | (with_reducible refine IP.use (c22 n1 n2 n3 n4) λM m=>⟨?_,?_⟩
       rotate_left
       clear h
       intro τ h
       rotate_left)
    | (with_reducible refine IP.use (c23 n1 n2 n3 n4) λM m=>⟨?_,?_⟩
       rotate_left
       clear h
       intro τ h
       rotate_left)
    | (with_reducible refine IP.use (c24 n1 n2 n3 n4) λM m=>⟨?_,?_⟩
       rotate_left
       clear h
       intro τ h
       rotate_left)
    | (with_reducible refine IP.use (c25 n1 n2 n3 n4) λM m=>⟨?_,?_⟩
       rotate_left
       clear h
       intro τ h
       rotate_left)
    | (with_reducible refine IP.use (c26 n1 n2 n3 n4) λM m=>⟨?_,?_⟩
       rotate_left
       clear h
       intro τ h
       rotate_left)
    | (with_reducible refine IP.use (c27 n1 n2 n3 n4) λM m=>⟨?_,?_⟩
       rotate_left
       clear h
       intro τ h
       rotate_left)
    | (with_reducible refine IP.use (c28 n1 n2 n3 n4) λM m=>⟨?_,?_⟩
       rotate_left
       clear h
       intro τ h
       rotate_left)
    | (with_reducible refine IP.use (c29 n1 n2 n3 n4) λM m=>⟨?_,?_⟩
       rotate_left
       clear h
       intro τ h
       rotate_left)
    | (with_reducible refine IP.use (c30 n1 n2 n3 n4) λM m=>⟨?_,?_⟩
       rotate_left
       clear h
       intro τ h
       rotate_left)
    | (with_reducible refine VQ.use (l1 n1 n2 n3 n4) ?_ ?_
       . repeat with_reducible apply Exists.intro
         with_reducible refine⟨?_,h⟩
         simp +decide only[go_sem, *]
         done
       clear h
       rintro(_|n1) τ N h k
       . repeat (with_reducible first|refine exI h ?_|refine anI h ?_);clear h;intro _ h
         exact Bi h
       repeat (with_reducible first|refine exI h ?_|refine anI h ?_);clear h;intro _ h
       rw[Aa]at h)
    | (with_reducible refine VQ.use (l2 n1 n2 n3 n4) ?_ ?_
       . repeat with_reducible apply Exists.intro
         with_reducible refine⟨?_,h⟩
         simp +decide only[go_sem, *]
         done
       clear h
       rintro(_|n2) τ N h k
       . repeat (with_reducible first|refine exI h ?_|refine anI h ?_);clear h;intro _ h
         exact Bi h
       repeat (with_reducible first|refine exI h ?_|refine anI h ?_);clear h;intro _ h
       rw[C2]at h)
    | (with_reducible refine VQ.use (l3 n1 n2 n3 n4) ?_ ?_
       . repeat with_reducible apply Exists.intro
         with_reducible refine⟨?_,h⟩
         simp +decide only[go_sem, *]
         done
       clear h
       rintro(_|n3) τ N h k
       . repeat (with_reducible first|refine exI h ?_|refine anI h ?_);clear h;intro _ h
         exact Bi h
       repeat (with_reducible first|refine exI h ?_|refine anI h ?_);clear h;intro _ h
       rw[Gm]at h)
    | (with_reducible refine VQ.use (l4 n1 n2 n3 n4) ?_ ?_
       . repeat with_reducible apply Exists.intro
         with_reducible refine⟨?_,h⟩
         simp +decide only[go_sem, *]
         done
       clear h
       rintro(_|n4) τ N h k
       . repeat (with_reducible first|refine exI h ?_|refine anI h ?_);clear h;intro _ h
         exact Bi h
       repeat (with_reducible first|refine exI h ?_|refine anI h ?_);clear h;intro _ h
       rw[rI]at h)
    | (with_reducible refine RJ (by assumption) ?_
       repeat with_reducible apply Exists.intro
       with_reducible refine⟨?_,h⟩)
    |simp only[*,eq_self,AAs,AAe,AAW,decide_true,decide_false]at h
    | (with_reducible refine bI h ?_ ?_
       all_goals
         clear h
         intro _ h)
    |unfold L1 at h
    |unfold L2 at h
    |unfold L3 at h
    |unfold L4 at h
    |unfold J1 at h
    |unfold J2 at h
    |unfold J3 at h
    |unfold J4 at h
    |unfold J5 at h
    |unfold J6 at h
    |unfold J7 at h
    |unfold J8 at h
    |unfold J9 at h
    |unfold Th at h
    |unfold jJ at h
    |unfold J12 at h
    |unfold J13 at h
    |unfold J14 at h
    |unfold J15 at h
    |unfold J16 at h
    |unfold J17 at h
    |unfold J18 at h
    |unfold J19 at h
    |unfold J20 at h
    |unfold J21 at h
    |unfold J22 at h
    |unfold J23 at h
    |unfold J24 at h
    |unfold J25 at h
    |unfold J26 at h
    |unfold J27 at h
    |unfold J28 at h
    |unfold J29 at h
    |unfold J30 at h):p:=q
end Go.Abs
namespace Go.Abs
inductive A where
 |f (o s:Nat)|F (o s:Nat)|H (r o s:Nat)|h (r o s:Nat)|m (r o s:Nat)|u (o s:Nat)|U (o s:Nat)|L (s:Nat)|l (r s:Nat)|C (s:Nat)
 |Q (s:Nat) (k:Int)|q (s:Nat) (k:Int) (d:Nat)|P (op:BinOp) (s:Nat) (k:Int)|O (op:BinOp) (a b:Nat)|M (d s:Nat)|K (d:Nat) (k:Int)|B (d:Nat) (b:Bool)
 |S (k a b:Nat)|T (a:Nat) (k:Int)|I (k s i:Nat)|J (r k s i:Nat)|A (k s:Nat)|Z (s:Nat)|V (a b:Nat)|W (a b:Nat)|N (s:Nat)|Y (k:Int)
 |p (s o:Nat)|r (s o:Nat)|D (s:Nat)|c (f:Nat) (l:List Nat) (m:Nat)|G (a:Nat) (b:Bool)|e|w (n:Nat)|o (op:XJ)|y (r:Nat) (op:XJ)|x (op:BH)|b (d:Nat) (kl:List Nat) (op:XJ)
def tN:List Nat->List Ar
 |[]=>[]
 |s::l=>.t s::tN l
def MM:ABp (Nat×Bool)->Nat->List A->List BH
 |_,_,[]=>[]
 |g,n,.f o s::l=>⟨some ⟨n,[],[s]⟩,.Tu o (.t s),g⟩::⟨some ⟨n+1,[],[]⟩,.ld false 1 (.t n),g⟩::MM g (n+2) l
 |g,n,.F o s::l=>⟨some ⟨n,[],[s]⟩,.Tu o (.t s),g⟩::MM g (n+1) l
 |g,n,.H r o s::l=>⟨some ⟨n,[],[r]⟩,.Tu o (.t s),g⟩::MM g (n+1) l
 |g,n,.h r o s::l=>⟨some ⟨n,[],[r]⟩,.Tu o (.t s),g⟩::⟨some ⟨n+1,[],[]⟩,.ld false 1 (.t n),g⟩::MM g (n+2) l
 |g,n,.m r o s::l=>⟨some ⟨n,[],[r]⟩,.Tu o (.t s),g⟩::⟨some ⟨n+1,[],[r]⟩,.ld false 1 (.t n),g⟩::MM g (n+2) l
 |g,n,.u o s::l=>⟨some ⟨n,[],[]⟩,.Tu o (.t s),g⟩::MM g (n+1) l
 |g,n,.U o s::l=>⟨some ⟨n,[],[]⟩,.Tu o (.t s),g⟩::⟨some ⟨n+1,[],[]⟩,.ld false 1 (.t n),g⟩::MM g (n+2) l
 |g,n,.L s::l=>⟨some ⟨n,[],[]⟩,.ld false 1 (.t s),g⟩::MM g (n+1) l
 |g,n,.l r s::l=>⟨some ⟨n,[],[r]⟩,.ld false 1 (.t s),g⟩::MM g (n+1) l
 |g,n,.C s::l=>⟨some ⟨n,[],[]⟩,.cp (.t s),g⟩::MM g (n+1) l
 |g,n,.Q s k::l=>⟨some ⟨n,[],[]⟩,.bin .eql (.t s) (.c (.sc (.int .i64 k))),g⟩::MM g (n+1) l
 |g,n,.q s k d::l=>⟨some ⟨n,[],[]⟩,.bin .eql (.t s) (.c (.sc (.int .i64 k))),g⟩::⟨some ⟨d,[],[]⟩,.mv (.t n),g⟩::MM g (n+1) l
 |g,n,.P op s k::l=>⟨some ⟨n,[],[]⟩,.bin op (.t s) (.c (.sc (.int .i64 k))),g⟩::MM g (n+1) l
 |g,n,.O op a b::l=>⟨some ⟨n,[],[]⟩,.bin op (.t a) (.t b),g⟩::MM g (n+1) l
 |g,n,.M d s::l=>⟨some ⟨d,[],[]⟩,.mv (.t s),g⟩::MM g n l
 |g,n,.K d k::l=>⟨some ⟨d,[],[]⟩,.mv (.c (.sc (.int .i64 k))),g⟩::MM g n l
 |g,n,.B d b::l=>⟨some ⟨d,[],[]⟩,.mv (.c (.sc (.bool b))),g⟩::MM g n l
 |g,n,.S k a b::l=>⟨none,.st k (.t a) (.t b),g⟩::MM g n l
 |g,n,.T a k::l=>⟨none,.st 1 (.t a) (.c (.sc (.int .i64 k))),g⟩::MM g n l
 |g,n,.I k s i::l=>⟨some ⟨n,[],[]⟩,.VA k (.t s) (.t i),g⟩::MM g (n+1) l
 |g,n,.J r k s i::l=>⟨some ⟨n,[],[r]⟩,.VA k (.t s) (.t i),g⟩::MM g (n+1) l
 |g,n,.A k s::l=>⟨some ⟨n,[],[]⟩,.ld true k (.t s),g⟩::MM g (n+1) l
 |g,n,.Z s::l=>⟨some ⟨n,[],[]⟩,.len (.t s),g⟩::MM g (n+1) l
 |g,n,.V a b::l=>⟨some ⟨n,[],[]⟩,.pick (.t a) (.c (.sc (.bool true))) (.t b),g⟩::MM g (n+1) l
 |g,n,.W a b::l=>⟨some ⟨n,[],[]⟩,.pick (.t a) (.t b) (.c (.sc (.bool false))),g⟩::MM g (n+1) l
 |g,n,.N s::l=>⟨some ⟨n,[],[]⟩,.un .not (.t s),g⟩::MM g (n+1) l
 |g,n,.Y k::l=>⟨some ⟨n,[],[]⟩,.cp (.c (.sc (.int .i64 k))),g⟩::MM g (n+1) l
 |g,n,.p s o::l=>⟨some ⟨n,[],[s]⟩,.cp (.t s),g⟩::⟨some ⟨n+1,[],[s]⟩,.JT (.t n),g⟩::⟨some ⟨n+2,[],[s]⟩,.Tu o (.t (n+1)),g⟩::⟨some ⟨n+3,[],[]⟩,.ld false 1 (.t (n+2)),g⟩::MM g (n+4) l
 |g,n,.r s o::l=>⟨some ⟨n,[],[s]⟩,.cp (.t s),g⟩::⟨some ⟨n+1,[],[s]⟩,.JT (.t n),g⟩::⟨some ⟨n+2,[],[s]⟩,.Tu o (.t (n+1)),g⟩::⟨some ⟨n+3,[],[s]⟩,.ld false 1 (.t (n+2)),g⟩::MM g (n+4) l
 |g,n,.D s::l=>⟨some ⟨n,[],[s]⟩,.cp (.t s),g⟩::⟨some ⟨n+1,[],[s]⟩,.JT (.t n),g⟩::MM g (n+2) l
 |g,n,.c f a m::l=>⟨some ⟨n,[],[]⟩,.call f (tN a) m,g⟩::MM g (n+1) l
 |_,n,.G a b::l=>MM (some (a,b)) n l
 |_,n,.e::l=>MM none n l
 |g,_,.w n::l=>MM g n l
 |g,n,.o op::l=>⟨some ⟨n,[],[]⟩,op,g⟩::MM g (n+1) l
 |g,n,.y r op::l=>⟨some ⟨n,[],[r]⟩,op,g⟩::MM g (n+1) l
 |g,n,.x op::l=>op::MM g n l
 |g,n,.b d k op::l=>⟨some ⟨d,k,[]⟩,op,g⟩::MM g n l
def Ra (n:Nat) (l:List A) (b:IC):IC:=.seq (.OD (MM none n l)) b
def Rb (n:Nat) (l:List A):IC:=.seq (.OD (MM none n l)) .ret
def Rc (n:Nat) (l:List A):IC:=.OD (MM none n l)
def Cn (c:Nat) (a b:IC):IC:=.cond (.t c) a b
def Ci (c:Nat) (a:IC):IC:=.cond (.t c) a .skip
def Sq (a b:IC):IC:=.seq a b
def Bk (n:Nat) (a:IC):IC:=.block n a
def Bl (n:Nat) (a:IC):IC:=.block n (.loop a)
attribute [go_sem] tN MM Ra Rb Rc Cn Ci Sq Bk Bl
abbrev vS {α:Type} (k:Nat) (e:α->List AV) (l:List α):AV:=.sl false k (l.map e)
abbrev vO {α:Type} (k:Nat) (e:α->List AV) (l:List α):AV:=.own false k (l.map e)
attribute [go_sem] vS vO
section
variable {P:Program} {f:Nat} {fn:Func} {I:FI} {args:List AV} {res:AV} {outs:List AV}
theorem wO (hm:P.follows .mixedOrders=true) (hf:P.funcs[f]? =some fn) (h:HX P I.g I.c (Ends I.g I.r res) (start args)) (hc:JP P fn I=true:=by kernel_rfl) (hn:args.length≤fn.ntmps:=by exact AAa (by kernel_rfl)) (ha:args.all Il=true:=by rfl):Says P f args res:=Gu hm hf hc hn ha h
theorem wL (hm:P.follows .mixedOrders=true) (hf:P.funcs[f]? =some fn) (h:HX P I.g I.c (VN I.g I.r res outs) (start args)) (hc:JP P fn I=true:=by kernel_rfl) (hD:fI fn args.length=true:=by kernel_rfl) (hn:args.length≤fn.ntmps:=by exact AAa (by kernel_rfl)) (ha:args.all Il=true:=by rfl) (hl:outs.length=args.length:=by rfl):BD P f args res outs:=Sp hm hf hc hD hn ha hl h
end
end Go.Abs
namespace Go.Abs
inductive Yk where
 |b|t|i (k:IntKind)|s (l q:List Nat)|l (k b:Nat) (z:List AV)|a (n k:Nat) (g:Bool)|o
structure Y where
 z:List AV
 k:Yk
def lk {α:Type} (d:α):List (Nat×α)->Nat->α
 |[],_=>d
 | (k,x)::l,n=>if k=n then x else lk d l n
structure Hn where
 T:List (Nat×Y)
 C:List (Nat×Nat)
 L:List (Nat×Nat×ABp Nat)
 K:List (Nat×List Nat)
 Q:List (Nat×Nat)
 Z:List (Nat×Bool×Nat×List Step)
 F:List Nat
 E:List (Nat×IC)
def Hn.y (H:Hn) (t:Nat):Y:=lk ⟨[.sc (.int .i64 0)],.o⟩ H.T t
def Hn.n (H:Hn) (t:Nat):Nat:=(H.y t).z.length
def Hn.g (H:Hn) (t:Nat):Bool:=match(H.y t).k with
 | .s .. =>true
 | .a .. =>true
 |_=>false
def Hn.e (H:Hn) (t:Nat):Nat:=match(H.y t).k with
 | .l k .. =>k
 | .a _ k _=>k
 |_=>1
def fOf:Nat->List Nat->Nat->Nat×Nat×Bool
 |o,0::_,0=>(o,1,false)
 |o,n::_,0=>(o,n,true)
 |o,0::l,i+1=>fOf (o+1) l i
 |o,n::l,i+1=>fOf (o+n) l i
 |o,[],_=>(o,1,false)
def Hn.f (H:Hn) (t i:Nat):Nat×Nat×Bool:=match(H.y t).k with
 | .s l _=>fOf 0 l i
 | .a _ k g=>(i*k,k,g)
 |_=>(0,1,false)
def Hn.zv (H:Hn) (t:Nat):AV:=if H.g t then .agg (H.y t).z else(H.y t).z.headD .un
def inA (d:Nat):List Nat->Bool
 |[]=>false
 |x::l=>match compare x d with
  | .lt=>inA d l
  | .eq=>true
  | .gt=>false
def rsK (d:Nat):List (Nat×List Nat)->List Nat
 |[]=>[]
 | (r,x)::l=>if inA d x then r::rsK d l else rsK d l
def Hn.rs (H:Hn) (d:Nat):List Nat:=rsK d H.K
def Hn.d (H:Hn) (d:Nat):Dg:=⟨d,lk [] H.K d,H.rs d⟩
def insA (x:Nat):List Nat->List Nat
 |[]=>[x]
 |y::l=>match compare x y with
  | .lt=>x::y::l
  | .eq=>y::l
  | .gt=>y::insA x l
def mrg:List (Nat×List Nat)->List Nat
 |[]=>[]
 |[(_,l)]=>l
 | (_,l)::k=>(mrg k).foldl (λa x=>insA x a) l
def Hn.G (H:Hn):Gi:=⟨(mrg H.K).map λd=>(d,H.rs d)⟩
def cst (H:Hn) (t:Nat) (f:Bool):Value->AV
 | .slice none 0 0=>if f then .sl false (H.e t) []else .own false (H.e t) []
 | .agg _=>.agg (H.y t).z
 |v=>.sc v
def oa (H:Hn) (t:Nat):Operand->Ar
 | .tmp s=>.t s
 | .const v=>.c (cst H t false v)
 |_=>.c .un
def of (H:Hn) (t:Nat) (f:Bool):Operand->Ar
 | .const v=>.c (cst H t f v)
 |x=>oa H t x
def oas (H:Hn):List Operand->List Nat->List Ar
 |x::l,t::m=>oa H t x::oas H l m
 |_,_=>[]
def gop (H:Hn) (ty:Nat) (f:Bool):Op->XJ
 | .move x=>.cp (of H ty f x)
 | .assign x=>.mv (of H ty f x)
 | .pick c a b=>.pick (oa H 0 c) (oa H 0 a) (oa H 0 b)
 | .alloc t=>.bx (H.n t) (.c (H.zv t))
 | .box t x=>.bx (H.n t) (oa H t x)
 | .build t ps=>.RD (H.y t).z (ps.toList.map λp=>((H.f t p.1).1,(H.f t p.1).2.1,oa H 0 p.2))
 | .buildSlice t n ps=>match(H.y t).k with
  | .l k _ z=>.Mr k (List.replicate n z) (ps.toList.map λp=>(p.1,oa H 0 p.2))
  |_=>.bad
 | .load t a=>.ld (H.g t) (H.n t) (oa H 0 a)
 | .store t a v=>.st (H.n t) (oa H 0 a) (oa H t v)
 | .nilCheck x=>.JT (oa H 0 x)
 | .binOp op t x y _=>match(H.y t).k with
  | .b=>.beq (match op with| .neq=>true|_=>false) (oa H 0 x) (oa H 0 y)
  | .s _ q=>.Up (match op with| .neq=>true|_=>false) q (oa H t x) (oa H t y)
  |_=>.bin op (oa H 0 x) (oa H 0 y)
 | .unOp op _ x=>.un op (oa H 0 x)
 | .convert _ d x=>.cvt (match(H.y d).k with| .i k=>k|_=>.i64) (oa H 0 x)
 | .fieldAddr t x f=>.Tu (H.f t f).1 (oa H 0 x)
 | .field t x f=>.fld (H.f t f).2.2 (H.f t f).1 (H.f t f).2.1 (oa H 0 x)
 | .indexAddr t x i=>match(H.y t).k with
  | .a n k _=>.aad n k (oa H 0 x) (oa H 0 i)
  |_=>.VA (H.e t) (oa H 0 x) (oa H 0 i)
 | .index t x i=>match(H.y t).k with
  | .a n k g=>.idx g n k (oa H 0 x) (oa H 0 i)
  |_=>.X4 (oa H 0 x) (oa H 0 i)
 | .slice t x l h m=>.sF (H.e t) true (oa H 0 x) (l.map (oa H 0)) (h.map (oa H 0)) (m.map (oa H 0))
 | .extract x i=>.ext (oa H 0 x) i
 | .makeSlice t l c=>match(H.y t).k with
  | .l k b z=>.mk k b z (oa H 0 l) (oa H 0 c)
  |_=>.bad
 | .call c=>match c.callee,oas H c.args.toList c.argTypes.toList,c.argTypes.toList with
  | .builtin .len,[x],[t]=>(match(H.y t).k with| .t=>.Te x|_=>.len x)
  | .builtin .append,[x,y],t::_=>(match(H.y t).k with| .l k b _=>.app k b x y|_=>.bad)
  | .builtin .max,[x,y],_=>.mm true x y
  | .builtin .min,[x,y],_=>.mm false x y
  | .value (.func f),xs,_=>(match lk none (H.L.map λx=>(x.1,some x.2)) f with
   |some (i,c)=>(match xs.drop i with|x::post=>.WN f (xs.take i) x c post|_=>.bad)
   |none=>.call f xs (lk 0 H.C f))
  |_,_,_=>.bad
 |_=>.bad
def gor (H:Hn) (ops:Array Oper) (o:Oper):BH:=⟨o.dst.map H.d,gop H o.type (match o.dst with|some d=>H.F.contains d|none=>false) o.op,o.guard.map λg=>(((ops[g.1]?).bind (·.dst)).getD 0,g.2)⟩
def gzw:List (Nat×Bool×Nat×List Step)->Nat->IC->IC
 |[],_,c=>c
 | (i,b,r,p)::l,n,c=>gzw l n (if i=n then .gz b r p c else c)
def rgn (H:Hn) (id:Nat) (ops:Array Oper):IC:=match lk none (H.E.map λx=>(x.1,some x.2)) id with
 |some c=>c
 |none=>gzw H.Z id (.OD (ops.toList.map (gor H ops)))
def gco (H:Hn) (C:Nat->IC->IC->IC) (R:Nat->Array Oper->IC):Nat->Code->Nat×IC
 |n,.region id ops _=>(n,R id ops)
 |n,.seq a b=>match gco H C R (n+1) a with
  | (m,a')=>match gco H C R m b with
   | (k,b')=>(k,match lk 0 H.Q n with|0=>.seq a' b'|j=>C j a' b')
 |n,.cond c a b=>match gco H C R n a with
  | (m,a')=>match gco H C R m b with
   | (k,b')=>(k,.cond (oa H 0 c) a' b')
 |n,.block id a=>match gco H C R n a with| (m,a')=>(m,.block id a')
 |n,.loop a=>match gco H C R n a with| (m,a')=>(m,.loop a')
 |n,.scope a=>gco H C R n a
 |n,.exit id=>(n,.exit id)
 |n,.ret=>(n,.ret)
 |n,.skip=>(n,.skip)
 |n,.label _=>(n,.skip)
 |n,_=>(n,.bad)
def mkI (H:Hn) (C:Nat->IC->IC->IC) (R:Nat->Array Oper->IC) (fn:Func):FI:=⟨(gco H C R 0 (fn.body.getD .skip)).2,H.G,fn.results.toList.map λ
 | .tmp t=>.tmp t
 | .cell a t=>.cell a (H.g t) (H.n t)⟩
theorem arrMk {α:Type} (l:List α):Array.mk l=l.toArray:=(rfl)
attribute [go_sem] arrMk
theorem awp_cg {P:Program} {G:Gi} {c:IC} {Q:Exit->Sg->Prop} {σ τ:Sg} (h:σ=τ):HX P G c Q σ=HX P G c Q τ:=h▸rfl
theorem aops_cg {P:Program} {G:Gi} {l:List BH} {K:Sg->Prop} {σ τ:Sg} (h:σ=τ):Mo P G l K σ=Mo P G l K τ:=h▸rfl
theorem bK_cg {K:Sg->Prop} {x y:ABp Sg} (h:x=y):bK x K=bK y K:=h▸rfl
theorem uY {a b:Sg->Prop} {x y:AV} {σ τ:Sg} (h:x=y) (g:σ=τ):RQ x a b σ=RQ y a b τ:=h▸g▸rfl
theorem gK_cg {a b:Sg->Prop} {w:Bool} {x y:AV} {σ τ:Sg} (h:x=y) (g:σ=τ):gK x w a b σ=gK y w a b τ:=h▸g▸rfl
theorem AAI {d:ABp Dg} {v u:AV} {K:Sg->Prop} {σ τ:Sg} (h:v=u) (g:σ=τ):CM d v K σ=CM d u K τ:=h▸g▸rfl
theorem resK_cg {d:ABp Dg} {v u:ABp AV} {K:Sg->Prop} {σ τ:Sg} (h:v=u) (g:σ=τ):iT v d K σ=iT u d K τ:=h▸g▸rfl
attribute [congr] awp_cg aops_cg bK_cg uY gK_cg AAI resK_cg
section
variable {P:Program} {f:Nat} {fn:Func} {args:List AV} {res:AV} {outs:List AV}
def Run (P:Program) (fn:Func) (H:Hn) (E:Gi->List RV->Exit->Sg->Prop) (args:List AV):Prop:=∀C R I,C=Ny->R=rgn H->mkI H C R fn=I->HX P I.g I.c (E I.g I.r) (start args)
theorem kO (hm:P.follows .mixedOrders=true) (hf:P.funcs[f]? =some fn) (H:Hn) (h:Run P fn H (Ends · · res) args) (hc:JP P fn (mkI H Ny (rgn H) fn)=true:=by kernel_rfl) (hn:args.length≤fn.ntmps:=by exact AAa (by kernel_rfl)) (ha:args.all Il=true:=by rfl):Says P f args res:=Gu hm hf hc hn ha (h _ _ _ rfl rfl rfl)
theorem kF (hm:P.follows .mixedOrders=true) (hf:P.funcs[f]? =some fn) (H:Hn) (h:Run P fn H (jS · · res) args) (hc:JP P fn (mkI H Ny (rgn H) fn)=true:=by kernel_rfl) (hn:args.length≤fn.ntmps:=by exact AAa (by kernel_rfl)) (ha:args.all Il=true:=by rfl):Says P f args res:=cU hm hf hc hn ha (h _ _ _ rfl rfl rfl)
theorem kL (hm:P.follows .mixedOrders=true) (hf:P.funcs[f]? =some fn) (H:Hn) (h:Run P fn H (VN · · res outs) args) (hc:JP P fn (mkI H Ny (rgn H) fn)=true:=by kernel_rfl) (hD:fI fn args.length=true:=by kernel_rfl) (hn:args.length≤fn.ntmps:=by exact AAa (by kernel_rfl)) (ha:args.all Il=true:=by rfl) (hl:outs.length=args.length:=by rfl):BD P f args res outs:=Sp hm hf hc hD hn ha hl (h _ _ _ rfl rfl rfl)
theorem kP (hm:P.follows .mixedOrders=true) (hf:P.funcs[f]? =some fn) (H:Hn) (h:Run P fn H (jT · · res outs) args) (hc:JP P fn (mkI H Ny (rgn H) fn)=true:=by kernel_rfl) (hD:fI fn args.length=true:=by kernel_rfl) (hn:args.length≤fn.ntmps:=by exact AAa (by kernel_rfl)) (ha:args.all Il=true:=by rfl) (hl:outs.length=args.length:=by rfl):BD P f args res outs:=qK hm hf hc hD hn ha hl (h _ _ _ rfl rfl rfl)
end
end Go.Abs
namespace Go.Abs
open Go.ChangeShapes Go.WideShapes Go.ChangeAt Go.RowKit
def Old (w:World) (b:Nat):Prop:=b<w.heap.size
def Cells (w:World) (Dt:List AV) (cs:List Value):Prop:=Dt.length=cs.length/\∀(i:Nat) a v,Dt[i]? =some a->cs[i]? =some v->Fz w (Old w) a v
theorem Cells.append {w:World} {a1 a2:List AV} {c1 c2:List Value} (h1:Cells w a1 c1) (h2:Cells w a2 c2):Cells w (a1++a2) (c1++c2):=by
 refine⟨by simp[h1.1,h2.1],λi a v ha hv=> ?_⟩
 by_cases hi:i<a1.length
 . rw[AAr hi]at ha
   rw[AAr (by rw[← h1.1];exact hi)]at hv
   exact h1.2 i a v ha hv
 . rw[AAt (by omega)]at ha
   rw[AAt (by rw[← h1.1];omega)]at hv
   rw[← h1.1]at hv
   exact h2.2 _ a v ha hv
theorem Cells.nil (w:World):Cells w [] []:=⟨rfl,λi a v h=>by simp at h⟩
theorem Cells.one {w:World} {a:AV} {v:Value} (h:Fz w (Old w) a v):Cells w [a] [v]:=by
 refine⟨rfl,λi a' v' ha hv=> ?_⟩
 cases i with
 |zero=>simp at ha hv;subst ha;subst hv;exact h
 |succ i=>simp at ha
def Light {H:Type} (P:Program) (t:TypeId) (d:DataW H):Prop:=∀n∈d.weights P t,n≤reachBytes
def Hf (P:Program) (t:TypeId) (X:List AV->Prop):Prop:=
 ∀(H:Type) (enc:TypeId×Value->H) (w:World) (fuel:Nat) (cs:List Value) (d:DataW H) (ps:List MemPlace),
  DataW.trod enc P w 0 (λ_=>true) true fuel t cs=some (d,ps)->Light P t d->∃Dt,X Dt/\Cells w Dt cs
theorem Hf.mono {P:Program} {t:TypeId} {X Y:List AV->Prop} (h:Hf P t X) (hXY:∀a,X a->Y a):Hf P t Y:=by
 intro H enc w fuel cs d ps ht hl
 obtain⟨Dt,hx,hc⟩:=h H enc w fuel cs d ps ht hl
 exact⟨Dt,hXY _ hx,hc⟩
theorem yY {P:Program} {t:TypeId} (h:P.underlying t=some .bool):Hf P t (λDt=>∃b,Dt=[sb b]):=by
 intro H enc w fuel cs d ps ht hl
 cases fuel with
 |zero=>simp[DataW.trod]at ht
 |succ fuel=>
  unfold DataW.trod at ht
  rw[h]at ht
  split at ht<;>rename_i h1<;>try (cases h1;done)
  . exact⟨_,⟨_,rfl⟩,Cells.one (.sc _ rfl)⟩
  . cases ht
theorem Yj {P:Program} {t:TypeId} {k:IntKind} (h:P.underlying t=some (.int k)):Hf P t (λDt=>∃n,Dt=[.sc (.int k n)]/\(Lit.int k n).wf=true):=by
 intro H enc w fuel cs d ps ht hl
 cases fuel with
 |zero=>simp[DataW.trod]at ht
 |succ fuel=>
  unfold DataW.trod at ht
  rw[h]at ht
  split at ht<;>rename_i h1<;>try (cases h1;done)
  . cases h1
    split at ht
    . rename_i hw
      obtain⟨rfl,hw⟩:=hw
      exact⟨_,⟨_,rfl,hw⟩,Cells.one (.sc _ rfl)⟩
    . cases ht
  . cases ht
theorem lN {P:Program} {t:TypeId} (h:P.underlying t=some .string):Hf P t (λDt=>∃s:ABq,Dt=[.sc (.string s)]/\s.size≤reachBytes):=by
 intro H enc w fuel cs d ps ht hl
 cases fuel with
 |zero=>simp[DataW.trod]at ht
 |succ fuel=>
  unfold DataW.trod at ht
  rw[h]at ht
  split at ht<;>rename_i h1<;>try (cases h1;done)
  . split at ht
    . rename_i s hs
      simp only[AAN,AAc]at ht
      obtain⟨rfl,rfl⟩:=ht
      refine⟨_,⟨s,rfl,?_⟩,Cells.one (.sc _ rfl)⟩
      have:=hl s.data.toList.length (by simp[DataW.weights])
      simpa using this
    . cases ht
  . cases ht
theorem RL {w:World} {a:Addr} {n:Nat} {cs:List Value} (h:w.cells? 0 a n=some cs):cs.length=n/\∀(j:Nat) v,cs[j]? =some v->w.cell? (a.add j)=some v:=by
 unfold World.cells? at h
 rw[AAY (Nat.zero_le _)]at h
 have hlen:=mapM_some_length h
 rw[List.length_range]at hlen
 refine⟨hlen,λj v hj=> ?_⟩
 have hjn:j<n:=by rw[← hlen];exact(AAQ.1 hj).1
 have:=mapM_some_get h j j (by simp[hjn])
 rw[this];exact hj
theorem XF {H:Type} {P:Program} {e:TypeId} {l:List (DataW H)} {d:DataW H} (hd:d∈l) {n:Nat} (hn:n∈d.weights P e):n∈DataW.weightsAll P e l:=by
 induction l with
 |nil=>simp at hd
 |cons x l ih=>
  rw[DataW.weightsAll,AAj]
  rcases AAp.1 hd with rfl|hd
  . exact .inl hn
  . exact .inr (ih hd)
theorem kA {w:World} {a:Addr} {v:Value} (h:w.cell? a=some v):a.spot=none/\a.block<w.heap.size:=by
 unfold World.cell? at h
 split at h
 . rename_i c e f1 f2 hb
   refine⟨?_,(AAz.1 hb).1⟩
   cases hs:a.spot with
   |none=>rfl
   |some x=>simp[hs]at h
 . cases h
theorem Je {P:Program} {t e:TypeId} {k:Nat} {X:List AV->Prop} (h:P.underlying t=some (.slice e)) (hk:P.cellsOf e=k) (aZ:0<k) (he:Hf P e X):
 Hf P t (λDt=>∃rows,Dt=[.sl false k rows]/\(∀row∈rows,X row/\row.length=k)/\rows.length*P.bytesOf e≤reachBytes):=by
 intro H enc w fuel cs d ps ht hl
 cases fuel with
 |zero=>simp[DataW.trod]at ht
 |succ fuel=>
  unfold DataW.trod at ht
  rw[h]at ht
  split at ht<;>rename_i h1<;>try (cases h1;done)
  . exact⟨_,⟨[],rfl,by simp,by simp⟩,Cells.one (.nil _ _ _ _ (by simp))⟩
  . rename_i e' a len cap
    obtain rfl:e=e':=by simpa using h1
    simp only[hk]at ht
    split at ht
    . rename_i hc
      cases hm:(List.range len).mapM (λi=>(w.cells? 0 (a.add (i*k)) k).bind (DataW.trod enc P w 0 (λ_=>true) true fuel e))with
      |none=>simp[hm]at ht
      |some elems=>
       rw[hm]at ht
       simp only[AAO,AAs,AAm,AAc]at ht
       obtain⟨rest,_,rfl,_⟩:=ht
       have hlen:elems.length=len:=by have:=mapM_some_length hm;simpa using this
       -- each element
       have hel:∀i,i<len->∃csi x Dt,w.cells? 0 (a.add (i*k)) k=some csi/\elems[i]? =some x/\X Dt/\Cells w Dt csi:=by
        intro i hi
        have:=mapM_some_get hm i i (by simp[hi])
        cases S5:w.cells? 0 (a.add (i*k)) k with
        |none=>
         rw[S5]at this
         have h2:elems[i]? =some elems[i]:=AAT (by omega)
         rw[h2]at this;simp at this
        |some csi=>
         rw[S5]at this
         have h2:elems[i]? =some elems[i]:=AAT (by omega)
         rw[h2,AAO]at this
         obtain⟨Dt,hx,hcc⟩:=he H enc w fuel csi elems[i].1 elems[i].2 this (λn hn=>hl n (by
          rw[DataW.weights,h]
          simp only[AAp,AAj]
          exact .inr (.inl (XF (ABP (AAi (by omega))) hn))))
         exact⟨csi,_,Dt,rfl,h2,hx,hcc⟩
       have hw:∃f:Nat->List AV×List Value,∀i,i<len->w.cells? 0 (a.add (i*k)) k=some (f i).2/\X (f i).1/\Cells w (f i).1 (f i).2:=by
        refine⟨λi=>if hi:i<len then((hel i hi).choose_spec.choose_spec.choose,(hel i hi).choose)else([],[]),λi hi=> ?_⟩
        have:=(hel i hi).choose_spec.choose_spec.choose_spec
        simp only[hi,dif_pos]
        exact⟨this.1,this.2.2⟩
       obtain⟨f,hf⟩:=hw
       let rows:=(List.range len).map λi=>(f i).1
       have dY:rows.length=len:=by simp[rows]
       have DZ:∀i row,rows[i]? =some row->i<len/\row=(f i).1:=by
        intro i row hr
        have hi:i<len:=by rw[← dY];exact(AAQ.1 hr).1
        refine⟨hi,?_⟩
        simp only[rows,AAZ,List.getElem?_range hi,AAl,AAN]at hr
        exact hr.symm
       have hrk:∀i,i<len->(f i).1.length=k:=λi hi=>by
        rw[(hf i hi).2.2.1];exact(RL (hf i hi).1).1
       refine⟨_,⟨rows,rfl,?_,?_⟩,Cells.one ?_⟩
       . intro row hr
         obtain⟨i,hi⟩:=List.mem_iff_getElem?.1 hr
         obtain⟨h2,rfl⟩:=DZ i row hi
         exact⟨(hf i h2).2.1,hrk i h2⟩
       . have:=hl ((elems.map (·.1)).length+(rest.map (·.1)).length) |> λ_=>hl (((elems.map (·.1)).length+(rest.map (·.1)).length)*P.bytesOf e) (by rw[DataW.weights,h];simp)
         rw[dY]
         refine ABO (ABN _ ?_) this
         simp[hlen]
       . by_cases h0:len=0
         . subst h0
           have hr0:rows=[]:=ABm dY
           rw[hr0]
           exact .nil _ _ _ _ (by simp)
         . have BR:∀i j row c,rows[i]? =some row->row[j]? =some c->∃v,(f i).2[j]? =some v/\w.cell? ((a.add (i*k)).add j)=some v/\Fz w (Old w) c v:=by
            intro i j row c h2 h3
            obtain⟨h4,rfl⟩:=DZ i row h2
            have hj:j<(f i).2.length:=by rw[← (hf i h4).2.2.1];exact(AAQ.1 h3).1
            have h5:(f i).2[j]? =some (f i).2[j]:=AAT hj
            exact⟨_,h5,(RL (hf i h4).1).2 j _ h5,(hf i h4).2.2.2 j c _ h3 h5⟩
           obtain⟨r0,hr0⟩:∃r0,rows[0]? =some r0:=⟨rows[0]'(by omega),AAT _⟩
           obtain⟨_,e0⟩:=DZ 0 r0 hr0
           obtain⟨c0,hc0⟩:∃c0,r0[0]? =some c0:=⟨r0[0]'(by rw[e0,hrk 0 (by omega)];exact aZ),AAT _⟩
           obtain⟨v0,_,hv0,_⟩:=BR 0 0 r0 c0 hr0 hc0
           obtain⟨hsp,Rg⟩:=kA hv0
           obtain⟨b,off,sp⟩:=a
           obtain rfl:sp=none:=by
            unfold Addr.add at hsp
            simp only[AAs]at hsp
            split at hsp
            . exact hsp
            . cases sp<;>simp_all
           rw[Addr.add_lit,Addr.add_lit]at Rg
           have hsl:=Fz.sl (w:=w) (S:=Old w) false k rows b off cap (λi j=>((f i).2[j]?).getD undef) (by simp) (by rw[dY];exact hc.2.1) Rg (by
            intro row hr
            obtain⟨i,hi⟩:=List.mem_iff_getElem?.1 hr
            obtain⟨h2,rfl⟩:=DZ i row hi
            exact hrk i h2) (by
            intro i j row c h2 h3
            obtain⟨v,h4,h5,_⟩:=BR i j row c h2 h3
            rw[h4]
            rw[Addr.add_lit,Addr.add_lit]at h5
            rw[show off+(i*k+j)=off+i*k+j from by omega]
            exact h5) (by
            intro i j row c h2 h3
            obtain⟨v,h4,_,h6⟩:=BR i j row c h2 h3
            rw[h4]
            exact h6)
           rw[dY]at hsl
           exact hsl
    . cases ht
  . cases ht
end Go.Abs
namespace Go.Abs
open Go.ChangeShapes Go.WideShapes Go.ChangeAt Go.RowKit
def CatX:List (List AV->Prop)->List AV->Prop
 |[],Dt=>Dt=[]
 |X::Xs,Dt=>∃a r,Dt=a++r/\X a/\CatX Xs r
def eK (P:Program):List Field->Nat->List (List AV->Prop)->Prop
 |[],_,[]=>True
 |f::fs,off,X::Xs=>f.offset=off/\Hf P f.type X/\eK P fs (off+P.cellsOf f.type) Xs
 |_,_,_=>False
def MT (P:Program):List Field->Nat->Nat
 |[],off=>off
 |f::fs,off=>MT P fs (off+P.cellsOf f.type)
theorem ZN {P:Program} {H:Type} {enc:TypeId×Value->H} {w:World} {fuel:Nat} {cs:List Value} (fs:List Field):∀(off:Nat) (Xs:List (List AV->Prop)) (xs:List (DataW H×List MemPlace)),eK P fs off Xs->MT P fs off≤cs.length->
 fs.mapM (λf=>DataW.trod enc P w 0 (λ_=>true) true fuel f.type ((cs.drop f.offset).take (P.cellsOf f.type)))=some xs->(∀n∈DataW.weightsEach P (fs.map (·.type)) (xs.map (·.1)),n≤reachBytes)->
 ∃Dt,CatX Xs Dt/\Cells w Dt ((cs.drop off).take (MT P fs off-off)):=by
 induction fs with
 |nil=>
  intro off Xs xs hO hle hm hw
  cases Xs with
  |nil=>exact⟨[],rfl,by simp[MT,Cells.nil]⟩
  |cons=>exact hO.elim
 |cons f fs ih=>
  intro off Xs xs hO hle hm hw
  cases Xs with
  |nil=>exact hO.elim
  |cons X Xs=>
   obtain⟨ho,hX,hO⟩:=hO
   rw[List.mapM_cons]at hm
   cases h1:DataW.trod enc P w 0 (λ_=>true) true fuel f.type ((cs.drop f.offset).take (P.cellsOf f.type))with
   |none=>simp[h1]at hm
   |some x=>
    cases h2:fs.mapM (λf=>DataW.trod enc P w 0 (λ_=>true) true fuel f.type ((cs.drop f.offset).take (P.cellsOf f.type)))with
    |none=>simp[h1,h2]at hm
    |some ys=>
     simp only[h1,h2,Option.pure_def,Option.bind_eq_bind,AAO,AAN]at hm
     subst hm
     simp only[AAg,DataW.weightsEach,AAj]at hw
     obtain⟨a,ha,JI⟩:=hX H enc w fuel _ x.1 x.2 h1 (λn hn=>hw n (.inl hn))
     obtain⟨r,hr,hcr⟩:=ih (off+P.cellsOf f.type) Xs ys hO (by simpa[MT]using hle) h2 (λn hn=>hw n (.inr hn))
     refine⟨a++r,⟨a,r,rfl,ha,hr⟩,?_⟩
     have l8:∀(l:List Field) (o:Nat),o≤MT P l o:=by
      intro l
      induction l with
      |nil=>intro o;exact AAy _
      |cons g l ih=>intro o;have:=ih (o+P.cellsOf g.type);simp only[MT];omega
     have h3:=l8 fs (off+P.cellsOf f.type)
     have e:(cs.drop off).take (MT P (f::fs) off-off)=(cs.drop f.offset).take (P.cellsOf f.type)++(cs.drop (off+P.cellsOf f.type)).take (MT P fs (off+P.cellsOf f.type)-(off+P.cellsOf f.type)):=by
      rw[ho,← List.drop_drop]
      simp only[MT]
      rw[show MT P fs (off+P.cellsOf f.type)-off=P.cellsOf f.type+(MT P fs (off+P.cellsOf f.type)-(off+P.cellsOf f.type))from by omega,List.take_add]
     rw[e]
     exact JI.append hcr
theorem KC {P:Program} {t:TypeId} {fs:Array Field} {Xs:List (List AV->Prop)} (h:P.underlying t=some (.struct fs)) (hO:eK P fs.toList 0 Xs) (wQ:MT P fs.toList 0=P.cellsOf t):Hf P t (CatX Xs):=by
 intro H enc w fuel cs d ps ht hl
 cases fuel with
 |zero=>simp[DataW.trod]at ht
 |succ fuel=>
  simp only[DataW.trod,h]at ht
  . split at ht
    . rename_i hc
      cases hm:fs.toList.mapM (λf=>DataW.trod enc P w 0 (λ_=>true) true fuel f.type ((cs.drop f.offset).take (P.cellsOf f.type)))with
      |none=>simp[hm]at ht
      |some xs=>
       simp only[hm,AAl,AAN,AAc]at ht
       obtain⟨rfl,rfl⟩:=ht
       obtain⟨Dt,hX,GX⟩:=ZN fs.toList 0 Xs xs hO (by rw[wQ,hc];exact AAy _) hm (λn hn=>hl n (by rw[DataW.weights,h];exact hn))
       refine⟨Dt,hX,?_⟩
       rw[wQ,← hc]at GX
       simpa using GX
    . cases ht
def XQ (P:Program) (t:TypeId) (Dt:List AV):AV:=if(match P.underlying t with|some (.struct _)=>true|some (.array _ _)=>true|_=>false)=true then .agg Dt else Dt.headD .dead
def sO (P:Program):List TypeId->List (List AV->Prop)->List AV->Prop
 |[],[],as'=>as'=[]
 |t::ts,X::Xs,as'=>∃Dt r,as'=XQ P t Dt::r/\X Dt/\sO P ts Xs r
 |_,_,_=>False
def eJ (P:Program):List TypeId->List (List AV->Prop)->Prop
 |[],[]=>True
 |t::ts,X::Xs=>Hf P t X/\eJ P ts Xs
 |_,_=>False
theorem mO {P:Program} {H:Type} {enc:TypeId×Value->H} {w:World} {base:Nat} (ts:List TypeId):∀(Xs:List (List AV->Prop)) (vs:List Value) (ds:List (DataW H)) (ps:List MemPlace),eJ P ts Xs->DataW.TrodAll enc P w 0 (λ_=>true) true ts vs ds ps->
 (∀(j:Nat) t v,ts[j]? =some t->vs[j]? =some v->Value.okWide P w .any base t v)->(∀n∈DataW.weightsEach P ts ds,n≤reachBytes)->
 ∃as':List AV,sO P ts Xs as'/\as'.length=vs.length/\∀(i:Nat) a v,as'[i]? =some a->vs[i]? =some v->Fz w (Old w) a v:=by
 induction ts with
 |nil=>
  intro Xs vs ds ps hO hT hv hw
  obtain⟨rfl,rfl,rfl⟩:=trodAll_nil hT
  cases Xs with
  |nil=>exact⟨[],rfl,rfl,λi a v h=>by simp at h⟩
  |cons=>exact hO.elim
 |cons t ts ih=>
  intro Xs vs ds ps hO hT hv hw
  cases Xs with
  |nil=>exact hO.elim
  |cons X Xs=>
   obtain⟨hX,hO⟩:=hO
   obtain⟨v,vs1,d,ds1,p,q,rfl,rfl,rfl,⟨fuel,h1⟩,h2⟩:=trodAll_cons hT
   simp only[DataW.weightsEach,AAj]at hw
   obtain⟨Dt,hx,hc⟩:=hX H enc w fuel _ d p h1 (λn hn=>hw n (.inl hn))
   obtain⟨r,hr1,hr2,hr3⟩:=ih Xs vs1 ds1 q hO h2 (λj t' v' oW bJ=>hv (j+1) t' v' (by simpa using oW) (by simpa using bJ)) (λn hn=>hw n (.inr hn))
   have BP:=hv 0 t v rfl rfl
   refine⟨XQ P t Dt::r,⟨Dt,r,rfl,hx,hr1⟩,by simp[hr2],?_⟩
   intro i a u ha hu
   cases i with
   |succ i=>simp at ha hu;exact hr3 i a u ha hu
   |zero=>
    simp only[AAw,AAN]at ha hu
    subst ha;subst hu
    unfold XQ
    by_cases wE:(match P.underlying t with|some (.struct _)=>true|some (.array _ _)=>true|_=>false)=true
    . rw[AAY wE]
      obtain⟨cs,rfl⟩:∃cs,v= .agg cs:=by
       unfold Value.okWide at BP
       split at BP
       . exact⟨_,BP.choose_spec.1⟩
       . exact⟨_,BP.choose_spec.1⟩
       . rename_i h3 h4
         exfalso
         split at wE
         . rename_i fs hh;exact h3 fs hh
         . rename_i n e hh;exact h4 n e hh
         . cases wE
      have:=Fz.agg (w:=w) (S:=Old w) Dt cs.toList (by rw[hc.1];rfl) (λi a v ha hv=>hc.2 i a v ha hv)
      simpa using this
    . rw[AAX wE]
      have BR:v.cells.toList=[v]:=by
       unfold Value.okWide at BP
       split at BP
       . rename_i hh;simp[hh]at wE
       . rename_i hh;simp[hh]at wE
       . cases v with
         |agg cs=>
          exfalso
          unfold Cell.okWide at BP
          split at BP<;>rename_i bJ<;>try (cases bJ;done)
          . simp[Cell.ok]at BP
         |_=>rfl
      rw[BR]at hc
      obtain⟨a,rfl⟩:∃a,Dt=[a]:=List.length_eq_one_iff.1 hc.1
      exact hc.2 0 a v rfl rfl
end Go.Abs
namespace Go.Abs
open Go.ChangeShapes Go.WideShapes Go.ChangeAt Go.RowKit
theorem Vq {w:World} {S:Nat->Prop} (cs:List AV):∀(vs:List Value),vs.length=cs.length->(∀(i:Nat) a v,cs[i]? =some a->vs[i]? =some v->∃D:DV,D.er=a/\D.Aq=v/\Ok w S D (λ_=>False))->
 ∃Ds:List DV,Ds.map DV.er=cs/\Ds.map DV.Aq=vs/\∀D∈Ds,Ok w S D (λ_=>False):=by
 induction cs with
 |nil=>intro vs h _;cases vs with|nil=>exact⟨[],rfl,rfl,by simp⟩|cons=>simp at h
 |cons a cs ih=>
  intro vs h hf
  cases vs with
  |nil=>simp at h
  |cons v vs=>
   obtain⟨Ds,d1,d2,d3⟩:=ih vs (by simpa using h) (λi a v h1 h2=>hf (i+1) a v (by simpa using h1) (by simpa using h2))
   obtain⟨D,e1,e2,e3⟩:=hf 0 a v rfl rfl
   refine⟨D::Ds,by simp[d1,e1],by simp[d2,e2],?_⟩
   intro X hX
   rcases AAp.1 hX with rfl|hX
   . exact e3
   . exact d3 X hX
theorem fz_tree {w:World} {S:Nat->Prop} {a:AV} {v:Value} (h:Fz w S a v):∃D:DV,D.er=a/\D.Aq=v/\Ok w S D (λ_=>False):=by
 induction h with
 |sc v hp=>exact⟨.lf (.sc v) v,by simp,by simp,.lf _ _ _ ⟨rfl,hp⟩ (λ_ h=>h)⟩
 |dead v=>exact⟨.lf .dead v,by simp,by simp,.lf _ _ _ trivial (λ_ h=>h)⟩
 |nil x k a c hx=>exact⟨.lf (.sl x k []) (.slice a 0 c),by simp,by simp,.lf _ _ _ (Fz.nil x k a c hx) (λ_ h=>h)⟩
 |sl x k rows b off c vs hx RE hS hk hc hr ih=>exact⟨.lf (.sl x k rows) (.slice (some ⟨b,off,none⟩) rows.length c),by simp,by simp,.lf _ _ _ (Fz.sl x k rows b off c vs hx RE hS hk hc hr) (λ_ h=>h)⟩
 |agg cs vs hs h ih=>
  obtain⟨Ds,d1,d2,d3⟩:=Vq cs vs hs ih
  exact⟨.agg Ds,by simp[d1],by simp[d2],Be.2 (B7 d3)⟩
 |BJ cs vs hs h ih=>
  obtain⟨Ds,d1,d2,d3⟩:=Vq cs vs hs ih
  exact⟨.BJ Ds,by simp[d1],by simp[d2],A9.2 (B7 d3)⟩
section
variable {H:Type} {enc:TypeId×Value->H} {P:Program}
theorem Xr {f:Func} {s:ChangeSpec} {apart fresh handsOn again:Bool} {W W':World} {args:Array Value} {v:Value} {ds gs:List (DataW H)} {before pa pv:List MemPlace}
 (hW:DataW.Whole enc P f.params.toList s.vars apart W args.toList ds gs before)
 (Ey:∀(b:Nat) (sp:Nat->Bool) (hd:Bool),DataW.TrodAll enc P W' b sp hd f.resultTypes.toList (v.resultList f.resultTypes.size) (s.fn H (ds++gs)).results [])
 (FK:∀sp:Nat->Bool,(∀p∈before,sp p.block=true)->DataW.TrodAll enc P W' 0 sp true f.params.toList args.toList (s.fn H (ds++gs)).args pa)
 (hvars:∀sp:Nat->Bool,(∀p∈before,sp p.block=true)->DataW.TrodVars enc P W' sp s.vars (s.fn H (ds++gs)).vars pv)
 (hps:before=pa++pv) (hb:Below W.heap.size W W')
 (CH:∀(j:Nat) (t:TypeId) (r:Value),f.resultTypes[j]? =some t->(v.resultList f.resultTypes.size)[j]? =some r->Value.okWide P W' .any 0 t r):
 s.post enc P f apart fresh handsOn again W args v W':=by
 have D5:∀p∈before,p.block<W.heap.size:=λp hp=>hW.lt p hp
 have hold:∀p∈before,(λb=>decide (b<W.heap.size)) p.block=true:=λp hp=>by simpa using D5 p hp
 refine⟨ds,gs,before,[],pa,pv,hW,Ey _ _ _,FK _ hold,hvars _ hold,World.keptBut_mono (λp hp=>⟨hp,?_⟩) (hb.frame (· ∈before)),λ_=> ?_⟩
 . rw[hps,AAj]at hp
   exact Or.inr hp
 . obtain⟨_,_,_,_,_,hz,hn⟩:=hW
   refine⟨CH,_,_,([]++pa)++pv,⟨[]++pa,pv,trodAll_append (FK _ (λ_ _=>rfl)) (Ey _ _ _),hvars _ (λ_ _=>rfl),rfl,?_,?_⟩,?_⟩
   . intro b off hp
     have UP:MemPlace.cell b off∈before:=by rw[hps];simpa using hp
     rw[hb.frozen (D5 _ UP)]
     exact hz b off UP
   . intro ha
     have:=hn ha
     rw[hps]at this
     simpa using this
   . intro p hp _
     rw[hps]
     simpa using hp
theorem X5 (hl:laidOutB P=true) {W W':World} {sp:Nat->Bool} (ts:List TypeId):∀{vs:List Value} {ds:List (DataW H)} {ps:List MemPlace},(∀t∈ts,P.readableRec t=true/\t<P.types.size)->
 DataW.TrodAll enc P W 0 (λ_=>true) true ts vs ds ps->(∀p∈ps,W.sameAt W' p)->(∀p∈ps,sp p.block=true)->DataW.TrodAll enc P W' 0 sp true ts vs ds ps:=by
 induction ts with
 |nil=>
  intro vs ds ps _ hT _ _
  obtain⟨rfl,rfl,rfl⟩:=trodAll_nil hT
  exact rfl
 |cons t ts ih=>
  intro vs ds ps hr hT h1 h2
  obtain⟨v,vs1,d,ds1,p,q,rfl,rfl,rfl,g1,g2⟩:=trodAll_cons hT
  have ht:=hr t (by simp)
  exact⟨p,q,WideElems.Trod_stays hl ht.1 ht.2 g1 (λx hx=>h1 x (by simp[hx])) (λx hx=>h2 x (by simp[hx])),ih (λt ht=>hr t (by simp[ht])) g2 (λx hx=>h1 x (by simp[hx])) (λx hx=>h2 x (by simp[hx])),rfl⟩
theorem ZJ {fn:Func} {f:Nat} {s:ChangeSpec} {tb:TypeId} {Xs:List (List AV->Prop)} {fresh handsOn again:Bool} (hv:s.vars=[]) (Xm:fn.resultTypes= #[tb]) (htb:P.underlying tb=some .bool)
 (hl:laidOutB P=true) (RF:∀t∈fn.params.toList,P.readableRec t=true/\t<P.types.size) (hO:eJ P fn.params.toList Xs) (hS:∀Dt,sO P fn.params.toList Xs Dt->Says P f Dt (sb true))
 (T2:∀ds:List (DataW H),ds.length=fn.params.toList.length->s.fn H ds={results:=[.lit (.bool true)],args:=ds})
 {W:World} {base:Nat} {args:Array Value} {ds gs:List (DataW H)} {before:List MemPlace}
 (BP:∀(j:Nat) t v,fn.params[j]? =some t->args[j]? =some v->Value.okWide P W .any base t v) (hW:DataW.Whole enc P fn.params.toList s.vars false W args.toList ds gs before)
 (hwt:(DataW.weightsEach P (fn.params.toList++s.plain.varTypes P) (ds++gs)).all (· ≤reachBytes)=true)
 (MX:GI W (Old W)):Calls P f args W λe W'=>∃v,e= .returned v/\s.post enc P fn false fresh handsOn again W args v W':=by
 have hW':=hW
 obtain⟨p,q,hA,hV,rfl,Mk,hnd⟩:=hW
 rw[hv]at hV
 obtain⟨rfl,rfl⟩:=trodVars_none hV
 simp only[ABf]at hW' hwt
 have hlds:ds.length=fn.params.toList.length:=by
  have:∀(ts:List TypeId) {vs:List Value} {ds:List (DataW H)} {ps:List MemPlace},DataW.TrodAll enc P W 0 (λ_=>true) true ts vs ds ps->ds.length=ts.length:=by
   intro ts
   induction ts with
   |nil=>intro vs ds ps h;obtain⟨rfl,rfl,rfl⟩:=trodAll_nil h;rfl
   |cons t ts ih=>intro vs ds ps h;obtain⟨v,vs1,d,ds1,p,q,rfl,rfl,rfl,g1,g2⟩:=trodAll_cons h;simp[ih g2]
  exact this _ hA
 have hwts:∀n∈DataW.weightsEach P fn.params.toList ds,n≤reachBytes:=by
  have key:∀(ts us:List TypeId) (ds:List (DataW H)),ds.length=ts.length->DataW.weightsEach P (ts++us) ds=DataW.weightsEach P ts ds:=by
   intro ts
   induction ts with
   |nil=>
    intro us ds h
    obtain rfl:ds=[]:=ABm h
    cases us<;>rfl
   |cons t ts ih=>
    intro us ds h
    cases ds with
    |nil=>simp at h
    |cons d ds=>simp only[AA5,DataW.weightsEach];rw[ih us ds (by simpa using h)]
  rw[key _ _ _ hlds]at hwt
  simpa using hwt
 obtain⟨Dt,hX,hlen,hfzv⟩:=mO (base:=base) fn.params.toList Xs args.toList ds p hO hA (λj t v h1 h2=>BP j t v (by simpa using h1) (by simpa using h2)) hwts
 -- the call
 have Jd:∃Ds:List DV,Ds.map DV.er=Dt/\Ds.map DV.Aq=args.toList/\JF W (Old W) Ds (λ_=>False):=by
  obtain⟨Ds,d1,d2,d3⟩:=Vq (w:=W) (S:=Old W) Dt args.toList hlen.symm (λi a v h1 h2=>fz_tree (hfzv i a v h1 h2))
  exact⟨Ds,d1,d2,B7 d3⟩
 obtain⟨Ds,d1,d2,d3⟩:=Jd
 have Fp:=hS Dt hX W (Old W) Ds (λ_=>False) MX d1 (A9.2 d3) (λb hb=>hb)
 rw[d2]at Fp
 have Pm:args.toList.toArray=args:=by simp
 rw[Pm]at Fp
 refine Fp.mono ?_
 rintro e W' ⟨r,os,S',F',rfl,Pn,_,_,CH,EF,_⟩
 obtain⟨Fa,Fb,ZG,_⟩:=A9.1 CH
 have hrv:r.Aq= .bool true:=by
  cases ZG with
  |lf a v _ ha hF=>rw[Ea]at Pn;subst Pn;simpa using ha.1
  |nil=>simp at Pn
  |own=>simp at Pn
  |agg=>simp at Pn
  |BJ=>simp at Pn
 have hb:Below W.heap.size W W':=⟨EF.os,EF.tape,EF.output,EF.size,λk hk=>EF.block k hk id⟩
 rw[hrv]
 refine⟨_,rfl,Xr (pa:=p) (pv:=[]) hW' ?_ ?_ ?_ (by simp) hb ?_⟩
 . intro b sp hd
   rw[ABf,T2 ds hlds,Xm]
   exact trodAll_cons_mk (shut_bool htb _) trodAll_mk0
 . intro sp hsp
   rw[ABf,T2 ds hlds]
   exact X5 hl _ RF hA (λx hx=>hb.same (hW'.lt x hx)) (λx hx=>hsp x hx)
 . intro sp hsp
   rw[ABf,T2 ds hlds,hv]
   exact rfl
 . exact ok_one Xm rfl (okWide_bool_mk htb _)
end
end Go.Abs
