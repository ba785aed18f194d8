/- A calculus of abstract states of Go memory, and that it is sound. -/
import Derived.Test.YtkpdblcoclbgbaaGreatDoorCoreC
import Derived.KernelRfl
import Derived.WalkKit
import Derived.ProofKit
import Derived.OpenShut
import Derived.WideKeyArgs
import Derived.SizedLaws
import Derived.DataReads
import Derived.Below
import Derived.ChangeSame
import Derived.Shelf.Slices.SearchI
set_option linter.unusedSimpArgs false
set_option linter.unusedVariables false
namespace Go.Abs
variable {P:Program} {G:Gi}
def Hl (a b:IC):IC:=.seq a b
def Bo:Nat:=18446744073709551616
abbrev Ao (s:ByteArray):AV:=.sc (.string s)
abbrev BE (n:Int):Int:=IntKind.i64.wrap n
abbrev w8 (n:Int):Int:=IntKind.u8.wrap n
def gt {α:Type} (l:List α) (i:Int):Option α:=if 0≤i then l[i.toNat]? else none
def q8 (s:ByteArray) (i:Int):Option UInt8:=if 0≤i then s[i.toNat]? else none
theorem jG {α β:Type} {l:List α} {i:Int} {f:α->Option β} {r:β} (h:(gt l i).bind f=some r):∃x,l[i.toNat]? =some x/\0≤i/\i<(l.length:Int)/\i.toNat<l.length/\f x=some r:=by
 unfold gt at h
 by_cases h0:0≤i
 . rw[if_pos h0]at h
   cases hx:l[i.toNat]? with
   |none=>simp[hx]at h
   |some x=>
    have:=(List.getElem?_eq_some_iff.1 hx).1
    exact⟨x,rfl,h0,by omega,this,by simpa[hx]using h⟩
 . simp[h0]at h
theorem eM {β:Type} {l:ByteArray} {i:Int} {f:UInt8->Option β} {r:β} (h:(q8 l i).bind f=some r):∃x,l[i.toNat]? =some x/\0≤i/\f x=some r:=by
 unfold q8 at h
 by_cases h0:0≤i
 . rw[if_pos h0]at h
   cases hx:l[i.toNat]? with
   |none=>simp[hx]at h
   |some x=>exact⟨x,rfl,h0,by simpa[hx]using h⟩
 . simp[h0]at h
theorem gB {α β:Type} {l:List α} {i:Int} {f:α->Option β} {r:β} (h:(gt l i).bind f=some r):∃x,(l[i.toNat]? =some x/\0≤i/\i<(l.length:Int)/\i.toNat<l.length)/\f x=some r:=by
 obtain⟨x,a,b,c,d,e⟩:=jG h;exact⟨x,⟨a,b,c,d⟩,e⟩
theorem sgB {β:Type} {l:ByteArray} {i:Int} {f:UInt8->Option β} {r:β} (h:(q8 l i).bind f=some r):∃x,(l[i.toNat]? =some x/\0≤i)/\f x=some r:=by
 obtain⟨x,a,b,e⟩:=eM h;exact⟨x,⟨a,b⟩,e⟩
theorem sgL {β:Type} {l:ByteArray} {i:Int} {n:Nat} (hn:i.toNat=n) {f:UInt8->Option β} {r:β} (h:(q8 l i).bind f=some r):∃x,(l[n]? =some x/\0≤i)/\f x=some r:=by
 subst hn;exact sgB h
theorem bind_some {α β:Type} {o:Option α} {f:α->Option β} {r:β} (h:o.bind f=some r):∃x,o=some x/\f x=some r:=by
 cases o with
 |none=>simp at h
 |some x=>exact⟨x,rfl,h⟩
theorem HZ {α:Type} {p:Prop} [Decidable p] {a:Option α} {r:α} (h:(if p then a else none)=some r):p/\a=some r:=by
 by_cases hp:p
 . rw[if_pos hp]at h;exact⟨hp,h⟩
 . rw[if_neg hp]at h;cases h
theorem bS {α β:Type} {o:Option α} {f:α->Option β} {r:β} (h:o.bind f=some r):∃x,o=some x/\f x=some r:=bind_some h
theorem cS {α:Type} {p:Prop} [Decidable p] {a:Option α} {r:α} (h:(if p then a else none)=some r):p/\a=some r:=HZ h
theorem ifT {α:Type} {c:Bool} {a b r:α} (e:c=true) (h:(if c=true then a else b)=r):a=r:=by rw[if_pos e]at h;exact h
theorem ifF {α:Type} {c:Bool} {a b r:α} (e:c=false) (h:(if c=true then a else b)=r):b=r:=by rw[if_neg (by rw[e];decide)]at h;exact h
theorem B9 {α:Type} {r:α} {C:Prop} (h:(none:Option α)=some r):C:=nomatch h
theorem iO (c:Bool):c=true∨c=false:=by cases c<;>simp
theorem V8 {α:Type} {i:Int} {a b:Option α} {x:α} (h:(if(i==0)=true then a else if(i==1)=true then b else none)=some x):(i=0/\a=some x)∨(i=1/\b=some x):=by
 by_cases h0:i=0
 . subst h0;exact .inl ⟨rfl,by simpa using h⟩
 . by_cases h1:i=1
   . subst h1;exact .inr ⟨rfl,by simpa using h⟩
   . simp[h0,h1]at h
theorem bW {c:Bool} {a b:Sg->Prop} {σ:Sg} (h1:c=true->a σ) (h2:c=false->b σ):QU (.sc (.bool c)) a b σ:=by
 cases c with
 |true=>rw[Xi];exact h1 rfl
 |false=>rw[Xh];exact h2 rfl
theorem gK_sp {c:Bool} {want:Bool} {a b:Sg->Prop} {σ:Sg} (h1:c=true->gK (.sc (.bool true)) want a b σ) (h2:c=false->gK (.sc (.bool false)) want a b σ):gK (.sc (.bool c)) want a b σ:=by
 cases c with
 |true=>exact h1 rfl
 |false=>exact h2 rfl
theorem cI {α:Type} {c:Bool} {x y z:α} {a b:Sg->Prop} {σ:Sg} (h:(if c=true then x else y)=z) (h1:c=true->x=z->a σ) (h2:c=false->y=z->b σ):QU (.sc (.bool c)) a b σ:=
 bW (λe=>h1 e (ifT e h)) λe=>h2 e (ifF e h)
theorem gI {α:Type} {c:Bool} {x y z:α} {want:Bool} {a b:Sg->Prop} {σ:Sg} (h:(if c=true then x else y)=z) (h1:c=true->x=z->gK (.sc (.bool true)) want a b σ) (h2:c=false->y=z->gK (.sc (.bool false)) want a b σ):gK (.sc (.bool c)) want a b σ:=
 gK_sp (λe=>h1 e (ifT e h)) λe=>h2 e (ifF e h)
theorem gV {a b:IC} {Q:Exit->Sg->Prop} {M:Sg->Prop} {σ:Sg} (h1:FZ P G a (Exit.Lj M Q) σ) (h2:∀τ,M τ->FZ P G b Q τ):FZ P G (Hl a b) Q σ:=by
 unfold Hl
 rw[Xd]
 refine Up ?_ h1
 intro e τ h
 cases e with
 |normal=>exact h2 τ h
 |_=>exact h
def uW (A B:Sg->Prop):Prop:=∀τ,A τ->B τ
theorem gBk {α β:Type} {C:Prop} {l:List α} {i:Int} {f:α->Option β} {r:β} (h:(gt l i).bind f=some r) (k:∀x,((∀n,i.toNat=n->l[n]? =some x)/\(∀n,i.toNat=n->n<l.length)/\0≤i/\i<(l.length:Int))->f x=some r->C):C:=by
 obtain⟨x,⟨a1,a2,a3,a4⟩,b⟩:=gB h;exact k x ⟨λn e=>e▸a1,λn e=>e▸a4,a2,a3⟩ b
theorem gBe {α β:Type} {C:Prop} {l:List α} {i:Int} {f:α->Option β} {r:β} {x:α} (h:(gt l i).bind f=some r) (g:(∀n,i.toNat=n->l[n]? =some x)/\(∀n,i.toNat=n->n<l.length)/\0≤i/\i<(l.length:Int)) (k:f x=some r->C):C:=by
 have e:gt l i=some x:=by unfold gt;rw[if_pos g.2.2.1];exact g.1 _ rfl
 rw[e]at h;exact k h
theorem gBm {α β:Type} (e:α->List AV) {C:Prop} {a:α} {l:List α} {i:Int} {f:α->Option β} {r:β} (h:(gt (a::l) i).bind f=some r)
 (k:∀x,((∀n rows,i.toNat=n->(a::l).map e=rows->rows[n]? =some (e x))/\(∀n m,i.toNat=n->(a::l).length=m->n<m)/\0≤i/\∀m:Nat,(a::l).length=m->i<(m:Int))->f x=some r->C):C:=by
 obtain⟨x,⟨a1,a2,a3,a4⟩,b⟩:=gB h
 exact k x ⟨λn rows e1 e2=>by rw[← e1,← e2,List.getElem?_map,a1];rfl,λn m e1 e2=>e1▸e2▸a4,a2,λm e1=>e1▸a3⟩ b
theorem bSk {α β:Type} {C:Prop} {o:Option α} {f:α->Option β} {r:β} (h:o.bind f=some r) (k:∀x,o=some x->f x=some r->C):C:=by
 obtain⟨x,a,b⟩:=bS h;exact k x a b
theorem bSs {α β:Type} {C:Prop} {x:α} {f:α->Option β} {r:β} (h:(some x).bind f=some r) (k:f x=some r->C):C:=k h
theorem cSk {α:Type} {C:Prop} {p:Prop} [Decidable p] {a:Option α} {r:α} (h:(if p then a else none)=some r) (k:p->a=some r->C):C:=by
 obtain⟨a,b⟩:=cS h;exact k a b
theorem bI {α:Type} {C:Prop} {c:Bool} {x y z:α} (h:(if c=true then x else y)=z) (h1:c=true->x=z->C) (h2:c=false->y=z->C):C:=by
 cases c with
 |true=>exact h1 rfl (ifT rfl h)
 |false=>exact h2 rfl (ifF rfl h)
theorem II {a b:IC} {Q:Exit->Sg->Prop} (M0:Sg->Prop) {σ:Sg} (h:∀M:Sg->Prop,uW M0 M->FZ P G a (Exit.Lj M Q) σ/\∀τ,M0 τ->FZ P G b Q τ):FZ P G (Hl a b) Q σ:=
 gV (h M0 λ_ h=>h).1 (h M0 λ_ h=>h).2
def Bw (n:Nat) (a b:IC):IC:=.seq a b
theorem vU (n:Nat) {a b:IC} {Q:Exit->Sg->Prop} (M0:Sg->Prop) {σ:Sg} (h:∀M:Sg->Prop,uW M0 M->FZ P G a (Exit.Lj M Q) σ/\∀τ,M0 τ->FZ P G b Q τ):FZ P G (Bw n a b) Q σ:=II M0 h
theorem YZ {a:IC} {Q:Exit->Sg->Prop} {σ:Sg} (I:Nat->Sg->Prop) (n:Nat) (h:I n σ)
 (round:∀n τ (N:Sg->Prop),I n τ->(∀m,m<n->∀τ',I m τ'->N τ')->FZ P G a (Exit.Lj N Q) τ):FZ P G (.loop a) Q σ:=
 bL I n h λn τ hI=>round n τ _ hI λm hm τ' hτ'=>⟨m,hm,hτ'⟩
def fQ (n:Nat) (I:Nat->Sg->Prop) (N:Sg->Prop):Prop:=∀m,m<n->∀τ',I m τ'->N τ'
theorem impI {A B:Sg->Prop} (m:uW A B) {τ:Sg} (h:A τ):B τ:=m τ h
theorem bO {n:Nat} {I:Nat->Sg->Prop} {N:Sg->Prop} (k:fQ (n+1) I N) {τ:Sg} (h:I n τ):N τ:=k n (Nat.lt_succ_self n) τ h
theorem Jc {a:IC} {Q:Exit->Sg->Prop} {σ:Sg} (I:Nat->Sg->Prop) (h:I Bo σ)
 (round:∀n τ (N:Sg->Prop),I n τ->fQ n I N->FZ P G a (Exit.Lj N Q) τ):FZ P G (.loop a) Q σ:=YZ I Bo h round
theorem jC {x:AV} {want:Bool} {a b a' b':Sg->Prop} {σ:Sg} (h1:∀σ,a σ->a' σ) (h2:∀σ,b σ->b' σ) (h:gK x want a b σ):gK x want a' b' σ:=by
 unfold gK at*
 split at h
 . split at h
   . rename_i hx;simp only[hx,if_true];exact h1 _ h
   . rename_i hx;simp only[hx,if_false];exact h2 _ h
 . exact h2 _ h
 . exact h.elim
theorem jD {g:Option (Nat×Bool)} {d:DU} {A A' K K':Sg->Prop} {σ:Sg} (h1:∀σ,A σ->A' σ) (h2:∀σ,K σ->K' σ) (h:gM g d A K σ):gM g d A' K' σ:=by
 cases g with
 |none=>exact h1 _ h
 |some x=>obtain⟨s,want⟩:=x;exact jC h1 (λσ hx=>h2 _ hx) h
theorem Gz {K K':Sg->Mu->Prop} (h:∀σ μ,K σ μ->K' σ μ):∀{l:List V3} {σ:Sg} {μ:Mu},Jr P G l K σ μ->Jr P G l K' σ μ
 |[],_,_,ht=>h _ _ ht
 | .x _::_,_,_,ht=>IB (λ_ hx=>Gz h hx) ht
 | .uG _::_,_,_,ht=>λb hb=>FP (λ_ hx=>Gz h hx) (ht b hb)
 | .uF g d m k::l,σ,μ,ht=>by
  simp only[Jr]at ht ⊢
  refine jD (λσ hx=> ?_) (λσ hx=>Gz h hx) ht
  unfold dH at hx ⊢
  split at hx
  . split at hx
    . exact⟨hx.1,FP (λ_ hy=>Gz h hy) hx.2⟩
    . exact hx.elim
  . exact hx.elim
 | .uH m k v::l,σ,μ,ht=>by
  simp only[Jr]at ht ⊢
  unfold dQ at ht ⊢
  split at ht
  . split at ht
    . exact⟨ht.1,Gz h ht.2⟩
    . exact ht.elim
  . exact ht.elim
 | .uO d x::l,σ,μ,ht=>by
  simp only[Jr]at ht ⊢
  unfold eD at ht ⊢
  split at ht
  . exactλb hb=>FP (λ_ hx=>Gz h hx) (ht b hb)
  . exact ht.elim
 | .uJ d x::l,σ,μ,ht=>by
  simp only[Jr]at ht ⊢
  unfold dS at ht ⊢
  split at ht
  . split at ht
    . split at ht
      . rename_i hp;simp only[hp,if_true];exact FP (λ_ hx=>Gz h hx) ht
      . rename_i hp;simp only[hp,if_false];exact FP (λ_ hx=>Gz h hx) ht
    . exact ht.elim
  . exact ht.elim
theorem YV {ic:Rp}:∀{Q Q':Exit->Sg->Mu->Prop} {σ:Sg} {μ:Mu},(∀e σ μ,Q e σ μ->Q' e σ μ)->GQ P G ic Q σ μ->GQ P G ic Q' σ μ:=by
 induction ic with
 |ic c=>exactλh ht=>Up (λe σ hx=>h e σ _ hx) ht
 |SH xs=>exactλh ht=>Gz (h .normal) ht
 |seq a b iha ihb=>
  intro Q Q' σ μ h ht
  refine iha (λe σ' μ' hq=> ?_) ht
  cases e with
  |normal=>exact ihb h hq
  |_=>exact h _ _ _ hq
 |cond c a b iha ihb=>
  intro Q Q' σ μ h ht
  rw[QM]at ht ⊢
  unfold Xj at ht ⊢
  split at ht
  . split at ht
    . rename_i hx;simp only[hx,if_true];exact iha h ht
    . rename_i hx;simp only[hx,if_false];exact ihb h ht
  . exact ht.elim
 |block id a iha=>
  intro Q Q' σ μ h ht
  refine iha (λe σ' μ' hq=> ?_) ht
  cases e with
  |exit i=>
   rw[Ol]at hq ⊢
   split
   . rename_i hi;rw[if_pos hi]at hq;exact h _ _ _ hq
   . rename_i hi;rw[if_neg hi]at hq;exact h _ _ _ hq
  |_=>exact h _ _ _ hq
 |loop a iha=>
  intro Q Q' σ μ h ht
  obtain⟨I,h0,hr⟩:=ht
  refine⟨I,h0,λn τ ν hI=>iha (λe σ' μ' hq=> ?_) (hr n τ ν hI)⟩
  cases e with
  |normal=>exact hq
  |_=>exact h _ _ _ hq
def U3 (a b:Rp):Rp:=.seq a b
theorem bH {a b:Rp} {Q:Exit->Sg->Mu->Prop} {M:Sg->Mu->Prop} {σ:Sg} {μ:Mu} (h1:GQ P G a (Exit.RU M Q) σ μ) (h2:∀τ ν,M τ ν->GQ P G b Q τ ν):GQ P G (U3 a b) Q σ μ:=by
 unfold U3
 rw[Un]
 refine YV ?_ h1
 intro e τ ν h
 cases e with
 |normal=>exact h2 τ ν h
 |_=>exact h
def ImpM (A B:Sg->Mu->Prop):Prop:=∀τ ν,A τ ν->B τ ν
theorem U4 {a b:Rp} {Q:Exit->Sg->Mu->Prop} (M0:Sg->Mu->Prop) {σ:Sg} {μ:Mu} (h:∀M:Sg->Mu->Prop,ImpM M0 M->GQ P G a (Exit.RU M Q) σ μ/\∀τ ν,M0 τ ν->GQ P G b Q τ ν):GQ P G (U3 a b) Q σ μ:=
 bH (h M0 λ_ _ h=>h).1 (h M0 λ_ _ h=>h).2
theorem WJ {a:Rp} {Q:Exit->Sg->Mu->Prop} {σ:Sg} {μ:Mu} (I:Nat->Sg->Mu->Prop) (n:Nat) (h:I n σ μ)
 (round:∀n τ ν (N:Sg->Mu->Prop),I n τ ν->(∀m,m<n->∀τ' ν',I m τ' ν'->N τ' ν')->GQ P G a (Exit.RU N Q) τ ν):GQ P G (.loop a) Q σ μ:=
 YU I n h λn τ ν hI=>round n τ ν _ hI λm hm τ' ν' hτ'=>⟨m,hm,hτ'⟩
def uV (n:Nat) (I:Nat->Sg->Mu->Prop) (N:Sg->Mu->Prop):Prop:=∀m,m<n->∀τ' ν',I m τ' ν'->N τ' ν'
theorem dN {a:Rp} {Q:Exit->Sg->Mu->Prop} {σ:Sg} {μ:Mu} (I:Nat->Sg->Mu->Prop) (h:I Bo σ μ)
 (round:∀n τ ν (N:Sg->Mu->Prop),I n τ ν->uV n I N->GQ P G a (Exit.RU N Q) τ ν):GQ P G (.loop a) Q σ μ:=WJ I Bo h round
def tv (s:ByteArray):ByteArray×Value:=(s,.bool true)
theorem dM (l:List ByteArray) (s:ByteArray):Ia (l.map tv) s (.bool false)= .bool (l.any λx=>x==s):=by
 induction l with
 |nil=>rfl
 |cons x l ih=>
  unfold Ia at ih ⊢
  rw[List.map_cons,List.find?_cons,List.any_cons]
  cases hx:(tv x).1==s with
  |true=>simp[show(x==s)=true from hx,tv]
  |false=>simp only[show(x==s)=false from hx,Bool.false_or];exact ih
theorem fV (l:List ByteArray) (s:ByteArray):((l.map tv).all λx=> !(x.1==s))= !(l.any λx=>x==s):=by
 induction l with
 |nil=>rfl
 |cons x l ih=>rw[List.map_cons,List.all_cons,List.any_cons,ih];simp[tv]
theorem fU (l:List ByteArray) (s:ByteArray):V9 (l.map tv) s (.bool true)=(l++[s]).map tv:=by simp[V9,tv]
theorem VS (b:Bool):EO (.bool b)=true:=rfl
attribute [go_sem] dM fV fU VS
theorem jM {α β:Type} (f:α->β) (l:List α):(l.map f).length=l.length:=List.length_map ..
theorem jK {α β:Type} (f:α->β) (l:List α) (i:Nat):(l.map f)[i]? =(l[i]?).map f:=List.getElem?_map ..
theorem jJ {α β:Type} (f:α->β) (l m:List α):l.map f++m.map f=(l++m).map f:=(List.map_append ..).symm
theorem sD {α β:Type} (f:α->β) (l:List α) (n:Nat):(l.map f).take n=(l.take n).map f:=(List.map_take ..).symm
theorem r9 {α β:Type} (f:α->β) (l:List α) (n:Nat):(l.map f).drop n=(l.drop n).map f:=(List.map_drop ..).symm
theorem dt1 {α:Type} {l:List α} {i:Nat} {x:α} (h:l[i]? =some x):(l.drop i).take 1=[x]:=by
 obtain⟨hi,rfl⟩:=List.getElem?_eq_some_iff.1 h
 rw[List.drop_eq_getElem_cons hi];rfl
theorem sM (l:List ByteArray):(l.map Value.string).map AV.sc=l.map Ao:=by rw[List.map_map];rfl
theorem rN:((22:Nat):Int)=22:=rfl
attribute [go_sem] dt1 sM rN Nat.mul_one List.getElem?_set_self List.set_set List.length_set Nat.zero_le Option.isSome_none Option.isSome_some Option.isNone_none jM jK jJ sD r9
theorem jT:one []= .A9 []:=rfl
attribute [go_sem] jT
theorem tn1:Int.toNat 1=1:=rfl
theorem tn2:Int.toNat 2=2:=rfl
theorem tn3:Int.toNat 3=3:=rfl
attribute [go_sem] tn1 tn2 tn3 Nat.reduceAdd
theorem r8 {α:Type} (e:α->List AV) (l:List α) (h:∀x,(e x).all D3=true):((l.map e).all λx=>x.all D3)=true:=by rw[List.all_map];exact List.all_eq_true.2 λx _=>h x
theorem sC {α:Type} (e:α->List AV) (l:List α) (h:∀x,(e x).all E3=true):((l.map e).all λx=>x.all E3)=true:=by rw[List.all_map];exact List.all_eq_true.2 λx _=>h x
theorem sB {α:Type} (e:α->List AV) (l:List α) (h:∀x,KM (e x)=true):MQ (l.map e)=true:=by induction l with|nil=>rfl|cons x l ih=>simp[MQ,h x,ih]
theorem ZR {l:List AV} (h:l.all E3=true):SA l=l:=by
 induction l with
 |nil=>rfl
 |cons a l ih=>
  simp only[List.all_cons,Bool.and_eq_true]at h
  rw[SA,ih h.2]
  cases a<;>simp_all [E3,Gj]
theorem dP {α:Type} (e:α->List AV) (l:List α) (h:∀x,(e x).all E3=true):LO (l.map e)=l.map e:=by
 induction l with
 |nil=>rfl
 |cons x l ih=>simp[LO,ZR (h x),ih]
theorem sA {α:Type} (e:α->List AV) (l:List α) (h:∀x,(e x).all E3=true):(l.map e).map (λx=>x.map Gj)=l.map e:=by rw[← Pv];exact dP e l h
attribute [go_sem] implies_true r8 sC sB dP sA
def i0 (d:Nat) (op:Rq):A7:=⟨some ⟨d,[],[]⟩,op,none⟩
def i1 (d r:Nat) (op:Rq):A7:=⟨some ⟨d,[],[r]⟩,op,none⟩
def j0 (d:Nat) (op:Rq) (g:Nat) (b:Bool):A7:=⟨some ⟨d,[],[]⟩,op,some (g,b)⟩
def j1 (d r:Nat) (op:Rq) (g:Nat) (b:Bool):A7:=⟨some ⟨d,[],[r]⟩,op,some (g,b)⟩
def iC (d s:Nat):A7:=⟨some ⟨d,[],[]⟩,.cp (.t s),none⟩
def iL (d s:Nat):A7:=⟨some ⟨d,[],[]⟩,.ld false 1 (.t s),none⟩
def VD (d r s:Nat):A7:=⟨some ⟨d,[],[r]⟩,.ld false 1 (.t s),none⟩
def iF (d o s:Nat):A7:=⟨some ⟨d,[],[]⟩,.PL o (.t s),none⟩
def LQ (d r o s:Nat):A7:=⟨some ⟨d,[],[r]⟩,.PL o (.t s),none⟩
def iI (d k s i:Nat):A7:=⟨some ⟨d,[],[]⟩,.Lr k (.t s) (.t i),none⟩
def rV (d r k s i:Nat):A7:=⟨some ⟨d,[],[r]⟩,.Lr k (.t s) (.t i),none⟩
def iS (n a b:Nat):A7:=⟨none,.st n (.t a) (.t b),none⟩
def jL (d s g:Nat) (b:Bool):A7:=⟨some ⟨d,[],[]⟩,.ld false 1 (.t s),some (g,b)⟩
def jFr (d r o s g:Nat) (b:Bool):A7:=⟨some ⟨d,[],[r]⟩,.PL o (.t s),some (g,b)⟩
def iOr (d a b:Nat):A7:=⟨some ⟨d,[],[]⟩,.pick (.t a) (.c (.sc (.bool true))) (.t b),none⟩
def iU (d:Nat) (n:Int):A7:=⟨some ⟨d,[],[]⟩,.cp (.c (.sc (.int .i64 n))),none⟩
def iZ (d s:Nat):A7:=⟨some ⟨d,[],[]⟩,.len (.t s),none⟩
def iA (d k s:Nat):A7:=⟨some ⟨d,[],[]⟩,.ld true k (.t s),none⟩
def jP (d:Nat) (op:BinOp) (x:Nat) (n:Int) (g:Nat) (b:Bool):A7:=⟨some ⟨d,[],[]⟩,.bin op (.t x) (.c (.sc (.int .i64 n))),some (g,b)⟩
def cX (c id:Nat):IC:=.cond (.t c) .skip (.exit id)
def iQ (d s:Nat) (n:Int):A7:=⟨some ⟨d,[],[]⟩,.bin .eql (.t s) (.c (.sc (.int .i64 n))),none⟩
def iP (d:Nat) (op:BinOp) (a:Nat) (n:Int):A7:=⟨some ⟨d,[],[]⟩,.bin op (.t a) (.c (.sc (.int .i64 n))),none⟩
def iK (d:Nat) (n:Int):A7:=⟨some ⟨d,[],[]⟩,.mv (.c (.sc (.int .i64 n))),none⟩
def iB (d:Nat) (b:Bool):A7:=⟨some ⟨d,[],[]⟩,.mv (.c (.sc (.bool b))),none⟩
def bA (k:Nat) (cs:List AV):AV:=.own true k [cs]
attribute [go_sem] iOr iU iZ iA jP cX iQ iP iK iB bA i0 i1 j0 j1 iC iL VD iF LQ iI rV iS jL jFr
end Go.Abs
namespace Go.Abs
variable {P:Program} {G:Gi}
theorem iY {α:Sort _} {p:α->Prop} {C:Prop} (h:∃x,p x) (k:∀x,p x->C):C:=h.elim k
theorem gD {a b C:Prop} (h:a/\b) (k:a->b->C):C:=k h.1 h.2
def GP (n:Nat) (M0:Sg->Prop):Prop:=∀(P:Program) (G:Gi) (a b:IC) (Q:Exit->Sg->Prop) (σ:Sg),(∀M:Sg->Prop,uW M0 M->FZ P G a (Exit.Lj M Q) σ/\∀τ,M0 τ->FZ P G b Q τ)->FZ P G (Bw n a b) Q σ
theorem B7 (n:Nat) (M0:Sg->Prop):GP n M0:=λ_ _ _ _ _ _ h=>vU n M0 h
theorem GP.use {n:Nat} {M0:Sg->Prop} (c:GP n M0) {a b:IC} {Q:Exit->Sg->Prop} {σ:Sg} (h:∀M:Sg->Prop,uW M0 M->FZ P G a (Exit.Lj M Q) σ/\∀τ,M0 τ->FZ P G b Q τ):FZ P G (Bw n a b) Q σ:=c _ _ _ _ _ _ h
def QA (I:Nat->Sg->Prop):Prop:=∀(P:Program) (G:Gi) (a:IC) (Q:Exit->Sg->Prop) (σ:Sg),I Bo σ->(∀n τ (N:Sg->Prop),I n τ->fQ n I N->FZ P G a (Exit.Lj N Q) τ)->FZ P G (.loop a) Q σ
theorem BM (I:Nat->Sg->Prop):QA I:=λ_ _ _ _ _ h r=>Jc I h r
theorem QA.use {I:Nat->Sg->Prop} (c:QA I) {a:IC} {Q:Exit->Sg->Prop} {σ:Sg} (h:I Bo σ) (r:∀n τ (N:Sg->Prop),I n τ->fQ n I N->FZ P G a (Exit.Lj N Q) τ):FZ P G (.loop a) Q σ:=c _ _ _ _ _ h r
theorem walk {p:Prop} (q:p:=by
  have n1:=0
  have n2:=0
  have n3:=0
  have n4:=0
  repeat' first
    |with_reducible exact B9 h
    | (with_reducible refine iY h ?_
       clear h
       intro _ h)
    | (with_reducible refine gD h ?_
       clear h
       intro _ h)
    |with_reducible refine gBm eS h λ_ _ h=> ?_
    |with_reducible refine gBm eI h λ_ _ h=> ?_
    |with_reducible refine gBe h (by assumption) λh=> ?_
    |with_reducible refine gBk h λ_ _ h=> ?_
    |with_reducible refine cSk h λ_ h=> ?_
    | (with_reducible refine bSs h λh=> ?_
       try simp +decide only[go_sem, *]
       refine⟨_,by first|exact a1 (by assumption)|exact a2 (by assumption)|exact a3 (by assumption)|exact a4 (by assumption)|exact a5 (by assumption)|exact a6 (by assumption)|exact a7 (by assumption)|exact a8 (by assumption)|exact a9 (by assumption)|exact a10 (by assumption)|exact a11 (by assumption)|exact a12 (by assumption)|exact a13 (by assumption)|exact a14 (by assumption)|exact a15 (by assumption)|exact a16 (by assumption)|exact a17 (by assumption)|exact a18 (by assumption)|exact a19 (by assumption)|exact a20 (by assumption)|exact a21 (by assumption)|exact a22 (by assumption)|exact a23 (by assumption)|exact a24 (by assumption)|exact a25 (by assumption)|exact a26 (by assumption)|exact a27 (by assumption)|exact a28 (by assumption)|exact a29 (by assumption)|exact a30 (by assumption),?_⟩)
    | (with_reducible refine bSk h λ_ g h=> ?_
       try simp +decide only[go_sem, *]
       first
         |refine⟨_,by first|exact a1 g|exact a2 g|exact a3 g|exact a4 g|exact a5 g|exact a6 g|exact a7 g|exact a8 g|exact a9 g|exact a10 g|exact a11 g|exact a12 g|exact a13 g|exact a14 g|exact a15 g|exact a16 g|exact a17 g|exact a18 g|exact a19 g|exact a20 g|exact a21 g|exact a22 g|exact a23 g|exact a24 g|exact a25 g|exact a26 g|exact a27 g|exact a28 g|exact a29 g|exact a30 g,?_⟩
         | (refine YC.intro (by first|exact a1 g|exact a2 g|exact a3 g|exact a4 g|exact a5 g|exact a6 g|exact a7 g|exact a8 g|exact a9 g|exact a10 g|exact a11 g|exact a12 g|exact a13 g|exact a14 g|exact a15 g|exact a16 g|exact a17 g|exact a18 g|exact a19 g|exact a20 g|exact a21 g|exact a22 g|exact a23 g|exact a24 g|exact a25 g|exact a26 g|exact a27 g|exact a28 g|exact a29 g|exact a30 g) rfl ?_ ?_ ?_
            . rfl
            . first|rfl|simp +decide only[go_sem, *]))
    | (with_reducible cases h
       simp +decide only[go_sem, *]
       done)
    |simp only[eq_self,if_true,if_false,Bool.false_eq_true]at h
    |simp +decide only[go_sem, *]
    | (with_reducible refine impI (by assumption) ?_
       repeat with_reducible apply Exists.intro
       with_reducible refine⟨?_,h⟩
       simp +decide only[go_sem, *]
       done)
    | (with_reducible refine GP.use (c1 n1 n2 n3 n4) λM m=>⟨?_,?_⟩
       rotate_left
       clear h
       intro τ h
       rotate_left)
    | (with_reducible refine GP.use (c2 n1 n2 n3 n4) λM m=>⟨?_,?_⟩
       rotate_left
       clear h
       intro τ h
       rotate_left)
    | (with_reducible refine GP.use (c3 n1 n2 n3 n4) λM m=>⟨?_,?_⟩
       rotate_left
       clear h
       intro τ h
       rotate_left)
    | (with_reducible refine GP.use (c4 n1 n2 n3 n4) λM m=>⟨?_,?_⟩
       rotate_left
       clear h
       intro τ h
       rotate_left)
    | (with_reducible refine GP.use (c5 n1 n2 n3 n4) λM m=>⟨?_,?_⟩
       rotate_left
       clear h
       intro τ h
       rotate_left)
    | (with_reducible refine GP.use (c6 n1 n2 n3 n4) λM m=>⟨?_,?_⟩
       rotate_left
       clear h
       intro τ h
       rotate_left)
    | (with_reducible refine GP.use (c7 n1 n2 n3 n4) λM m=>⟨?_,?_⟩
       rotate_left
       clear h
       intro τ h
       rotate_left)
    | (with_reducible refine GP.use (c8 n1 n2 n3 n4) λM m=>⟨?_,?_⟩
       rotate_left
       clear h
       intro τ h
       rotate_left)
    | (with_reducible refine GP.use (c9 n1 n2 n3 n4) λM m=>⟨?_,?_⟩
       rotate_left
       clear h
       intro τ h
       rotate_left)
    | (with_reducible refine GP.use (c10 n1 n2 n3 n4) λM m=>⟨?_,?_⟩
       rotate_left
       clear h
       intro τ h
       rotate_left)
    | (with_reducible refine GP.use (c11 n1 n2 n3 n4) λM m=>⟨?_,?_⟩
       rotate_left
       clear h
       intro τ h
       rotate_left)
    | (with_reducible refine GP.use (c12 n1 n2 n3 n4) λM m=>⟨?_,?_⟩
       rotate_left
       clear h
       intro τ h
       rotate_left)
    | (with_reducible refine GP.use (c13 n1 n2 n3 n4) λM m=>⟨?_,?_⟩
       rotate_left
       clear h
       intro τ h
       rotate_left)
    | (with_reducible refine GP.use (c14 n1 n2 n3 n4) λM m=>⟨?_,?_⟩
       rotate_left
       clear h
       intro τ h
       rotate_left)
    | (with_reducible refine GP.use (c15 n1 n2 n3 n4) λM m=>⟨?_,?_⟩
       rotate_left
       clear h
       intro τ h
       rotate_left)
    | (with_reducible refine GP.use (c16 n1 n2 n3 n4) λM m=>⟨?_,?_⟩
       rotate_left
       clear h
       intro τ h
       rotate_left)
    | (with_reducible refine GP.use (c17 n1 n2 n3 n4) λM m=>⟨?_,?_⟩
       rotate_left
       clear h
       intro τ h
       rotate_left)
    | (with_reducible refine GP.use (c18 n1 n2 n3 n4) λM m=>⟨?_,?_⟩
       rotate_left
       clear h
       intro τ h
       rotate_left)
    | (with_reducible refine GP.use (c19 n1 n2 n3 n4) λM m=>⟨?_,?_⟩
       rotate_left
       clear h
       intro τ h
       rotate_left)
    | (with_reducible refine GP.use (c20 n1 n2 n3 n4) λM m=>⟨?_,?_⟩
       rotate_left
       clear h
       intro τ h
       rotate_left)
    | (with_reducible refine GP.use (c21 n1 n2 n3 n4) λM m=>⟨?_,?_⟩
       rotate_left
       clear h
       intro τ h
       rotate_left)
    | (with_reducible refine GP.use (c22 n1 n2 n3 n4) λM m=>⟨?_,?_⟩
       rotate_left
       clear h
       intro τ h
       rotate_left)
    | (with_reducible refine GP.use (c23 n1 n2 n3 n4) λM m=>⟨?_,?_⟩
       rotate_left
       clear h
       intro τ h
       rotate_left)
    | (with_reducible refine GP.use (c24 n1 n2 n3 n4) λM m=>⟨?_,?_⟩
       rotate_left
       clear h
       intro τ h
       rotate_left)
    | (with_reducible refine GP.use (c25 n1 n2 n3 n4) λM m=>⟨?_,?_⟩
       rotate_left
       clear h
       intro τ h
       rotate_left)
    | (with_reducible refine GP.use (c26 n1 n2 n3 n4) λM m=>⟨?_,?_⟩
       rotate_left
       clear h
       intro τ h
       rotate_left)
    | (with_reducible refine GP.use (c27 n1 n2 n3 n4) λM m=>⟨?_,?_⟩
       rotate_left
       clear h
       intro τ h
       rotate_left)
    | (with_reducible refine GP.use (c28 n1 n2 n3 n4) λM m=>⟨?_,?_⟩
       rotate_left
       clear h
       intro τ h
       rotate_left)
    | (with_reducible refine GP.use (c29 n1 n2 n3 n4) λM m=>⟨?_,?_⟩
       rotate_left
       clear h
       intro τ h
       rotate_left)
    | (with_reducible refine GP.use (c30 n1 n2 n3 n4) λM m=>⟨?_,?_⟩
       rotate_left
       clear h
       intro τ h
       rotate_left)
    | (with_reducible refine QA.use (l1 n1 n2 n3 n4) ?_ ?_
       . repeat with_reducible apply Exists.intro
         with_reducible refine⟨?_,h⟩
         simp +decide only[go_sem, *]
         done
       clear h
       rintro(_|n1) τ N h k
       . repeat (with_reducible first|refine iY h ?_|refine gD h ?_);clear h;intro _ h
         exact B9 h
       repeat (with_reducible first|refine iY h ?_|refine gD h ?_);clear h;intro _ h
       rw[Ac]at h)
    | (with_reducible refine QA.use (l2 n1 n2 n3 n4) ?_ ?_
       . repeat with_reducible apply Exists.intro
         with_reducible refine⟨?_,h⟩
         simp +decide only[go_sem, *]
         done
       clear h
       rintro(_|n2) τ N h k
       . repeat (with_reducible first|refine iY h ?_|refine gD h ?_);clear h;intro _ h
         exact B9 h
       repeat (with_reducible first|refine iY h ?_|refine gD h ?_);clear h;intro _ h
       rw[Da]at h)
    | (with_reducible refine QA.use (l3 n1 n2 n3 n4) ?_ ?_
       . repeat with_reducible apply Exists.intro
         with_reducible refine⟨?_,h⟩
         simp +decide only[go_sem, *]
         done
       clear h
       rintro(_|n3) τ N h k
       . repeat (with_reducible first|refine iY h ?_|refine gD h ?_);clear h;intro _ h
         exact B9 h
       repeat (with_reducible first|refine iY h ?_|refine gD h ?_);clear h;intro _ h
       rw[Gx]at h)
    | (with_reducible refine QA.use (l4 n1 n2 n3 n4) ?_ ?_
       . repeat with_reducible apply Exists.intro
         with_reducible refine⟨?_,h⟩
         simp +decide only[go_sem, *]
         done
       clear h
       rintro(_|n4) τ N h k
       . repeat (with_reducible first|refine iY h ?_|refine gD h ?_);clear h;intro _ h
         exact B9 h
       repeat (with_reducible first|refine iY h ?_|refine gD h ?_);clear h;intro _ h
       rw[tF]at h)
    | (with_reducible refine bO (by assumption) ?_
       repeat with_reducible apply Exists.intro
       with_reducible refine⟨?_,h⟩)
    |simp only[*,eq_self,if_true,if_false,Bool.false_eq_true,decide_true,decide_false]at h
    | (with_reducible refine bI h ?_ ?_
       all_goals
         clear h
         intro _ h)
    |unfold L1 at h
    |unfold L2 at h
    |unfold L3 at h
    |unfold L4 at h
    |unfold J1 at h
    |unfold J2 at h
    |unfold J3 at h
    |unfold J4 at h
    |unfold J5 at h
    |unfold J6 at h
    |unfold J7 at h
    |unfold J8 at h
    |unfold J9 at h
    |unfold Oj at h
    |unfold XY at h
    |unfold Z8 at h
    |unfold J13 at h
    |unfold J14 at h
    |unfold J15 at h
    |unfold J16 at h
    |unfold J17 at h
    |unfold J18 at h
    |unfold J19 at h
    |unfold J20 at h
    |unfold J21 at h
    |unfold J22 at h
    |unfold J23 at h
    |unfold J24 at h
    |unfold J25 at h
    |unfold J26 at h
    |unfold J27 at h
    |unfold J28 at h
    |unfold J29 at h
    |unfold J30 at h):p:=q
end Go.Abs
namespace Go.Abs
inductive A where
 |f (o s:Nat)|F (o s:Nat)|H (r o s:Nat)|h (r o s:Nat)|m (r o s:Nat)|u (o s:Nat)|U (o s:Nat)|L (s:Nat)|l (r s:Nat)|C (s:Nat)
 |Q (s:Nat) (k:Int)|q (s:Nat) (k:Int) (d:Nat)|P (op:BinOp) (s:Nat) (k:Int)|O (op:BinOp) (a b:Nat)|M (d s:Nat)|K (d:Nat) (k:Int)|B (d:Nat) (b:Bool)
 |S (k a b:Nat)|T (a:Nat) (k:Int)|I (k s i:Nat)|J (r k s i:Nat)|A (k s:Nat)|Z (s:Nat)|V (a b:Nat)|W (a b:Nat)|N (s:Nat)|Y (k:Int)
 |p (s o:Nat)|r (s o:Nat)|D (s:Nat)|c (f:Nat) (l:List Nat) (m:Nat)|G (a:Nat) (b:Bool)|e|w (n:Nat)|o (op:Rq)|y (r:Nat) (op:Rq)|x (op:A7)|b (d:Nat) (kl:List Nat) (op:Rq)
def tN:List Nat->List Ar
 |[]=>[]
 |s::l=>.t s::tN l
def Iz:Option (Nat×Bool)->Nat->List A->List A7
 |_,_,[]=>[]
 |g,n,.f o s::l=>⟨some ⟨n,[],[s]⟩,.PL o (.t s),g⟩::⟨some ⟨n+1,[],[]⟩,.ld false 1 (.t n),g⟩::Iz g (n+2) l
 |g,n,.F o s::l=>⟨some ⟨n,[],[s]⟩,.PL o (.t s),g⟩::Iz g (n+1) l
 |g,n,.H r o s::l=>⟨some ⟨n,[],[r]⟩,.PL o (.t s),g⟩::Iz g (n+1) l
 |g,n,.h r o s::l=>⟨some ⟨n,[],[r]⟩,.PL o (.t s),g⟩::⟨some ⟨n+1,[],[]⟩,.ld false 1 (.t n),g⟩::Iz g (n+2) l
 |g,n,.m r o s::l=>⟨some ⟨n,[],[r]⟩,.PL o (.t s),g⟩::⟨some ⟨n+1,[],[r]⟩,.ld false 1 (.t n),g⟩::Iz g (n+2) l
 |g,n,.u o s::l=>⟨some ⟨n,[],[]⟩,.PL o (.t s),g⟩::Iz g (n+1) l
 |g,n,.U o s::l=>⟨some ⟨n,[],[]⟩,.PL o (.t s),g⟩::⟨some ⟨n+1,[],[]⟩,.ld false 1 (.t n),g⟩::Iz g (n+2) l
 |g,n,.L s::l=>⟨some ⟨n,[],[]⟩,.ld false 1 (.t s),g⟩::Iz g (n+1) l
 |g,n,.l r s::l=>⟨some ⟨n,[],[r]⟩,.ld false 1 (.t s),g⟩::Iz g (n+1) l
 |g,n,.C s::l=>⟨some ⟨n,[],[]⟩,.cp (.t s),g⟩::Iz g (n+1) l
 |g,n,.Q s k::l=>⟨some ⟨n,[],[]⟩,.bin .eql (.t s) (.c (.sc (.int .i64 k))),g⟩::Iz g (n+1) l
 |g,n,.q s k d::l=>⟨some ⟨n,[],[]⟩,.bin .eql (.t s) (.c (.sc (.int .i64 k))),g⟩::⟨some ⟨d,[],[]⟩,.mv (.t n),g⟩::Iz g (n+1) l
 |g,n,.P op s k::l=>⟨some ⟨n,[],[]⟩,.bin op (.t s) (.c (.sc (.int .i64 k))),g⟩::Iz g (n+1) l
 |g,n,.O op a b::l=>⟨some ⟨n,[],[]⟩,.bin op (.t a) (.t b),g⟩::Iz g (n+1) l
 |g,n,.M d s::l=>⟨some ⟨d,[],[]⟩,.mv (.t s),g⟩::Iz g n l
 |g,n,.K d k::l=>⟨some ⟨d,[],[]⟩,.mv (.c (.sc (.int .i64 k))),g⟩::Iz g n l
 |g,n,.B d b::l=>⟨some ⟨d,[],[]⟩,.mv (.c (.sc (.bool b))),g⟩::Iz g n l
 |g,n,.S k a b::l=>⟨none,.st k (.t a) (.t b),g⟩::Iz g n l
 |g,n,.T a k::l=>⟨none,.st 1 (.t a) (.c (.sc (.int .i64 k))),g⟩::Iz g n l
 |g,n,.I k s i::l=>⟨some ⟨n,[],[]⟩,.Lr k (.t s) (.t i),g⟩::Iz g (n+1) l
 |g,n,.J r k s i::l=>⟨some ⟨n,[],[r]⟩,.Lr k (.t s) (.t i),g⟩::Iz g (n+1) l
 |g,n,.A k s::l=>⟨some ⟨n,[],[]⟩,.ld true k (.t s),g⟩::Iz g (n+1) l
 |g,n,.Z s::l=>⟨some ⟨n,[],[]⟩,.len (.t s),g⟩::Iz g (n+1) l
 |g,n,.V a b::l=>⟨some ⟨n,[],[]⟩,.pick (.t a) (.c (.sc (.bool true))) (.t b),g⟩::Iz g (n+1) l
 |g,n,.W a b::l=>⟨some ⟨n,[],[]⟩,.pick (.t a) (.t b) (.c (.sc (.bool false))),g⟩::Iz g (n+1) l
 |g,n,.N s::l=>⟨some ⟨n,[],[]⟩,.un .not (.t s),g⟩::Iz g (n+1) l
 |g,n,.Y k::l=>⟨some ⟨n,[],[]⟩,.cp (.c (.sc (.int .i64 k))),g⟩::Iz g (n+1) l
 |g,n,.p s o::l=>⟨some ⟨n,[],[s]⟩,.cp (.t s),g⟩::⟨some ⟨n+1,[],[s]⟩,.FF (.t n),g⟩::⟨some ⟨n+2,[],[s]⟩,.PL o (.t (n+1)),g⟩::⟨some ⟨n+3,[],[]⟩,.ld false 1 (.t (n+2)),g⟩::Iz g (n+4) l
 |g,n,.r s o::l=>⟨some ⟨n,[],[s]⟩,.cp (.t s),g⟩::⟨some ⟨n+1,[],[s]⟩,.FF (.t n),g⟩::⟨some ⟨n+2,[],[s]⟩,.PL o (.t (n+1)),g⟩::⟨some ⟨n+3,[],[s]⟩,.ld false 1 (.t (n+2)),g⟩::Iz g (n+4) l
 |g,n,.D s::l=>⟨some ⟨n,[],[s]⟩,.cp (.t s),g⟩::⟨some ⟨n+1,[],[s]⟩,.FF (.t n),g⟩::Iz g (n+2) l
 |g,n,.c f a m::l=>⟨some ⟨n,[],[]⟩,.call f (tN a) m,g⟩::Iz g (n+1) l
 |_,n,.G a b::l=>Iz (some (a,b)) n l
 |_,n,.e::l=>Iz none n l
 |g,_,.w n::l=>Iz g n l
 |g,n,.o op::l=>⟨some ⟨n,[],[]⟩,op,g⟩::Iz g (n+1) l
 |g,n,.y r op::l=>⟨some ⟨n,[],[r]⟩,op,g⟩::Iz g (n+1) l
 |g,n,.x op::l=>op::Iz g n l
 |g,n,.b d k op::l=>⟨some ⟨d,k,[]⟩,op,g⟩::Iz g n l
def Ra (n:Nat) (l:List A) (b:IC):IC:=.seq (.TO (Iz none n l)) b
def Rb (n:Nat) (l:List A):IC:=.seq (.TO (Iz none n l)) .ret
def Rc (n:Nat) (l:List A):IC:=.TO (Iz none n l)
def Cn (c:Nat) (a b:IC):IC:=.cond (.t c) a b
def Ci (c:Nat) (a:IC):IC:=.cond (.t c) a .skip
def Sq (a b:IC):IC:=.seq a b
def Bk (n:Nat) (a:IC):IC:=.block n a
def Bl (n:Nat) (a:IC):IC:=.block n (.loop a)
attribute [go_sem] tN Iz Ra Rb Rc Cn Ci Sq Bk Bl
abbrev vS {α:Type} (k:Nat) (e:α->List AV) (l:List α):AV:=.sl false k (l.map e)
abbrev vO {α:Type} (k:Nat) (e:α->List AV) (l:List α):AV:=.own false k (l.map e)
attribute [go_sem] vS vO
section
variable {P:Program} {f:Nat} {fn:Func} {I:FI} {args:List AV} {res:AV} {outs:List AV}
theorem wO (hm:P.follows .mixedOrders=true) (hf:P.funcs[f]? =some fn) (h:FZ P I.g I.c (Ends I.g I.r res) (start args)) (hc:I2 P fn I=true:=by kernel_rfl) (hn:args.length≤fn.ntmps:=by exact of_decide_eq_true (by kernel_rfl)) (ha:args.all G1=true:=by rfl):Says P f args res:=Ij hm hf hc hn ha h
theorem wF (hm:P.follows .mixedOrders=true) (hf:P.funcs[f]? =some fn) (h:FZ P I.g I.c (XV I.g I.r res) (start args)) (hc:I2 P fn I=true:=by kernel_rfl) (hn:args.length≤fn.ntmps:=by exact of_decide_eq_true (by kernel_rfl)) (ha:args.all G1=true:=by rfl):Says P f args res:=Vi hm hf hc hn ha h
theorem wL (hm:P.follows .mixedOrders=true) (hf:P.funcs[f]? =some fn) (h:FZ P I.g I.c (SZ I.g I.r res outs) (start args)) (hc:I2 P fn I=true:=by kernel_rfl) (hD:Yh fn args.length=true:=by kernel_rfl) (hn:args.length≤fn.ntmps:=by exact of_decide_eq_true (by kernel_rfl)) (ha:args.all G1=true:=by rfl) (hl:outs.length=args.length:=by rfl):A5 P f args res outs:=RT hm hf hc hD hn ha hl h
theorem wP (hm:P.follows .mixedOrders=true) (hf:P.funcs[f]? =some fn) (h:FZ P I.g I.c (XW I.g I.r res outs) (start args)) (hc:I2 P fn I=true:=by kernel_rfl) (hD:Yh fn args.length=true:=by kernel_rfl) (hn:args.length≤fn.ntmps:=by exact of_decide_eq_true (by kernel_rfl)) (ha:args.all G1=true:=by rfl) (hl:outs.length=args.length:=by rfl):A5 P f args res outs:=Zd hm hf hc hD hn ha hl h
end
end Go.Abs
namespace Go.Abs
open Go.ChangeShapes Go.WideShapes Go.ChangeAt Go.RowKit
def Old (w:World) (b:Nat):Prop:=b<w.heap.size
def Cells (w:World) (avs:List AV) (cs:List Value):Prop:=avs.length=cs.length/\∀(i:Nat) a v,avs[i]? =some a->cs[i]? =some v->Fz w (Old w) a v
theorem Cells.append {w:World} {a1 a2:List AV} {c1 c2:List Value} (h1:Cells w a1 c1) (h2:Cells w a2 c2):Cells w (a1++a2) (c1++c2):=by
 refine⟨by simp[h1.1,h2.1],λi a v ha hv=> ?_⟩
 by_cases hi:i<a1.length
 . rw[List.getElem?_append_left hi]at ha
   rw[List.getElem?_append_left (by rw[← h1.1];exact hi)]at hv
   exact h1.2 i a v ha hv
 . rw[List.getElem?_append_right (by omega)]at ha
   rw[List.getElem?_append_right (by rw[← h1.1];omega)]at hv
   rw[← h1.1]at hv
   exact h2.2 _ a v ha hv
theorem Cells.nil (w:World):Cells w [] []:=⟨rfl,λi a v h=>by simp at h⟩
theorem Cells.one {w:World} {a:AV} {v:Value} (h:Fz w (Old w) a v):Cells w [a] [v]:=by
 refine⟨rfl,λi a' v' ha hv=> ?_⟩
 cases i with
 |zero=>simp at ha hv;subst ha;subst hv;exact h
 |succ i=>simp at ha
def Light {H:Type} (P:Program) (t:TypeId) (d:DataW H):Prop:=∀n∈d.weights P t,n≤reachBytes
def Jp (P:Program) (t:TypeId) (X:List AV->Prop):Prop:=
 ∀(H:Type) (enc:TypeId×Value->H) (w:World) (fuel:Nat) (cs:List Value) (d:DataW H) (ps:List MemPlace),
  DataW.trod enc P w 0 (λ_=>true) true fuel t cs=some (d,ps)->Light P t d->∃avs,X avs/\Cells w avs cs
theorem Jp.mono {P:Program} {t:TypeId} {X Y:List AV->Prop} (h:Jp P t X) (hXY:∀a,X a->Y a):Jp P t Y:=by
 intro H enc w fuel cs d ps ht hl
 obtain⟨avs,hx,hc⟩:=h H enc w fuel cs d ps ht hl
 exact⟨avs,hXY _ hx,hc⟩
theorem UO {P:Program} {t:TypeId} {k:IntKind} (h:P.underlying t=some (.int k)):Jp P t (λavs=>∃n,avs=[.sc (.int k n)]/\(Lit.int k n).wf=true):=by
 intro H enc w fuel cs d ps ht hl
 cases fuel with
 |zero=>simp[DataW.trod]at ht
 |succ fuel=>
  unfold DataW.trod at ht
  rw[h]at ht
  split at ht<;>rename_i h1<;>try (cases h1;done)
  . cases h1
    split at ht
    . rename_i hw
      obtain⟨rfl,hw⟩:=hw
      exact⟨_,⟨_,rfl,hw⟩,Cells.one (.sc _ rfl)⟩
    . cases ht
  . cases ht
theorem cells?_facts {w:World} {a:Addr} {n:Nat} {cs:List Value} (h:w.cells? 0 a n=some cs):cs.length=n/\∀(j:Nat) v,cs[j]? =some v->w.cell? (a.add j)=some v:=by
 unfold World.cells? at h
 rw[if_pos (Nat.zero_le _)]at h
 have hlen:=mapM_some_length h
 rw[List.length_range]at hlen
 refine⟨hlen,λj v hj=> ?_⟩
 have hjn:j<n:=by rw[← hlen];exact(List.getElem?_eq_some_iff.1 hj).1
 have:=mapM_some_get h j j (by simp[hjn])
 rw[this];exact hj
theorem Rk {H:Type} {P:Program} {e:TypeId} {l:List (DataW H)} {d:DataW H} (hd:d∈l) {n:Nat} (hn:n∈d.weights P e):n∈DataW.weightsAll P e l:=by
 induction l with
 |nil=>simp at hd
 |cons x l ih=>
  rw[DataW.weightsAll,List.mem_append]
  rcases List.mem_cons.1 hd with rfl|hd
  . exact .inl hn
  . exact .inr (ih hd)
theorem Xe {w:World} {a:Addr} {v:Value} (h:w.cell? a=some v):a.spot=none/\a.block<w.heap.size:=by
 unfold World.cell? at h
 split at h
 . rename_i c e f1 f2 hb
   refine⟨?_,(Array.getElem?_eq_some_iff.1 hb).1⟩
   cases hs:a.spot with
   |none=>rfl
   |some x=>simp[hs]at h
 . cases h
theorem VR {P:Program} {t e:TypeId} {k:Nat} {X:List AV->Prop} (h:P.underlying t=some (.slice e)) (hk:P.cellsOf e=k) (hk0:0<k) (he:Jp P e X):
 Jp P t (λavs=>∃rows,avs=[.sl false k rows]/\(∀row∈rows,X row/\row.length=k)/\rows.length*P.bytesOf e≤reachBytes):=by
 intro H enc w fuel cs d ps ht hl
 cases fuel with
 |zero=>simp[DataW.trod]at ht
 |succ fuel=>
  unfold DataW.trod at ht
  rw[h]at ht
  split at ht<;>rename_i h1<;>try (cases h1;done)
  . exact⟨_,⟨[],rfl,by simp,by simp⟩,Cells.one (.nil _ _ _ _ (by simp))⟩
  . rename_i e' a len cap
    obtain rfl:e=e':=by simpa using h1
    simp only[hk]at ht
    split at ht
    . rename_i hc
      cases hm:(List.range len).mapM (λi=>(w.cells? 0 (a.add (i*k)) k).bind (DataW.trod enc P w 0 (λ_=>true) true fuel e))with
      |none=>simp[hm]at ht
      |some elems=>
       rw[hm]at ht
       simp only[Option.bind_some,if_true,Option.map_eq_some_iff,Prod.mk.injEq]at ht
       obtain⟨rest,_,rfl,_⟩:=ht
       have hlen:elems.length=len:=by have:=mapM_some_length hm;simpa using this
       -- each element
       have hel:∀i,i<len->∃csi x avs,w.cells? 0 (a.add (i*k)) k=some csi/\elems[i]? =some x/\X avs/\Cells w avs csi:=by
        intro i hi
        have:=mapM_some_get hm i i (by simp[hi])
        cases hcs:w.cells? 0 (a.add (i*k)) k with
        |none=>
         rw[hcs]at this
         have h2:elems[i]? =some elems[i]:=List.getElem?_eq_getElem (by omega)
         rw[h2]at this;simp at this
        |some csi=>
         rw[hcs]at this
         have h2:elems[i]? =some elems[i]:=List.getElem?_eq_getElem (by omega)
         rw[h2,Option.bind_some]at this
         obtain⟨avs,hx,hcc⟩:=he H enc w fuel csi elems[i].1 elems[i].2 this (λn hn=>hl n (by
          rw[DataW.weights,h]
          simp only[List.mem_cons,List.mem_append]
          exact .inr (.inl (Rk (List.mem_map_of_mem (List.getElem_mem (by omega))) hn))))
         exact⟨csi,_,avs,rfl,h2,hx,hcc⟩
       have hw:∃f:Nat->List AV×List Value,∀i,i<len->w.cells? 0 (a.add (i*k)) k=some (f i).2/\X (f i).1/\Cells w (f i).1 (f i).2:=by
        refine⟨λi=>if hi:i<len then((hel i hi).choose_spec.choose_spec.choose,(hel i hi).choose)else([],[]),λi hi=> ?_⟩
        have:=(hel i hi).choose_spec.choose_spec.choose_spec
        simp only[hi,dif_pos]
        exact⟨this.1,this.2.2⟩
       obtain⟨f,hf⟩:=hw
       let rows:=(List.range len).map λi=>(f i).1
       have hrl:rows.length=len:=by simp[rows]
       have hrow:∀i row,rows[i]? =some row->i<len/\row=(f i).1:=by
        intro i row hr
        have hi:i<len:=by rw[← hrl];exact(List.getElem?_eq_some_iff.1 hr).1
        refine⟨hi,?_⟩
        simp only[rows,List.getElem?_map,List.getElem?_range hi,Option.map_some,Option.some.injEq]at hr
        exact hr.symm
       have hrk:∀i,i<len->(f i).1.length=k:=λi hi=>by
        rw[(hf i hi).2.2.1];exact(cells?_facts (hf i hi).1).1
       refine⟨_,⟨rows,rfl,?_,?_⟩,Cells.one ?_⟩
       . intro row hr
         obtain⟨i,hi⟩:=List.mem_iff_getElem?.1 hr
         obtain⟨h2,rfl⟩:=hrow i row hi
         exact⟨(hf i h2).2.1,hrk i h2⟩
       . have:=hl ((elems.map (·.1)).length+(rest.map (·.1)).length) |> λ_=>hl (((elems.map (·.1)).length+(rest.map (·.1)).length)*P.bytesOf e) (by rw[DataW.weights,h];simp)
         rw[hrl]
         refine Nat.le_trans (Nat.mul_le_mul_right _ ?_) this
         simp[hlen]
       . by_cases h0:len=0
         . subst h0
           have hr0:rows=[]:=List.eq_nil_of_length_eq_zero hrl
           rw[hr0]
           exact .nil _ _ _ _ (by simp)
         . have hcell:∀i j row c,rows[i]? =some row->row[j]? =some c->∃v,(f i).2[j]? =some v/\w.cell? ((a.add (i*k)).add j)=some v/\Fz w (Old w) c v:=by
            intro i j row c h2 h3
            obtain⟨h4,rfl⟩:=hrow i row h2
            have hj:j<(f i).2.length:=by rw[← (hf i h4).2.2.1];exact(List.getElem?_eq_some_iff.1 h3).1
            have h5:(f i).2[j]? =some (f i).2[j]:=List.getElem?_eq_getElem hj
            exact⟨_,h5,(cells?_facts (hf i h4).1).2 j _ h5,(hf i h4).2.2.2 j c _ h3 h5⟩
           obtain⟨r0,hr0⟩:∃r0,rows[0]? =some r0:=⟨rows[0]'(by omega),List.getElem?_eq_getElem _⟩
           obtain⟨_,e0⟩:=hrow 0 r0 hr0
           obtain⟨c0,hc0⟩:∃c0,r0[0]? =some c0:=⟨r0[0]'(by rw[e0,hrk 0 (by omega)];exact hk0),List.getElem?_eq_getElem _⟩
           obtain⟨v0,_,hv0,_⟩:=hcell 0 0 r0 c0 hr0 hc0
           obtain⟨hsp,NO⟩:=Xe hv0
           obtain⟨b,off,sp⟩:=a
           obtain rfl:sp=none:=by
            unfold Addr.add at hsp
            simp only[if_true]at hsp
            split at hsp
            . exact hsp
            . cases sp<;>simp_all
           rw[Addr.add_lit,Addr.add_lit]at NO
           have hsl:=Fz.sl (w:=w) (S:=Old w) false k rows b off cap (λi j=>((f i).2[j]?).getD undef) (by simp) (by rw[hrl];exact hc.2.1) NO (by
            intro row hr
            obtain⟨i,hi⟩:=List.mem_iff_getElem?.1 hr
            obtain⟨h2,rfl⟩:=hrow i row hi
            exact hrk i h2) (by
            intro i j row c h2 h3
            obtain⟨v,h4,h5,_⟩:=hcell i j row c h2 h3
            rw[h4]
            rw[Addr.add_lit,Addr.add_lit]at h5
            rw[show off+(i*k+j)=off+i*k+j from by omega]
            exact h5) (by
            intro i j row c h2 h3
            obtain⟨v,h4,_,h6⟩:=hcell i j row c h2 h3
            rw[h4]
            exact h6)
           rw[hrl]at hsl
           exact hsl
    . cases ht
  . cases ht
end Go.Abs
namespace Go.Abs
open Go.ChangeShapes Go.WideShapes Go.ChangeAt Go.RowKit
def sY:List (List AV->Prop)->List AV->Prop
 |[],avs=>avs=[]
 |X::Xs,avs=>∃a r,avs=a++r/\X a/\sY Xs r
def Xa (P:Program):List Field->Nat->List (List AV->Prop)->Prop
 |[],_,[]=>True
 |f::fs,off,X::Xs=>f.offset=off/\Jp P f.type X/\Xa P fs (off+P.cellsOf f.type) Xs
 |_,_,_=>False
def JA (P:Program):List Field->Nat->Nat
 |[],off=>off
 |f::fs,off=>JA P fs (off+P.cellsOf f.type)
theorem Vs {P:Program} {H:Type} {enc:TypeId×Value->H} {w:World} {fuel:Nat} {cs:List Value} (fs:List Field):∀(off:Nat) (Xs:List (List AV->Prop)) (xs:List (DataW H×List MemPlace)),Xa P fs off Xs->JA P fs off≤cs.length->
 fs.mapM (λf=>DataW.trod enc P w 0 (λ_=>true) true fuel f.type ((cs.drop f.offset).take (P.cellsOf f.type)))=some xs->(∀n∈DataW.weightsEach P (fs.map (·.type)) (xs.map (·.1)),n≤reachBytes)->
 ∃avs,sY Xs avs/\Cells w avs ((cs.drop off).take (JA P fs off-off)):=by
 induction fs with
 |nil=>
  intro off Xs xs hO hle hm hw
  cases Xs with
  |nil=>exact⟨[],rfl,by simp[JA,Cells.nil]⟩
  |cons=>exact hO.elim
 |cons f fs ih=>
  intro off Xs xs hO hle hm hw
  cases Xs with
  |nil=>exact hO.elim
  |cons X Xs=>
   obtain⟨ho,hX,hO⟩:=hO
   rw[List.mapM_cons]at hm
   cases h1:DataW.trod enc P w 0 (λ_=>true) true fuel f.type ((cs.drop f.offset).take (P.cellsOf f.type))with
   |none=>simp[h1]at hm
   |some x=>
    cases h2:fs.mapM (λf=>DataW.trod enc P w 0 (λ_=>true) true fuel f.type ((cs.drop f.offset).take (P.cellsOf f.type)))with
    |none=>simp[h1,h2]at hm
    |some ys=>
     simp only[h1,h2,Option.pure_def,Option.bind_eq_bind,Option.bind_some,Option.some.injEq]at hm
     subst hm
     simp only[List.map_cons,DataW.weightsEach,List.mem_append]at hw
     obtain⟨a,ha,hca⟩:=hX H enc w fuel _ x.1 x.2 h1 (λn hn=>hw n (.inl hn))
     obtain⟨r,hr,hcr⟩:=ih (off+P.cellsOf f.type) Xs ys hO (by simpa[JA]using hle) h2 (λn hn=>hw n (.inr hn))
     refine⟨a++r,⟨a,r,rfl,ha,hr⟩,?_⟩
     have hge:∀(l:List Field) (o:Nat),o≤JA P l o:=by
      intro l
      induction l with
      |nil=>intro o;exact Nat.le_refl _
      |cons g l ih=>intro o;have:=ih (o+P.cellsOf g.type);simp only[JA];omega
     have h3:=hge fs (off+P.cellsOf f.type)
     have e:(cs.drop off).take (JA P (f::fs) off-off)=(cs.drop f.offset).take (P.cellsOf f.type)++(cs.drop (off+P.cellsOf f.type)).take (JA P fs (off+P.cellsOf f.type)-(off+P.cellsOf f.type)):=by
      rw[ho,← List.drop_drop]
      simp only[JA]
      rw[show JA P fs (off+P.cellsOf f.type)-off=P.cellsOf f.type+(JA P fs (off+P.cellsOf f.type)-(off+P.cellsOf f.type))from by omega,List.take_add]
     rw[e]
     exact hca.append hcr
def OM (P:Program) (t:TypeId) (avs:List AV):AV:=if(match P.underlying t with|some (.struct _)=>true|some (.array _ _)=>true|_=>false)=true then .agg avs else avs.headD .dead
def Z4 (P:Program):List TypeId->List (List AV->Prop)->List AV->Prop
 |[],[],as'=>as'=[]
 |t::ts,X::Xs,as'=>∃avs r,as'=OM P t avs::r/\X avs/\Z4 P ts Xs r
 |_,_,_=>False
def V4 (P:Program):List TypeId->List (List AV->Prop)->Prop
 |[],[]=>True
 |t::ts,X::Xs=>Jp P t X/\V4 P ts Xs
 |_,_=>False
theorem YL {P:Program} {H:Type} {enc:TypeId×Value->H} {w:World} {base:Nat} (ts:List TypeId):∀(Xs:List (List AV->Prop)) (vs:List Value) (ds:List (DataW H)) (ps:List MemPlace),V4 P ts Xs->DataW.TrodAll enc P w 0 (λ_=>true) true ts vs ds ps->
 (∀(j:Nat) t v,ts[j]? =some t->vs[j]? =some v->Value.okWide P w .any base t v)->(∀n∈DataW.weightsEach P ts ds,n≤reachBytes)->
 ∃as':List AV,Z4 P ts Xs as'/\as'.length=vs.length/\∀(i:Nat) a v,as'[i]? =some a->vs[i]? =some v->Fz w (Old w) a v:=by
 induction ts with
 |nil=>
  intro Xs vs ds ps hO hT hv hw
  obtain⟨rfl,rfl,rfl⟩:=trodAll_nil hT
  cases Xs with
  |nil=>exact⟨[],rfl,rfl,λi a v h=>by simp at h⟩
  |cons=>exact hO.elim
 |cons t ts ih=>
  intro Xs vs ds ps hO hT hv hw
  cases Xs with
  |nil=>exact hO.elim
  |cons X Xs=>
   obtain⟨hX,hO⟩:=hO
   obtain⟨v,vs1,d,ds1,p,q,rfl,rfl,rfl,⟨fuel,h1⟩,h2⟩:=trodAll_cons hT
   simp only[DataW.weightsEach,List.mem_append]at hw
   obtain⟨avs,hx,hc⟩:=hX H enc w fuel _ d p h1 (λn hn=>hw n (.inl hn))
   obtain⟨r,hr1,hr2,hr3⟩:=ih Xs vs1 ds1 q hO h2 (λj t' v' ht' hv'=>hv (j+1) t' v' (by simpa using ht') (by simpa using hv')) (λn hn=>hw n (.inr hn))
   have hval:=hv 0 t v rfl rfl
   refine⟨OM P t avs::r,⟨avs,r,rfl,hx,hr1⟩,by simp[hr2],?_⟩
   intro i a u ha hu
   cases i with
   |succ i=>simp at ha hu;exact hr3 i a u ha hu
   |zero=>
    simp only[List.getElem?_cons_zero,Option.some.injEq]at ha hu
    subst ha;subst hu
    unfold OM
    by_cases hag:(match P.underlying t with|some (.struct _)=>true|some (.array _ _)=>true|_=>false)=true
    . rw[if_pos hag]
      obtain⟨cs,rfl⟩:∃cs,v= .agg cs:=by
       unfold Value.okWide at hval
       split at hval
       . exact⟨_,hval.choose_spec.1⟩
       . exact⟨_,hval.choose_spec.1⟩
       . rename_i h3 h4
         exfalso
         split at hag
         . rename_i fs hh;exact h3 fs hh
         . rename_i n e hh;exact h4 n e hh
         . cases hag
      have:=Fz.agg (w:=w) (S:=Old w) avs cs.toList (by rw[hc.1];rfl) (λi a v ha hv=>hc.2 i a v ha hv)
      simpa using this
    . rw[if_neg hag]
      have hcell:v.cells.toList=[v]:=by
       unfold Value.okWide at hval
       split at hval
       . rename_i hh;simp[hh]at hag
       . rename_i hh;simp[hh]at hag
       . cases v with
         |agg cs=>
          exfalso
          unfold Cell.okWide at hval
          split at hval<;>rename_i hv'<;>try (cases hv';done)
          . simp[Cell.ok]at hval
         |_=>rfl
      rw[hcell]at hc
      obtain⟨a,rfl⟩:∃a,avs=[a]:=List.length_eq_one_iff.1 hc.1
      exact hc.2 0 a v rfl rfl
end Go.Abs
namespace Go.Abs
open Go.ChangeShapes Go.WideShapes Go.ChangeAt Go.RowKit
theorem Qc {w:World} {S:Nat->Prop} (cs:List AV):∀(vs:List Value),vs.length=cs.length->(∀(i:Nat) a v,cs[i]? =some a->vs[i]? =some v->∃D:DV,D.er=a/\D.Al=v/\Ok w S D (λ_=>False))->
 ∃Ds:List DV,Ds.map DV.er=cs/\Ds.map DV.Al=vs/\∀D∈Ds,Ok w S D (λ_=>False):=by
 induction cs with
 |nil=>intro vs h _;cases vs with|nil=>exact⟨[],rfl,rfl,by simp⟩|cons=>simp at h
 |cons a cs ih=>
  intro vs h hf
  cases vs with
  |nil=>simp at h
  |cons v vs=>
   obtain⟨Ds,d1,d2,d3⟩:=ih vs (by simpa using h) (λi a v h1 h2=>hf (i+1) a v (by simpa using h1) (by simpa using h2))
   obtain⟨D,e1,e2,e3⟩:=hf 0 a v rfl rfl
   refine⟨D::Ds,by simp[d1,e1],by simp[d2,e2],?_⟩
   intro X hX
   rcases List.mem_cons.1 hX with rfl|hX
   . exact e3
   . exact d3 X hX
theorem jB {w:World} {S:Nat->Prop} {a:AV} {v:Value} (h:Fz w S a v):∃D:DV,D.er=a/\D.Al=v/\Ok w S D (λ_=>False):=by
 induction h with
 |sc v hp=>exact⟨.lf (.sc v) v,by simp,by simp,.lf _ _ _ ⟨rfl,hp⟩ (λ_ h=>h)⟩
 |dead v=>exact⟨.lf .dead v,by simp,by simp,.lf _ _ _ trivial (λ_ h=>h)⟩
 |nil x k a c hx=>exact⟨.lf (.sl x k []) (.slice a 0 c),by simp,by simp,.lf _ _ _ (Fz.nil x k a c hx) (λ_ h=>h)⟩
 |sl x k rows b off c vs hx hlc hS hk hc hr ih=>exact⟨.lf (.sl x k rows) (.slice (some ⟨b,off,none⟩) rows.length c),by simp,by simp,.lf _ _ _ (Fz.sl x k rows b off c vs hx hlc hS hk hc hr) (λ_ h=>h)⟩
 |agg cs vs hs h ih=>
  obtain⟨Ds,d1,d2,d3⟩:=Qc cs vs hs ih
  exact⟨.agg Ds,by simp[d1],by simp[d2],BQ.2 (B4 d3)⟩
 |A9 cs vs hs h ih=>
  obtain⟨Ds,d1,d2,d3⟩:=Qc cs vs hs ih
  exact⟨.A9 Ds,by simp[d1],by simp[d2],A4.2 (B4 d3)⟩
section
variable {H:Type} {enc:TypeId×Value->H} {P:Program}
theorem SJ {f:Func} {s:ChangeSpec} {apart fresh handsOn again:Bool} {W W':World} {args:Array Value} {v:Value} {ds gs:List (DataW H)} {before pa pv:List MemPlace}
 (hW:DataW.Whole enc P f.params.toList s.vars apart W args.toList ds gs before)
 (hres:∀(b:Nat) (sp:Nat->Bool) (hd:Bool),DataW.TrodAll enc P W' b sp hd f.resultTypes.toList (v.resultList f.resultTypes.size) (s.fn H (ds++gs)).results [])
 (hargs:∀sp:Nat->Bool,(∀p∈before,sp p.block=true)->DataW.TrodAll enc P W' 0 sp true f.params.toList args.toList (s.fn H (ds++gs)).args pa)
 (hvars:∀sp:Nat->Bool,(∀p∈before,sp p.block=true)->DataW.TrodVars enc P W' sp s.vars (s.fn H (ds++gs)).vars pv)
 (hps:before=pa++pv) (hb:Below W.heap.size W W')
 (hok:∀(j:Nat) (t:TypeId) (r:Value),f.resultTypes[j]? =some t->(v.resultList f.resultTypes.size)[j]? =some r->Value.okWide P W' .any 0 t r):
 s.post enc P f apart fresh handsOn again W args v W':=by
 have hlt:∀p∈before,p.block<W.heap.size:=λp hp=>hW.lt p hp
 have hold:∀p∈before,(λb=>decide (b<W.heap.size)) p.block=true:=λp hp=>by simpa using hlt p hp
 refine⟨ds,gs,before,[],pa,pv,hW,hres _ _ _,hargs _ hold,hvars _ hold,World.keptBut_mono (λp hp=>⟨hp,?_⟩) (hb.frame (· ∈before)),λ_=> ?_⟩
 . rw[hps,List.mem_append]at hp
   exact Or.inr hp
 . obtain⟨_,_,_,_,_,hz,hn⟩:=hW
   refine⟨hok,_,_,([]++pa)++pv,⟨[]++pa,pv,trodAll_append (hargs _ (λ_ _=>rfl)) (hres _ _ _),hvars _ (λ_ _=>rfl),rfl,?_,?_⟩,?_⟩
   . intro b off hp
     have hin:MemPlace.cell b off∈before:=by rw[hps];simpa using hp
     rw[hb.frozen (hlt _ hin)]
     exact hz b off hin
   . intro ha
     have:=hn ha
     rw[hps]at this
     simpa using this
   . intro p hp _
     rw[hps]
     simpa using hp
theorem SW (hl:laidOutB P=true) {W W':World} {sp:Nat->Bool} (ts:List TypeId):∀{vs:List Value} {ds:List (DataW H)} {ps:List MemPlace},(∀t∈ts,P.readableRec t=true/\t<P.types.size)->
 DataW.TrodAll enc P W 0 (λ_=>true) true ts vs ds ps->(∀p∈ps,W.sameAt W' p)->(∀p∈ps,sp p.block=true)->DataW.TrodAll enc P W' 0 sp true ts vs ds ps:=by
 induction ts with
 |nil=>
  intro vs ds ps _ hT _ _
  obtain⟨rfl,rfl,rfl⟩:=trodAll_nil hT
  exact rfl
 |cons t ts ih=>
  intro vs ds ps hr hT h1 h2
  obtain⟨v,vs1,d,ds1,p,q,rfl,rfl,rfl,g1,g2⟩:=trodAll_cons hT
  have ht:=hr t (by simp)
  exact⟨p,q,WideElems.Trod_stays hl ht.1 ht.2 g1 (λx hx=>h1 x (by simp[hx])) (λx hx=>h2 x (by simp[hx])),ih (λt ht=>hr t (by simp[ht])) g2 (λx hx=>h1 x (by simp[hx])) (λx hx=>h2 x (by simp[hx])),rfl⟩
theorem Tu {fn:Func} {f:Nat} {s:ChangeSpec} {tb:TypeId} {Xs:List (List AV->Prop)} {fresh handsOn again:Bool} (hv:s.vars=[]) (hrt:fn.resultTypes= #[tb]) (htb:P.underlying tb=some .bool)
 (hl:laidOutB P=true) (hrd:∀t∈fn.params.toList,P.readableRec t=true/\t<P.types.size) (hO:V4 P fn.params.toList Xs) (hS:∀avs,Z4 P fn.params.toList Xs avs->Says P f avs (sb true))
 (hspec:∀ds:List (DataW H),ds.length=fn.params.toList.length->s.fn H ds={results:=[.lit (.bool true)],args:=ds})
 {W:World} {base:Nat} {args:Array Value} {ds gs:List (DataW H)} {before:List MemPlace}
 (hval:∀(j:Nat) t v,fn.params[j]? =some t->args[j]? =some v->Value.okWide P W .any base t v) (hW:DataW.Whole enc P fn.params.toList s.vars false W args.toList ds gs before)
 (hwt:(DataW.weightsEach P (fn.params.toList++s.plain.varTypes P) (ds++gs)).all (· ≤reachBytes)=true)
 (hgi:GI W (Old W)):Calls P f args W λe W'=>∃v,e= .returned v/\s.post enc P fn false fresh handsOn again W args v W':=by
 have hW':=hW
 obtain⟨p,q,hA,hV,rfl,hfz,hnd⟩:=hW
 rw[hv]at hV
 obtain⟨rfl,rfl⟩:=trodVars_none hV
 simp only[List.append_nil]at hW' hwt
 have hlds:ds.length=fn.params.toList.length:=by
  have:∀(ts:List TypeId) {vs:List Value} {ds:List (DataW H)} {ps:List MemPlace},DataW.TrodAll enc P W 0 (λ_=>true) true ts vs ds ps->ds.length=ts.length:=by
   intro ts
   induction ts with
   |nil=>intro vs ds ps h;obtain⟨rfl,rfl,rfl⟩:=trodAll_nil h;rfl
   |cons t ts ih=>intro vs ds ps h;obtain⟨v,vs1,d,ds1,p,q,rfl,rfl,rfl,g1,g2⟩:=trodAll_cons h;simp[ih g2]
  exact this _ hA
 have hwts:∀n∈DataW.weightsEach P fn.params.toList ds,n≤reachBytes:=by
  have key:∀(ts us:List TypeId) (ds:List (DataW H)),ds.length=ts.length->DataW.weightsEach P (ts++us) ds=DataW.weightsEach P ts ds:=by
   intro ts
   induction ts with
   |nil=>
    intro us ds h
    obtain rfl:ds=[]:=List.eq_nil_of_length_eq_zero h
    cases us<;>rfl
   |cons t ts ih=>
    intro us ds h
    cases ds with
    |nil=>simp at h
    |cons d ds=>simp only[List.cons_append,DataW.weightsEach];rw[ih us ds (by simpa using h)]
  rw[key _ _ _ hlds]at hwt
  simpa using hwt
 obtain⟨avs,hX,hlen,hfzv⟩:=YL (base:=base) fn.params.toList Xs args.toList ds p hO hA (λj t v h1 h2=>hval j t v (by simpa using h1) (by simpa using h2)) hwts
 -- the call
 have hds:∃Ds:List DV,Ds.map DV.er=avs/\Ds.map DV.Al=args.toList/\HF W (Old W) Ds (λ_=>False):=by
  obtain⟨Ds,d1,d2,d3⟩:=Qc (w:=W) (S:=Old W) avs args.toList hlen.symm (λi a v h1 h2=>jB (hfzv i a v h1 h2))
  exact⟨Ds,d1,d2,B4 d3⟩
 obtain⟨Ds,d1,d2,d3⟩:=hds
 have hcalls:=hS avs hX W (Old W) Ds (λ_=>False) hgi d1 (A4.2 d3) (λb hb=>hb)
 rw[d2]at hcalls
 have harr:args.toList.toArray=args:=by simp
 rw[harr]at hcalls
 refine hcalls.mono ?_
 rintro e W' ⟨r,os,S',F',rfl,hre,_,_,hok,hext,_⟩
 obtain⟨Fa,Fb,hra,_⟩:=A4.1 hok
 have hrv:r.Al= .bool true:=by
  cases hra with
  |lf a v _ ha hF=>rw[Dj]at hre;subst hre;simpa using ha.1
  |nil=>simp at hre
  |own=>simp at hre
  |agg=>simp at hre
  |A9=>simp at hre
 have hb:Below W.heap.size W W':=⟨hext.os,hext.tape,hext.output,hext.size,λk hk=>hext.block k hk id⟩
 rw[hrv]
 refine⟨_,rfl,SJ (pa:=p) (pv:=[]) hW' ?_ ?_ ?_ (by simp) hb ?_⟩
 . intro b sp hd
   rw[List.append_nil,hspec ds hlds,hrt]
   exact trodAll_cons_mk (shut_bool htb _) trodAll_mk0
 . intro sp hsp
   rw[List.append_nil,hspec ds hlds]
   exact SW hl _ hrd hA (λx hx=>hb.same (hW'.lt x hx)) (λx hx=>hsp x hx)
 . intro sp hsp
   rw[List.append_nil,hspec ds hlds,hv]
   exact rfl
 . exact ok_one hrt rfl (okWide_bool_mk htb _)
end
end Go.Abs
