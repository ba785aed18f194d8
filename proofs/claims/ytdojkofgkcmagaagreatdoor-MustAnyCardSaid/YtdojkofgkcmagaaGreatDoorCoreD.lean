/- A calculus of abstract states of Go memory, and that it is sound. -/
import Derived.Test.YtdojkofgkcmagaaGreatDoorCoreC
import Derived.KernelRfl
import Derived.WalkKit
import Derived.ProofKit
import Derived.OpenShut
import Derived.WideKeyArgs
import Derived.SizedLaws
import Derived.DataReads
import Derived.Below
import Derived.ChangeSame
import Derived.Shelf.Slices.SearchI
set_option linter.all false
namespace Go.Abs
variable{a b:Type}{i:Int}{l:ABn}{p C:Prop}{c m:Bool}{K N M B:ja}{σ τ:Sg}{Q:Exit->Sg->Prop}{base:Nat}{L:lC}{x:AV}{ic s:cB}
section
variable{P:jg}{G:Gi}
def AAF(a b:IC):IC:=.seq a b
def BQ:Nat:=18446744073709551616
abbrev B0(s:ABn):AV:=.sc (.string s)
abbrev A9(n:Int):Int:=IntKind.i64.wrap n
abbrev w8(n:Int):Int:=IntKind.u8.wrap n
def gt(l:List a)(i:Int):ABm a:=if 0<=i then l[i.toNat]? else none
def sgt(s:ABn)(i:Int):ABm UInt8:=if 0<=i then s[i.toNat]? else none
theorem gt_bind{l:List b}{f:b->ABm a}{r:a}(h:(gt l i).bind f=some r):∃x,l[i.toNat]? =some x/\0<=i/\i<(l.length:Int)/\i.toNat<l.length/\f x=some r:=by unfold gt at h;by_cases c:0<=i;(rw[AAQ c]at h;cases hx:l[i.toNat]? with|none=>simp[hx]at h|some x=>have:=(AAN.1 hx).1;exact⟨x,rfl,c,ah,this,by simpa[hx]using h⟩);simp[c]at h
theorem sgt_bind{f:UInt8->ABm b}{r:b}(h:(sgt l i).bind f=some r):∃x,l[i.toNat]? =some x/\0<=i/\f x=some r:=by unfold sgt at h;by_cases a:0<=i;(rw[AAQ a]at h;cases hx:l[i.toNat]? with|none=>simp[hx]at h|some x=>exact⟨x,rfl,a,by simpa[hx]using h⟩);simp[a]at h
theorem gB{l:List a}{f:a->ABm b}{r:b}(h:(gt l i).bind f=some r):∃x,(l[i.toNat]? =some x/\0<=i/\i<(l.length:Int)/\i.toNat<l.length)/\f x=some r:=by obtain⟨x,g,j,c,d,e⟩:=gt_bind h;exact⟨x,⟨g,j,c,d⟩,e⟩
theorem sgB{f:UInt8->ABm a}{r:a}(h:(sgt l i).bind f=some r):∃x,(l[i.toNat]? =some x/\0<=i)/\f x=some r:=by obtain⟨x,c,b,e⟩:=sgt_bind h;exact⟨x,⟨c,b⟩,e⟩
theorem bind_some{a b:Type}{o:ABm a}{f:a->ABm b}{r:b}(h:o.bind f=some r):∃x,o=some x/\f x=some r:=by cases o with|none=>simp at h|some x=>exact⟨x,rfl,h⟩
theorem LU[Decidable p]{c:ABm a}{r:a}(h:(if p then c else none)=some r):p/\c=some r:=by by_cases b:p;rw[AAQ b]at h;exact⟨b,h⟩;rw[AAP b]at h;cases h
def bS{o:ABm a}{f:a->ABm b}{r:b}(h:o.bind f=some r):∃x,o=some x/\f x=some r:=bind_some h
def cS[Decidable p]{a:ABm b}{r:b}(h:(if p then a else none)=some r):p/\a=some r:=LU h
theorem ifT{d b r:a}(e:c=true)(h:(if c=true then d else b)=r):d=r:=by rw[AAQ e]at h;exact h
theorem ifF{d b r:a}(e:c=false)(h:(if c=true then d else b)=r):b=r:=by rw[AAP (by rw[e];decide)]at h;exact h
def Cy{r:a}(h:(none:ABm a)=some r):C:=nomatch h
theorem bool_sp(c:Bool):c=true\/c=false:=by cases c<;>simp
theorem acase2{e b:ABm a}{x:a}(h:(if(i==0)=true then e else if(i==1)=true then b else none)=some x):(i=0/\e=some x)\/(i=1/\b=some x):=by by_cases c:i=0;subst c;exact .inl ⟨rfl,by simpa using h⟩;by_cases d:i=1;subst d;exact .inr ⟨rfl,by simpa using h⟩;simp[c,d]at h
theorem condK_sp(d:c=true->K σ)(e:c=false->N σ):UY (.sc (.bool c)) K N σ:=by cases c with|true=>rw[wS];exact d rfl|false=>rw[wR];exact e rfl
theorem gK_sp(e:c=true->gK (.sc (.bool true)) m K N σ)(f:c=false->gK (.sc (.bool false)) m K N σ):gK (.sc (.bool c)) m K N σ:=by cases c with|true=>exact e rfl|false=>exact f rfl
def cI{x y z:a}(h:(if c=true then x else y)=z)(d:c=true->x=z->K σ)(f:c=false->y=z->N σ):UY (.sc (.bool c)) K N σ:=condK_sp (λe=>d e (ifT e h)) λe=>f e (ifF e h)
def gI{x y z:a}(h:(if c=true then x else y)=z)(f:c=true->x=z->gK (.sc (.bool true)) m K N σ)(g:c=false->y=z->gK (.sc (.bool false)) m K N σ):gK (.sc (.bool c)) m K N σ:=gK_sp (λe=>f e (ifT e h)) λe=>g e (ifF e h)
theorem awp_cut{a b:IC}(c:IQ P G a (Exit.Sh M Q) σ)(d:∀τ,M τ->IQ P G b Q τ):IQ P G (AAF a b) Q σ:=by unfold AAF;rw[wI];refine mE ?_ c;intro e τ h;cases e with|normal=>exact d τ h|_=>exact h
def Imp(A B:ja):Prop:=∀τ,A τ->B τ
theorem gBk{l:List a}{f:a->ABm b}{r:b}(h:(gt l i).bind f=some r)(k:∀x,((∀n,i.toNat=n->l[n]? =some x)/\(∀n,i.toNat=n->n<l.length)/\0<=i/\i<(l.length:Int))->f x=some r->C):C:=by obtain⟨x,⟨d,g,j,m⟩,c⟩:=gB h;exact k x ⟨λn e=>e▸d,λn e=>e▸m,g,j⟩ c
theorem gBe{l:List a}{f:a->ABm b}{r:b}{x:a}(h:(gt l i).bind f=some r)(g:(∀n,i.toNat=n->l[n]? =some x)/\(∀n,i.toNat=n->n<l.length)/\0<=i/\i<(l.length:Int))(k:f x=some r->C):C:=by
 have e:gt l i=some x:=by unfold gt;rw[AAQ g.2.2.1];exact g.1 _ rfl
 rw[e]at h;exact k h
theorem gBm(e:a->List AV){d:a}{l:List a}{f:a->ABm b}{r:b}(h:(gt (d::l) i).bind f=some r)(k:∀x,((∀n rows,i.toNat=n->(d::l).map e=rows->rows[n]? =some (e x))/\(∀n m,i.toNat=n->(d::l).length=m->n<m)/\0<=i/\∀m:Nat,(d::l).length=m->i<(m:Int))->f x=some r->C):C:=by obtain⟨x,⟨o,p,q,s⟩,j⟩:=gB h;exact k x ⟨λn rows c g=>by rw[<- c,<- g,AAX,o];rfl,λn m c g=>c▸g▸s,p,λm c=>c▸q⟩ j
theorem bSk{o:ABm a}{f:a->ABm b}{r:b}(h:o.bind f=some r)(k:∀x,o=some x->f x=some r->C):C:=by obtain⟨x,c,d⟩:=bS h;exact k x c d
def bSs{x:a}{f:a->ABm b}{r:b}(h:(some x).bind f=some r)(k:f x=some r->C):C:=k h
theorem cSk[Decidable p]{c:ABm a}{r:a}(h:(if p then c else none)=some r)(k:p->c=some r->C):C:=by obtain⟨c,b⟩:=cS h;exact k c b
theorem bI{x y z:a}(h:(if c=true then x else y)=z)(d:c=true->x=z->C)(b:c=false->y=z->C):C:=by cases c with|true=>exact d rfl (ifT rfl h)|false=>exact b rfl (ifF rfl h)
def cutH{a b:IC}(c:ja)(h:∀M:Sg->Prop,Imp c M->IQ P G a (Exit.Sh M Q) σ/\∀τ,c τ->IQ P G b Q τ):IQ P G (AAF a b) Q σ:=awp_cut (h c λ_ h=>h).1 (h c λ_ h=>h).2
def O9(n:Nat)(a b:IC):IC:=.seq a b
def wV(n:Nat){a b:IC}(c:ja)(h:∀M:Sg->Prop,Imp c M->IQ P G a (Exit.Sh M Q) σ/\∀τ,c τ->IQ P G b Q τ):IQ P G (O9 n a b) Q σ:=cutH c h
def zM{a:IC}(I:lC)(n:Nat)(h:I n σ)(b:∀n τ (N:ja),I n τ->(∀m,m<n->∀c,I m c->N c)->IQ P G a (Exit.Sh N Q) τ):IQ P G (.loop a) Q σ:=awp_loop I n h λn τ e=>b n τ _ e λm f c d=>⟨m,f,d⟩
def Back(n:Nat)(I:lC)(N:ja):Prop:=∀m,m<n->∀τ',I m τ'->N τ'
def impI{A:ja}(m:Imp A B)(h:A τ):B τ:=m τ h
def OK(k:Back (base+1) L N)(h:L base τ):N τ:=k base (Nat.lt_succ_self base) τ h
def Mw{a:IC}(I:lC)(h:I BQ σ)(b:∀n τ (N:ja),I n τ->Back n I N->IQ P G a (Exit.Sh N Q) τ):IQ P G (.loop a) Q σ:=zM I BQ h b
theorem gK_mono(i:∀σ,K σ->M σ)(g:∀σ,N σ->B σ)(h:gK x c K N σ):gK x c M B σ:=by unfold gK at*;split at h;split at h;rename_i d;simp only[d,AAq];exact i _ h;rename_i d;simp only[d,AAd];exact g _ h;exact g _ h;exact h.elim
theorem gM_mono{g:jk}{d:Da}{A:ja}(c:∀σ,A σ->N σ)(f:∀σ,K σ->M σ)(h:gM g d A K σ):gM g d N M σ:=by cases g with|none=>exact c _ h|some x=>obtain⟨s,e⟩:=x;exact gK_mono c (λσ i=>f _ i) h
theorem KY{K i:jA}(h:∀σ c,K σ c->i σ c):∀{l:List q9}{σ:Sg}{c:Mu},QB P G l K σ c->QB P G l i σ c|[],_,_,ht=>h _ _ ht|.x _::_,_,_,ht=>Jk (λ_ a=>KY h a) ht|.mkm _::_,_,_,ht=>λb e=>Gu (λ_ a=>KY h a) (ht b e)|.lkp g d m k::l,σ,c,ht=>by simp only[QB]at ht |-;refine gM_mono (λσ a=>?_) (λσ a=>KY h a) ht;unfold lkpK at a |-;split at a;split at a;exact⟨a.1,Gu (λ_ j=>KY h j) a.2⟩;exact a.elim;exact a.elim|.mup m k v::l,σ,c,ht=>by simp only[QB]at ht |-;unfold mupK at ht |-;split at ht;split at ht;exact⟨ht.1,KY h ht.2⟩;exact ht.elim;exact ht.elim|.rng d x::l,σ,c,ht=>by simp only[QB]at ht |-;unfold rngK at ht |-;split at ht;exactλb e=>Gu (λ_ a=>KY h a) (ht b e);exact ht.elim|.nxt d x::l,σ,c,ht=>by simp only[QB]at ht |-;unfold nxtK at ht |-;split at ht;split at ht;split at ht;rename_i f;simp only[f,AAq];exact Gu (λ_ a=>KY h a) ht;rename_i f;simp only[f,AAd];exact Gu (λ_ a=>KY h a) ht;exact ht.elim;exact ht.elim
theorem zI:∀{Q j:Exit->Sg->Mu->Prop}{σ:Sg}{g:Mu},(∀e σ g,Q e σ g->j e σ g)->Ja P G ic Q σ g->Ja P G ic j σ g:=by induction ic with|ic c=>exactλh d=>mE (λe σ k=>h e σ _ k) d|dB xs=>exactλh d=>KY (h .normal) d|seq a b SO xN=>(intro Q j σ g h d;refine SO (λe σ' l f=>?_) d;cases e with|normal=>exact xN h f|_=>exact h _ _ _ f)|cond c a b SO xN=>intro Q j σ g h d;rw[Yu]at d |-;unfold wT at d |-;split at d;split at d;rename_i k;simp only[k,AAq];exact SO h d;rename_i k;simp only[k,AAd];exact xN h d;exact d.elim|block id a SO=>(intro Q j σ g h d;refine SO (λe σ' l f=>?_) d;cases e with|exit i=>rw[Ww]at f |-;split;rename_i hi;rw[AAQ hi]at f;exact h _ _ _ f;rename_i hi;rw[AAP hi]at f;exact h _ _ _ f|_=>exact h _ _ _ f)|loop a SO=>intro Q j σ g h d;obtain⟨I,m,p⟩:=d;refine⟨I,m,λn τ q o=>SO (λe σ' l f=>?_) (p n τ q o)⟩;cases e with|normal=>exact f|_=>exact h _ _ _ f
def mO(a b:cB):cB:=.seq a b
theorem awpM_cut{Q:Exit->Sg->Mu->Prop}{M:jA}{d:Mu}(f:Ja P G ic (Exit.aR M Q) σ d)(g:∀τ c,M τ c->Ja P G s Q τ c):Ja P G (mO ic s) Q σ d:=by unfold mO;rw[mC];refine zI ?_ f;intro e τ c h;cases e with|normal=>exact g τ c h|_=>exact h
def ImpM(A B:jA):Prop:=∀τ d,A τ d->B τ d
def mP{Q:Exit->Sg->Mu->Prop}(c:jA){d:Mu}(h:∀M:Sg->Mu->Prop,ImpM c M->Ja P G ic (Exit.aR M Q) σ d/\∀τ e,c τ e->Ja P G s Q τ e):Ja P G (mO ic s) Q σ d:=awpM_cut (h c λ_ _ h=>h).1 (h c λ_ _ h=>h).2
def rQ{Q:Exit->Sg->Mu->Prop}{g:Mu}(I:nl)(n:Nat)(h:I n σ g)(b:∀n τ f (N:jA),I n τ f->(∀m,m<n->∀d c,I m d c->N d c)->Ja P G ic (Exit.aR N Q) τ f):Ja P G (.loop ic) Q σ g:=zH I n h λn τ f i=>b n τ f _ i λm j d c e=>⟨m,j,e⟩
def BackM(n:Nat)(I:nl)(N:jA):Prop:=∀m,m<n->∀τ' ν',I m τ' ν'->N τ' ν'
def loopMH{Q:Exit->Sg->Mu->Prop}{c:Mu}(I:nl)(h:I BQ σ c)(b:∀n τ d (N:jA),I n τ d->BackM n I N->Ja P G ic (Exit.aR N Q) τ d):Ja P G (.loop ic) Q σ c:=rQ I BQ h b
def tv(s:ABn):ABn×Value:=(s,.bool true)
theorem look_set(l:jq)(s:ABn):Na (l.map tv) s (.bool false)=.bool (l.any λx=>x==s):=by induction l with|nil=>rfl|cons x l ih=>unfold Na at ih |-;rw[AAf,List.find?_cons,List.any_cons];cases hx:(tv x).1==s with|true=>simp[show(x==s)=true from hx,tv]|false=>simp only[show(x==s)=false from hx,Bool.false_or];exact ih
theorem all_set(l:jq)(s:ABn):((l.map tv).all λx=>!(x.1==s))= !(l.any λx=>x==s):=by induction l with|nil=>rfl|cons x l ih=>rw[AAf,AA8,List.any_cons,ih];simp[tv]
theorem add_set(l:jq)(s:ABn):rJ (l.map tv) s (.bool true)=(l++[s]).map tv:=by simp[rJ,tv]
theorem oA(b:Bool):Gp (.bool b):=rfl
attribute [go_sem] look_set all_set add_set oA
def map_len(f:a->b)(l:List a):(l.map f).length=l.length:=AAt ..
def map_get(f:a->b)(l:List a)(i:Nat):(l.map f)[i]? =(l[i]?).map f:=AAX ..
def map_app(f:a->b)(l m:List a):l.map f++m.map f=(l++m).map f:=(AA0 ..).symm
def map_tk(f:a->b)(l:List a)(n:Nat):(l.map f).take n=(l.take n).map f:=(List.map_take ..).symm
def map_dr(f:a->b)(l:List a)(n:Nat):(l.map f).drop n=(l.drop n).map f:=(List.map_drop ..).symm
theorem dt1{l:List a}{x:a}(h:l[base]? =some x):(l.drop base).take 1=[x]:=by obtain⟨hi,rfl⟩:=AAN.1 h;rw[ABH hi];rfl
theorem sc_str(l:jq):(l.map Value.string).map AV.sc=l.map B0:=by rw[List.map_map];rfl
theorem cast22:((22:Nat):Int)=22:=rfl
attribute [go_sem] dt1 sc_str cast22 Nat.mul_one List.getElem?_set_self List.set_set List.length_set Nat.zero_le Option.isSome_none Option.isSome_some Option.isNone_none map_len map_get map_app map_tk map_dr
theorem map_same(f:a->b)(l:List a)(i:Nat)(x:a)(h:l[i]? =some x):(List.map f (l.set i x)=List.map f l)=True:=by obtain⟨hi,rfl⟩:=AAN.1 h;simp
attribute [go_sem] map_same
theorem one_nil:one []=.Bp []:=rfl
attribute [go_sem] one_nil
theorem tn1:Int.toNat 1=1:=rfl
theorem tn2:Int.toNat 2=2:=rfl
theorem tn3:Int.toNat 3=3:=rfl
attribute [go_sem] tn1 tn2 tn3 Nat.reduceAdd
theorem map_ce(e:a->List AV)(l:List a)(h:∀x,(e x).all GQ):((l.map e).all λx=>x.all GQ):=by rw[ABb];exact AAS.2 λx _=>h x
theorem map_pl(e:a->List AV)(l:List a)(h:∀x,(e x).all It):((l.map e).all λx=>x.all It):=by rw[ABb];exact AAS.2 λx _=>h x
theorem map_fr(e:a->List AV)(l:List a)(h:∀x,Qd (e x)):TQ (l.map e):=by induction l with|nil=>rfl|cons x l ih=>simp[TQ,h x,ih]
theorem plain_frz{l:ji}(h:l.all It):cO l=l:=by induction l with|nil=>rfl|cons a l ih=>simp only[AA8,AAL]at h;rw[cO,ih h.2];cases a<;>simp_all [It,KB]
theorem map_fz(e:a->List AV)(l:List a)(h:∀x,(e x).all It):Lw (l.map e)=l.map e:=by induction l with|nil=>rfl|cons x l ih=>simp[Lw,plain_frz (h x),ih]
theorem map_fm(e:a->List AV)(l:List a)(h:∀x,(e x).all It):(l.map e).map (λx=>x.map KB)=l.map e:=by rw[<- Ud];exact map_fz e l h
attribute [go_sem] implies_true map_ce map_pl map_fr map_fz map_fm
def i0(d:Nat)(op:bQ):BR:=⟨some ⟨d,[],[]⟩,op,none⟩
def i1(d r:Nat)(op:bQ):BR:=⟨some ⟨d,[],[r]⟩,op,none⟩
def j0(d:Nat)(op:bQ)(g:Nat)(b:Bool):BR:=⟨some ⟨d,[],[]⟩,op,some (g,b)⟩
def j1(d r:Nat)(op:bQ)(g:Nat)(b:Bool):BR:=⟨some ⟨d,[],[r]⟩,op,some (g,b)⟩
def iC(d s:Nat):BR:=⟨some ⟨d,[],[]⟩,.cp (.t s),none⟩
def iL(d s:Nat):BR:=⟨some ⟨d,[],[]⟩,.ld false 1 (.t s),none⟩
def Un(d r s:Nat):BR:=⟨some ⟨d,[],[r]⟩,.ld false 1 (.t s),none⟩
def iF(d o s:Nat):BR:=⟨some ⟨d,[],[]⟩,.W0 o (.t s),none⟩
def KK(d r o s:Nat):BR:=⟨some ⟨d,[],[r]⟩,.W0 o (.t s),none⟩
def iI(d k s i:Nat):BR:=⟨some ⟨d,[],[]⟩,.WL k (.t s) (.t i),none⟩
def qK(d r k s i:Nat):BR:=⟨some ⟨d,[],[r]⟩,.WL k (.t s) (.t i),none⟩
def iS(n a b:Nat):BR:=⟨none,.st n (.t a) (.t b),none⟩
def jL(d s g:Nat)(b:Bool):BR:=⟨some ⟨d,[],[]⟩,.ld false 1 (.t s),some (g,b)⟩
def jFr(d r o s g:Nat)(b:Bool):BR:=⟨some ⟨d,[],[r]⟩,.W0 o (.t s),some (g,b)⟩
def iOr(d a b:Nat):BR:=⟨some ⟨d,[],[]⟩,.pick (.t a) (.c (.sc (.bool true))) (.t b),none⟩
def iAn(d a b:Nat):BR:=⟨some ⟨d,[],[]⟩,.pick (.t a) (.t b) (.c (.sc (.bool false))),none⟩
def iU(d:Nat)(n:Int):BR:=⟨some ⟨d,[],[]⟩,.cp (.c (.sc (.int .i64 n))),none⟩
def iZ(d s:Nat):BR:=⟨some ⟨d,[],[]⟩,.len (.t s),none⟩
def iA(d k s:Nat):BR:=⟨some ⟨d,[],[]⟩,.ld true k (.t s),none⟩
def jC(d s g:Nat)(b:Bool):BR:=⟨some ⟨d,[],[]⟩,.cp (.t s),some (g,b)⟩
def jN(d s g:Nat)(b:Bool):BR:=⟨some ⟨d,[],[]⟩,.un .not (.t s),some (g,b)⟩
def jP(d:Nat)(op:BinOp)(x:Nat)(n:Int)(g:Nat)(b:Bool):BR:=⟨some ⟨d,[],[]⟩,.bin op (.t x) (.c (.sc (.int .i64 n))),some (g,b)⟩
def cX(c id:Nat):IC:=.cond (.t c) .skip (.exit id)
def iQ(d s:Nat)(n:Int):BR:=⟨some ⟨d,[],[]⟩,.bin .eql (.t s) (.c (.sc (.int .i64 n))),none⟩
def iO(d:Nat)(op:BinOp)(a b:Nat):BR:=⟨some ⟨d,[],[]⟩,.bin op (.t a) (.t b),none⟩
def iP(d:Nat)(op:BinOp)(a:Nat)(n:Int):BR:=⟨some ⟨d,[],[]⟩,.bin op (.t a) (.c (.sc (.int .i64 n))),none⟩
def iK(d:Nat)(n:Int):BR:=⟨some ⟨d,[],[]⟩,.mv (.c (.sc (.int .i64 n))),none⟩
def iB(d:Nat)(b:Bool):BR:=⟨some ⟨d,[],[]⟩,.mv (.c (.sc (.bool b))),none⟩
def bA(k:Nat)(cs:ji):AV:=.own true k [cs]
attribute [go_sem] iOr iAn iU iZ iA jC jN jP cX iQ iO iP iK iB bA i0 i1 j0 j1 iC iL Un iF KK iI qK iS jL jFr
end
variable{j:Prop}
section
variable{P:jg}{G:Gi}
def exI{a:Sort _}{p:a->Prop}(h:∃x,p x)(k:∀x,p x->C):C:=h.elim k
def anI(h:p/\j)(k:p->j->C):C:=k h.1 h.2
def CutT(n:Nat)(M0:ja):Prop:=∀(P:jg)(G:Gi)(a b:IC)(Q:Exit->Sg->Prop)(σ:Sg),(∀M:Sg->Prop,Imp M0 M->IQ P G a (Exit.Sh M Q) σ/\∀τ,M0 τ->IQ P G b Q τ)->IQ P G (O9 n a b) Q σ
def Bx(n:Nat)(a:ja):CutT n a:=λ_ _ _ _ _ _ h=>wV n a h
def iz(n:Nat)(I:Nat->Nat->Nat->Nat->Sg->Prop):=λa b c d=>Bx n (I a b c d)
def iR(n:Nat)(I:ja):=λ_ _ _ _:Nat=>Bx n I
def CutT.use(c:CutT base K){a b:IC}(h:∀M:Sg->Prop,Imp K M->IQ P G a (Exit.Sh M Q) σ/\∀τ,K τ->IQ P G b Q τ):IQ P G (O9 base a b) Q σ:=c _ _ _ _ _ _ h
def Yf(I:lC):Prop:=∀(P:jg)(G:Gi)(a:IC)(Q:Exit->Sg->Prop)(σ:Sg),I BQ σ->(∀n τ (N:ja),I n τ->Back n I N->IQ P G a (Exit.Sh N Q) τ)->IQ P G (.loop a) Q σ
def Az(I:lC):Yf I:=λ_ _ _ _ _ h r=>Mw I h r
def iy(I:Nat->Nat->Nat->Nat->Nat->Sg->Prop):=λa b c d=>Az (I a b c d)
def iJ(I:lC):=λ_ _ _ _:Nat=>Az I
def Yf.use(c:Yf L){a:IC}(h:L BQ σ)(r:∀n τ (N:ja),L n τ->Back n L N->IQ P G a (Exit.Sh N Q) τ):IQ P G (.loop a) Q σ:=c _ _ _ _ _ h r
def ac2{c b:ABm a}{x:a}(h:(if(i==0)=true then c else if(i==1)=true then b else none)=some x)(d:i=0->c=some x->C)(e:i=1->b=some x->C):C:=(acase2 h).elim (λh=>d h.1 h.2) λh=>e h.1 h.2
theorem cal{p:Prop}(q:p:=by first| ((with_reducible have g:=a1 g);exact g)| ((with_reducible have g:=a2 g);exact g)| ((with_reducible have g:=a3 g);exact g)| ((with_reducible have g:=a4 g);exact g)| ((with_reducible have g:=a5 g);exact g)| ((with_reducible have g:=a6 g);exact g)| ((with_reducible have g:=a7 g);exact g)| ((with_reducible have g:=a8 g);exact g)| ((with_reducible have g:=a9 g);exact g)| ((with_reducible have g:=a10 g);exact g)| ((with_reducible have g:=a11 g);exact g)| ((with_reducible have g:=a12 g);exact g)| ((with_reducible have g:=a13 g);exact g)| ((with_reducible have g:=a14 g);exact g)| ((with_reducible have g:=a15 g);exact g)| ((with_reducible have g:=a16 g);exact g)| ((with_reducible have g:=a17 g);exact g)| ((with_reducible have g:=a18 g);exact g)| ((with_reducible have g:=a19 g);exact g)| ((with_reducible have g:=a20 g);exact g)| ((with_reducible have g:=a21 g);exact g)| ((with_reducible have g:=a22 g);exact g)| ((with_reducible have g:=a23 g);exact g)| ((with_reducible have g:=a24 g);exact g)| ((with_reducible have g:=a25 g);exact g)| ((with_reducible have g:=a26 g);exact g)| ((with_reducible have g:=a27 g);exact g)| ((with_reducible have g:=a28 g);exact g)| ((with_reducible have g:=a29 g);exact g)| ((with_reducible have g:=a30 g);exact g)):p:=q
theorem cas{p:Prop}(q:p:=by
  first
    | (repeat with_reducible apply Exists.intro
       with_reducible refine⟨?_,h⟩)
    | (have hq:=h
       subst_vars;repeat with_reducible apply Exists.intro
       with_reducible refine⟨?_,hq⟩)
  first
    | (simp +decide only[go_sem, *]
       done)
    | ((try simp +decide only[go_sem, *])
       (repeat' with_reducible apply And.intro)<;>first
         |with_reducible rfl
         | (simp only[AA0,AAf,AAy,go_sem]
            done))):p:=q
theorem zer{p:Prop}(q:p:=by
 repeat (with_reducible first|refine exI h ?_|refine anI h ?_);clear h;intro _ h
 exact Cy h):p:=q
theorem sgBk{f:UInt8->ABm b}{r:b}(h:(sgt l i).bind f=some r)(k:∀x,((∀n,i.toNat=n->l[n]? =some x)/\0<=i)->f x=some r->C):C:=by obtain⟨x,a,h⟩:=sgB h;exact k x ⟨λn e=>e▸a.1,a.2⟩ h
theorem ac4{f b c d:ABm a}{x:a}(h:(if(i==0)=true then f else if(i==1)=true then b else if(i==2)=true then c else if(i==3)=true then d else none)=some x)(g:i=0->f=some x->C)(j:i=1->b=some x->C)(k:i=2->c=some x->C)(l:i=3->d=some x->C):C:=by split at h;rename_i e;exact g (by simpa using e) h;split at h;rename_i e;exact j (by simpa using e) h;split at h;rename_i e;exact k (by simpa using e) h;split at h;rename_i e;exact l (by simpa using e) h;cases h
theorem walk{p:Prop}(q:p:=by
  try
    unfold Run;intro C R I e1 e2 e3
    conv at e3=>lhs;cbv
    repeat
      conv at e3=>
        pattern R _ _
        rw[e2]
        cbv
    subst e3;subst e1;dsimp only
  have n1:=0;have n2:=0;have n3:=0;have n4:=0
  repeat' first
    |with_reducible exact Cy h
    | (with_reducible refine exI h ?_
       clear h;intro _ h)
    | (with_reducible refine anI h ?_
       clear h;intro _ h)
    |with_reducible refine wY.intro ?_ ?_
    |refine AAC.intro (by rfl) (by rfl) ?_
    |with_reducible refine gBm eS h λ_ _ h=>?_
    |with_reducible refine gBm eI h λ_ _ h=>?_
    |with_reducible refine gBe h bg λh=>?_
    |with_reducible refine gBk h λ_ _ h=>?_
    |with_reducible refine sgBk h λ_ _ h=>?_
    | (with_reducible refine cSk h λg h=>?_
       try simp only[AAi]at g)
    | (with_reducible refine ac4 h ?_ ?_ ?_ ?_
       all_goals
         clear h;intro e h;cases e)
    | (with_reducible refine ac2 h ?_ ?_
       all_goals
         clear h;intro e h;cases e)
    | (with_reducible refine bSs h λh=>?_
       try simp +decide only[go_sem, *]
       refine⟨_,by first|exact a1 bg|exact a2 bg|exact a3 bg|exact a4 bg|exact a5 bg|exact a6 bg|exact a7 bg|exact a8 bg|exact a9 bg|exact a10 bg|exact a11 bg|exact a12 bg|exact a13 bg|exact a14 bg|exact a15 bg|exact a16 bg|exact a17 bg|exact a18 bg|exact a19 bg|exact a20 bg|exact a21 bg|exact a22 bg|exact a23 bg|exact a24 bg|exact a25 bg|exact a26 bg|exact a27 bg|exact a28 bg|exact a29 bg|exact a30 bg,?_⟩)
    | (with_reducible refine bSk h λ_ g h=>?_
       try simp +decide only[go_sem, *]
       first
         |refine⟨_,cal,?_⟩
         | (refine yQ.intro cal rfl ?_ ?_ ?_
            . rfl
            . first|rfl|simp +decide only[go_sem, *])
         |refine LbE.intro cal (by first|rfl|simp +decide only[go_sem, *]) ?_)
    | (with_reducible cases h
       first
         | (simp +decide only[go_sem, *]
            done)
         | (simp +decide only[AA0,AAf,AAy,go_sem, *]
            done))
    |simp only[eq_self,AAq,AAd,AAU]at h
    |simp +decide only[go_sem, *]
    | (with_reducible refine impI bg ?_
       exact cas)
    | (with_reducible refine CutT.use (by first|exact c1 n1 n2 n3 n4|exact c2 n1 n2 n3 n4|exact c3 n1 n2 n3 n4|exact c4 n1 n2 n3 n4|exact c5 n1 n2 n3 n4|exact c6 n1 n2 n3 n4|exact c7 n1 n2 n3 n4|exact c8 n1 n2 n3 n4|exact c9 n1 n2 n3 n4|exact c10 n1 n2 n3 n4|exact c11 n1 n2 n3 n4|exact c12 n1 n2 n3 n4|exact c13 n1 n2 n3 n4|exact c14 n1 n2 n3 n4|exact c15 n1 n2 n3 n4|exact c16 n1 n2 n3 n4|exact c17 n1 n2 n3 n4|exact c18 n1 n2 n3 n4|exact c19 n1 n2 n3 n4|exact c20 n1 n2 n3 n4|exact c21 n1 n2 n3 n4|exact c22 n1 n2 n3 n4|exact c23 n1 n2 n3 n4|exact c24 n1 n2 n3 n4|exact c25 n1 n2 n3 n4|exact c26 n1 n2 n3 n4|exact c27 n1 n2 n3 n4|exact c28 n1 n2 n3 n4|exact c29 n1 n2 n3 n4|exact c30 n1 n2 n3 n4) λM m=>⟨?_,?_⟩
       rotate_left;clear h;intro τ h;rotate_left)
    | (with_reducible refine Yf.use (l1 n1 n2 n3 n4) ?_ ?_
       . exact cas
       clear h;rintro(_|n1) τ N h k
       . exact zer)
    | (with_reducible refine Yf.use (l2 n1 n2 n3 n4) ?_ ?_
       . exact cas
       clear h;rintro(_|n2) τ N h k
       . exact zer)
    | (with_reducible refine Yf.use (l3 n1 n2 n3 n4) ?_ ?_
       . exact cas
       clear h;rintro(_|n3) τ N h k
       . exact zer)
    | (with_reducible refine Yf.use (l4 n1 n2 n3 n4) ?_ ?_
       . exact cas
       clear h;rintro(_|n4) τ N h k
       . exact zer)
    | (with_reducible refine OK bg ?_
       first
         |exact cas
         | (repeat with_reducible apply Exists.intro
            with_reducible refine⟨?_,h⟩))
    |simp only[*,eq_self,AAq,AAd,AAU,decide_true,decide_false]at h
    | (with_reducible refine bI h ?_ ?_
       all_goals
         clear h;intro _ h)
    |intro _ _
    |unfold L1 at h
    |unfold L2 at h
    |unfold L3 at h
    |unfold L4 at h
    |unfold J1 at h
    |unfold J2 at h
    |unfold J3 at h
    |unfold J4 at h
    |unfold J5 at h
    |unfold J6 at h
    |unfold J7 at h
    |unfold J8 at h
    |unfold J9 at h
    |unfold OE at h
    |unfold P9 at h
    |unfold gN at h
    |unfold J13 at h
    |unfold J14 at h
    |unfold J15 at h
    |unfold J16 at h
    |unfold J17 at h
    |unfold J18 at h
    |unfold J19 at h
    |unfold J20 at h
    |unfold J21 at h
    |unfold J22 at h
    |unfold J23 at h
    |unfold J24 at h
    |unfold J25 at h
    |unfold J26 at h
    |unfold J27 at h
    |unfold J28 at h
    |unfold J29 at h
    |unfold J30 at h
    |rw[AU]at h
    |rw[B9]at h
    |rw[Fw]at h
    |rw[gD]at h
    |contradiction
    |with_reducible rfl):p:=q
end
section
inductive A where
 |f (o s:Nat)|F (o s:Nat)|H (r o s:Nat)|h (r o s:Nat)|m (r o s:Nat)|u (o s:Nat)|U (o s:Nat)|L (s:Nat)|l (r s:Nat)|C (s:Nat)
 |Q (s:Nat) (k:Int)|q (s:Nat) (k:Int) (d:Nat)|P (op:BinOp) (s:Nat) (k:Int)|O (op:BinOp) (a b:Nat)|M (d s:Nat)|K (d:Nat) (k:Int)|B (d:Nat) (b:Bool)
 |S (k a b:Nat)|T (a:Nat) (k:Int)|I (k s i:Nat)|J (r k s i:Nat)|A (k s:Nat)|Z (s:Nat)|V (a b:Nat)|W (a b:Nat)|N (s:Nat)|Y (k:Int)
 |p (s o:Nat)|r (s o:Nat)|D (s:Nat)|c (f:Nat) (l:List Nat) (m:Nat)|G (a:Nat) (b:Bool)|e|w (n:Nat)|o (op:bQ)|y (r:Nat) (op:bQ)|x (op:BR)|b (d:Nat) (kl:List Nat) (op:bQ)
def tN:List Nat->List Ar|[]=>[]|s::l=>.t s::tN l
def OC:ABm (Nat×Bool)->Nat->List A->List BR|_,_,[]=>[]|g,n,.f o s::l=>⟨some ⟨n,[],[s]⟩,.W0 o (.t s),g⟩::⟨some ⟨n+1,[],[]⟩,.ld false 1 (.t n),g⟩::OC g (n+2) l|g,n,.F o s::l=>⟨some ⟨n,[],[s]⟩,.W0 o (.t s),g⟩::OC g (n+1) l|g,n,.H r o s::l=>⟨some ⟨n,[],[r]⟩,.W0 o (.t s),g⟩::OC g (n+1) l|g,n,.h r o s::l=>⟨some ⟨n,[],[r]⟩,.W0 o (.t s),g⟩::⟨some ⟨n+1,[],[]⟩,.ld false 1 (.t n),g⟩::OC g (n+2) l|g,n,.m r o s::l=>⟨some ⟨n,[],[r]⟩,.W0 o (.t s),g⟩::⟨some ⟨n+1,[],[r]⟩,.ld false 1 (.t n),g⟩::OC g (n+2) l|g,n,.u o s::l=>⟨some ⟨n,[],[]⟩,.W0 o (.t s),g⟩::OC g (n+1) l|g,n,.U o s::l=>⟨some ⟨n,[],[]⟩,.W0 o (.t s),g⟩::⟨some ⟨n+1,[],[]⟩,.ld false 1 (.t n),g⟩::OC g (n+2) l|g,n,.L s::l=>⟨some ⟨n,[],[]⟩,.ld false 1 (.t s),g⟩::OC g (n+1) l|g,n,.l r s::l=>⟨some ⟨n,[],[r]⟩,.ld false 1 (.t s),g⟩::OC g (n+1) l|g,n,.C s::l=>⟨some ⟨n,[],[]⟩,.cp (.t s),g⟩::OC g (n+1) l|g,n,.Q s k::l=>⟨some ⟨n,[],[]⟩,.bin .eql (.t s) (.c (.sc (.int .i64 k))),g⟩::OC g (n+1) l|g,n,.q s k d::l=>⟨some ⟨n,[],[]⟩,.bin .eql (.t s) (.c (.sc (.int .i64 k))),g⟩::⟨some ⟨d,[],[]⟩,.mv (.t n),g⟩::OC g (n+1) l|g,n,.P op s k::l=>⟨some ⟨n,[],[]⟩,.bin op (.t s) (.c (.sc (.int .i64 k))),g⟩::OC g (n+1) l|g,n,.O op a b::l=>⟨some ⟨n,[],[]⟩,.bin op (.t a) (.t b),g⟩::OC g (n+1) l|g,n,.M d s::l=>⟨some ⟨d,[],[]⟩,.mv (.t s),g⟩::OC g n l|g,n,.K d k::l=>⟨some ⟨d,[],[]⟩,.mv (.c (.sc (.int .i64 k))),g⟩::OC g n l|g,n,.B d b::l=>⟨some ⟨d,[],[]⟩,.mv (.c (.sc (.bool b))),g⟩::OC g n l|g,n,.S k a b::l=>⟨none,.st k (.t a) (.t b),g⟩::OC g n l|g,n,.T a k::l=>⟨none,.st 1 (.t a) (.c (.sc (.int .i64 k))),g⟩::OC g n l|g,n,.I k s i::l=>⟨some ⟨n,[],[]⟩,.WL k (.t s) (.t i),g⟩::OC g (n+1) l|g,n,.J r k s i::l=>⟨some ⟨n,[],[r]⟩,.WL k (.t s) (.t i),g⟩::OC g (n+1) l|g,n,.A k s::l=>⟨some ⟨n,[],[]⟩,.ld true k (.t s),g⟩::OC g (n+1) l|g,n,.Z s::l=>⟨some ⟨n,[],[]⟩,.len (.t s),g⟩::OC g (n+1) l|g,n,.V a b::l=>⟨some ⟨n,[],[]⟩,.pick (.t a) (.c (.sc (.bool true))) (.t b),g⟩::OC g (n+1) l|g,n,.W a b::l=>⟨some ⟨n,[],[]⟩,.pick (.t a) (.t b) (.c (.sc (.bool false))),g⟩::OC g (n+1) l|g,n,.N s::l=>⟨some ⟨n,[],[]⟩,.un .not (.t s),g⟩::OC g (n+1) l|g,n,.Y k::l=>⟨some ⟨n,[],[]⟩,.cp (.c (.sc (.int .i64 k))),g⟩::OC g (n+1) l|g,n,.p s o::l=>⟨some ⟨n,[],[s]⟩,.cp (.t s),g⟩::⟨some ⟨n+1,[],[s]⟩,.I6 (.t n),g⟩::⟨some ⟨n+2,[],[s]⟩,.W0 o (.t (n+1)),g⟩::⟨some ⟨n+3,[],[]⟩,.ld false 1 (.t (n+2)),g⟩::OC g (n+4) l|g,n,.r s o::l=>⟨some ⟨n,[],[s]⟩,.cp (.t s),g⟩::⟨some ⟨n+1,[],[s]⟩,.I6 (.t n),g⟩::⟨some ⟨n+2,[],[s]⟩,.W0 o (.t (n+1)),g⟩::⟨some ⟨n+3,[],[s]⟩,.ld false 1 (.t (n+2)),g⟩::OC g (n+4) l|g,n,.D s::l=>⟨some ⟨n,[],[s]⟩,.cp (.t s),g⟩::⟨some ⟨n+1,[],[s]⟩,.I6 (.t n),g⟩::OC g (n+2) l|g,n,.c f a m::l=>⟨some ⟨n,[],[]⟩,.call f (tN a) m,g⟩::OC g (n+1) l|_,n,.G a b::l=>OC (some (a,b)) n l|_,n,.e::l=>OC none n l|g,_,.w n::l=>OC g n l|g,n,.o op::l=>⟨some ⟨n,[],[]⟩,op,g⟩::OC g (n+1) l|g,n,.y r op::l=>⟨some ⟨n,[],[r]⟩,op,g⟩::OC g (n+1) l|g,n,.x op::l=>op::OC g n l|g,n,.b d k op::l=>⟨some ⟨d,k,[]⟩,op,g⟩::OC g n l
def Ra(n:Nat)(l:List A)(b:IC):IC:=.seq (.dO (OC none n l)) b
def Rb(n:Nat)(l:List A):IC:=.seq (.dO (OC none n l)) .ret
def Rc(n:Nat)(l:List A):IC:=.dO (OC none n l)
def Cn(c:Nat)(a b:IC):IC:=.cond (.t c) a b
def Ci(c:Nat)(a:IC):IC:=.cond (.t c) a .skip
def Sq(a b:IC):IC:=.seq a b
def Bk(n:Nat)(a:IC):IC:=.block n a
def Bl(n:Nat)(a:IC):IC:=.block n (.loop a)
attribute [go_sem] tN OC Ra Rb Rc Cn Ci Sq Bk Bl
abbrev vS{d:Type}(k:Nat)(e:d->List AV)(l:List d):AV:=.sl false k (l.map e)
abbrev vO{d:Type}(k:Nat)(e:d->List AV)(l:List d):AV:=.own false k (l.map e)
attribute [go_sem] vS vO
section
variable{P:jg}{f:Nat}{fn:Func}{I:FI}{args:ji}{res:AV}{outs:ji}
theorem wO(hm:P.follows .mixedOrders)(hf:P.funcs[f]? =some fn)(h:IQ P I.g I.c (Ends I.g I.r res) (start args))(hc:Nt P fn I:=by kernel_rfl)(hn:args.length<=fn.ntmps:=by exact AAV (by kernel_rfl))(ha:args.all JV:=by rfl):Says P f args res:=Pe hm hf hc hn ha h
theorem wL(hm:P.follows .mixedOrders)(hf:P.funcs[f]? =some fn)(h:IQ P I.g I.c (Wu I.g I.r res outs) (start args))(hc:Nt P fn I:=by kernel_rfl)(hD:gV fn args.length:=by kernel_rfl)(hn:args.length<=fn.ntmps:=by exact AAV (by kernel_rfl))(ha:args.all JV:=by rfl)(hl:outs.length=args.length:=by rfl):BF P f args res outs:=pG hm hf hc hD hn ha hl h
theorem wP(hm:P.follows .mixedOrders)(hf:P.funcs[f]? =some fn)(h:IQ P I.g I.c (lT I.g I.r res outs) (start args))(hc:Nt P fn I:=by kernel_rfl)(hD:gV fn args.length:=by kernel_rfl)(hn:args.length<=fn.ntmps:=by exact AAV (by kernel_rfl))(ha:args.all JV:=by rfl)(hl:outs.length=args.length:=by rfl):BF P f args res outs:=fW hm hf hc hD hn ha hl h
end
end
variable{P:jg}{u:AV}
section
inductive Yk where
 |b|t|i (k:IntKind)|s (l q:List Nat)|l (k b:Nat) (z:List AV)|a (n k:Nat) (g:Bool)|o
structure Y where
 z:List AV
 k:Yk
def lk(d:a):List (Nat×a)->Nat->a|[],_=>d| (k,x)::l,n=>if k=n then x else lk d l n
structure Hn where
 T:List (Nat×Y)
 C:List (Nat×Nat)
 L:List (Nat×Nat×ABm Nat)
 K:List (Nat×List Nat)
 Q:List (Nat×Nat)
 Z:List (Nat×Bool×Nat×List Step)
 F:List Nat
 E:List (Nat×IC)
def Hn.y(H:Hn)(t:Nat):Y:=lk ⟨[.sc (.int .i64 0)],.o⟩ H.T t
def Hn.n(H:Hn)(t:Nat):Nat:=(H.y t).z.length
def Hn.g(H:Hn)(t:Nat):Bool:=match(H.y t).k with|.s .. =>true|.a .. =>true|_=>false
def Hn.e(H:Hn)(t:Nat):Nat:=match(H.y t).k with|.l k .. =>k|.a _ k _=>k|_=>1
def fOf:Nat->List Nat->Nat->Nat×Nat×Bool|o,0::_,0=>(o,1,false)|o,n::_,0=>(o,n,true)|o,0::l,i+1=>fOf (o+1) l i|o,n::l,i+1=>fOf (o+n) l i|o,[],_=>(o,1,false)
def Hn.f(H:Hn)(t i:Nat):Nat×Nat×Bool:=match(H.y t).k with|.s l _=>fOf 0 l i|.a _ k g=>(i*k,k,g)|_=>(0,1,false)
def Hn.zv(H:Hn)(t:Nat):AV:=if H.g t then .agg (H.y t).z else(H.y t).z.headD .un
def inA(d:Nat):List Nat->Bool|[]=>false|x::l=>match compare x d with|.lt=>inA d l|.eq=>true|.gt=>false
def rsK(d:Nat):List (Nat×List Nat)->List Nat|[]=>[]| (r,x)::l=>if inA d x then r::rsK d l else rsK d l
def Hn.rs(H:Hn)(d:Nat):List Nat:=rsK d H.K
def Hn.d(H:Hn)(d:Nat):Da:=⟨d,lk [] H.K d,H.rs d⟩
def insA(x:Nat):List Nat->List Nat|[]=>[x]|y::l=>match compare x y with|.lt=>x::y::l|.eq=>y::l|.gt=>y::insA x l
def mrg:List (Nat×List Nat)->List Nat|[]=>[]|[(_,l)]=>l| (_,l)::k=>(mrg k).foldl (λa x=>insA x a) l
def Hn.G(H:Hn):Gi:=⟨(mrg H.K).map λd=>(d,H.rs d)⟩
def cst(H:Hn)(t:Nat)(f:Bool):Value->AV|.slice none 0 0=>if f then .sl false (H.e t) []else .own false (H.e t) []|.agg _=>.agg (H.y t).z|v=>.sc v
def oa(H:Hn)(t:Nat):Operand->Ar|.tmp s=>.t s|.const v=>.c (cst H t false v)|_=>.c .un
def of(H:Hn)(t:Nat)(f:Bool):Operand->Ar|.const v=>.c (cst H t f v)|x=>oa H t x
def oas(H:Hn):List Operand->List Nat->List Ar|x::l,t::m=>oa H t x::oas H l m|_,_=>[]
def gop(H:Hn)(ty:Nat)(f:Bool):Op->bQ|.move x=>.cp (of H ty f x)|.assign x=>.mv (of H ty f x)|.pick c a b=>.pick (oa H 0 c) (oa H 0 a) (oa H 0 b)|.alloc t=>.bx (H.n t) (.c (H.zv t))|.box t x=>.bx (H.n t) (oa H t x)|.build t ps=>.UG (H.y t).z (ps.toList.map λp=>((H.f t p.1).1,(H.f t p.1).2.1,oa H 0 p.2))|.buildSlice t n ps=>(match(H.y t).k with|.l k _ z=>.Ot k (List.replicate n z) (ps.toList.map λp=>(p.1,oa H 0 p.2))|_=>.bad)|.load t a=>.ld (H.g t) (H.n t) (oa H 0 a)|.store t a v=>.st (H.n t) (oa H 0 a) (oa H t v)|.nilCheck x=>.I6 (oa H 0 x)|.binOp op t x y _=>(match(H.y t).k with|.b=>.beq (match op with|.neq=>true|_=>false) (oa H 0 x) (oa H 0 y)|.s _ q=>.pL (match op with|.neq=>true|_=>false) q (oa H t x) (oa H t y)|_=>.bin op (oa H 0 x) (oa H 0 y))|.unOp op _ x=>.un op (oa H 0 x)|.convert _ d x=>.cvt (match(H.y d).k with|.i k=>k|_=>.i64) (oa H 0 x)|.fieldAddr t x f=>.W0 (H.f t f).1 (oa H 0 x)|.field t x f=>.fld (H.f t f).2.2 (H.f t f).1 (H.f t f).2.1 (oa H 0 x)|.indexAddr t x i=>(match(H.y t).k with|.a n k _=>.aad n k (oa H 0 x) (oa H 0 i)|_=>.WL (H.e t) (oa H 0 x) (oa H 0 i))|.index t x i=>(match(H.y t).k with|.a n k g=>.idx g n k (oa H 0 x) (oa H 0 i)|_=>.pO (oa H 0 x) (oa H 0 i))|.slice t x l h m=>.slc (H.e t) true (oa H 0 x) (l.map (oa H 0)) (h.map (oa H 0)) (m.map (oa H 0))|.extract x i=>.ext (oa H 0 x) i|.makeSlice t l c=>(match(H.y t).k with|.l k b z=>.mk k b z (oa H 0 l) (oa H 0 c)|_=>.bad)|.call c=>(match c.callee,oas H c.args.toList c.argTypes.toList,c.argTypes.toList with|.builtin .len,[x],[t]=>(match(H.y t).k with|.t=>.dV x|_=>.len x)|.builtin .append,[x,y],t::_=>(match(H.y t).k with|.l k b _=>.app k b x y|_=>.bad)|.builtin .max,[x,y],_=>.mm true x y|.builtin .min,[x,y],_=>.mm false x y|.value (.func f),xs,_=>(match lk none (H.L.map λx=>(x.1,some x.2)) f with|some (i,c)=>(match xs.drop i with|x::post=>.YR f (xs.take i) x c post|_=>.bad)|none=>.call f xs (lk 0 H.C f))|_,_,_=>.bad)|_=>.bad
def gor(H:Hn)(ops:Array Oper)(o:Oper):BR:=⟨o.dst.map H.d,gop H o.type (match o.dst with|some d=>H.F.contains d|none=>false) o.op,o.guard.map λg=>(((ops[g.1]?).bind (·.dst)).getD 0,g.2)⟩
def gzw:List (Nat×Bool×Nat×List Step)->Nat->IC->IC|[],_,c=>c| (i,b,r,p)::l,n,c=>gzw l n (if i=n then .gz b r p c else c)
def rgn(H:Hn)(id:Nat)(ops:Array Oper):IC:=match lk none (H.E.map λx=>(x.1,some x.2)) id with|some c=>c|none=>gzw H.Z id (.dO (ops.toList.map (gor H ops)))
def gco(H:Hn)(C:Nat->IC->IC->IC)(R:Nat->Array Oper->IC):Nat->Code->Nat×IC|n,.region id ops _=>(n,R id ops)|n,.seq a b=>(match gco H C R (n+1) a with| (m,a')=>match gco H C R m b with| (k,b')=>(k,match lk 0 H.Q n with|0=>.seq a' b'|j=>C j a' b'))|n,.cond c a b=>(match gco H C R n a with| (m,a')=>match gco H C R m b with| (k,b')=>(k,.cond (oa H 0 c) a' b'))|n,.block id a=>(match gco H C R n a with| (m,a')=>(m,.block id a'))|n,.loop a=>(match gco H C R n a with| (m,a')=>(m,.loop a'))|n,.scope a=>(match gco H C R (n+1) a with| (m,a')=>(m,.seq .skip a'))|n,.exit id=>(n,.exit id)|n,.ret=>(n,.ret)|n,.skip=>(n,.skip)|n,.label _=>(n,.skip)|n,_=>(n,.bad)
def mkI(H:Hn)(C:Nat->IC->IC->IC)(R:Nat->Array Oper->IC)(fn:Func):FI:=⟨(gco H C R 0 (fn.body.getD .skip)).2,H.G,fn.results.toList.map λ|.tmp t=>.tmp t|.cell a t=>.cell a (H.g t) (H.n t)⟩
def arrMk(l:List a):Array.mk l=l.toArray:=(rfl)
attribute [go_sem] arrMk
def awp_cg{G:Gi}{c:IC}(h:σ=τ):IQ P G c Q σ=IQ P G c Q τ:=h▸rfl
def aops_cg{G:Gi}{l:kq}(h:σ=τ):SF P G l K σ=SF P G l K τ:=h▸rfl
def bK_cg{x y:ABm Sg}(h:x=y):bK x K=bK y K:=h▸rfl
def condK_cg(h:x=u)(g:σ=τ):UY x K N σ=UY u K N τ:=h▸g▸rfl
def gK_cg(h:x=u)(g:σ=τ):gK x c K N σ=gK u c K N τ:=h▸g▸rfl
def toDst_cg{d:jr}(h:x=u)(g:σ=τ):Cm d x K σ=Cm d u K τ:=h▸g▸rfl
def resK_cg{d:jr}{v u:ABm AV}(h:v=u)(g:σ=τ):u7 v d K σ=u7 u d K τ:=h▸g▸rfl
attribute [congr] awp_cg aops_cg bK_cg condK_cg gK_cg toDst_cg resK_cg
section
variable{P:jg}{f:Nat}{fn:Func}{args:ji}{res:AV}{outs:ji}
def Run(P:jg)(fn:Func)(H:Hn)(E:Gi->List RV->Exit->Sg->Prop)(args:ji):Prop:=∀C R I,C=O9->R=rgn H->mkI H C R fn=I->IQ P I.g I.c (E I.g I.r) (start args)
theorem kO(hm:P.follows .mixedOrders)(hf:P.funcs[f]? =some fn)(H:Hn)(h:Run P fn H (Ends · · res) args)(hc:Nt P fn (mkI H O9 (rgn H) fn):=by kernel_rfl)(hn:args.length<=fn.ntmps:=by exact AAV (by kernel_rfl))(ha:args.all JV:=by rfl):Says P f args res:=Pe hm hf hc hn ha (h _ _ _ rfl rfl rfl)
theorem kF(hm:P.follows .mixedOrders)(hf:P.funcs[f]? =some fn)(H:Hn)(h:Run P fn H (wB · · res) args)(hc:Nt P fn (mkI H O9 (rgn H) fn):=by kernel_rfl)(hn:args.length<=fn.ntmps:=by exact AAV (by kernel_rfl))(ha:args.all JV:=by rfl):Says P f args res:=o9 hm hf hc hn ha (h _ _ _ rfl rfl rfl)
theorem kL(hm:P.follows .mixedOrders)(hf:P.funcs[f]? =some fn)(H:Hn)(h:Run P fn H (Wu · · res outs) args)(hc:Nt P fn (mkI H O9 (rgn H) fn):=by kernel_rfl)(hD:gV fn args.length:=by kernel_rfl)(hn:args.length<=fn.ntmps:=by exact AAV (by kernel_rfl))(ha:args.all JV:=by rfl)(hl:outs.length=args.length:=by rfl):BF P f args res outs:=pG hm hf hc hD hn ha hl (h _ _ _ rfl rfl rfl)
theorem kP(hm:P.follows .mixedOrders)(hf:P.funcs[f]? =some fn)(H:Hn)(h:Run P fn H (lT · · res outs) args)(hc:Nt P fn (mkI H O9 (rgn H) fn):=by kernel_rfl)(hD:gV fn args.length:=by kernel_rfl)(hn:args.length<=fn.ntmps:=by exact AAV (by kernel_rfl))(ha:args.all JV:=by rfl)(hl:outs.length=args.length:=by rfl):BF P f args res outs:=fW hm hf hc hD hn ha hl (h _ _ _ rfl rfl rfl)
end
end
variable{w:jj}{z:jt}{v:jx}{t:jz}{X:List AV->Prop}{k:Nat}
section
open Go.ChangeShapes Go.WideShapes Go.ChangeAt Go.RowKit
def Old(w:jj)(b:Nat):Prop:=b<w.heap.size
def Cells(w:jj)(Eg:ji)(cs:jt):Prop:=Eg.length=cs.length/\∀(i:Nat) a v,Eg[i]? =some a->cs[i]? =some v->Fz w (Old w) a v
theorem Cells.append{e f:ji}{h:jt}(b:Cells w e z)(j:Cells w f h):Cells w (e++f) (z++h):=by refine⟨by simp[b.1,j.1],λi a v d c=>?_⟩;by_cases hi:i<e.length;rw[AAs hi]at d;rw[AAs (by rw[<- b.1];exact hi)]at c;exact b.2 i a v d c;rw[AAu ah]at d;rw[AAu (by rw[<- b.1];omega)]at c;rw[<- b.1]at c;exact j.2 _ a v d c
theorem Cells.nil(w:jj):Cells w [] []:=⟨rfl,λi a v h=>by simp at h⟩
theorem Cells.one(h:Fz w (Old w) x v):Cells w [x] [v]:=by refine⟨rfl,λi d e b c=>?_⟩;cases i with|zero=>simp at b c;subst b;subst c;exact h|succ i=>simp at b
def Light(P:jg)(t:jz)(d:DataW a):Prop:=∀n∈d.weights P t,n<=reachBytes
def JM(P:jg)(t:jz)(X:List AV->Prop):Prop:=∀(H:Type)(enc:TypeId×Value->H)(w:jj)(fuel:Nat)(cs:jt)(d:DataW H)(ps:List MemPlace),DataW.trod enc P w 0 (λ_=>true) true fuel t cs=some (d,ps)->Light P t d->∃Eg,X Eg/\Cells w Eg cs
theorem JM.mono{Y:List AV->Prop}(h:JM P t X)(b:∀a,X a->Y a):JM P t Y:=by intro H enc w fuel e d k i g;obtain⟨c,j,f⟩:=h H enc w fuel e d k i g;exact⟨c,b _ j,f⟩
theorem opens_bool(h:P.underlying t=some .bool):JM P t (λc=>∃b,c=[sb b]):=by
 intro H enc w fuel f d i a g;cases fuel with
 |zero=>simp[DataW.trod]at a
 |succ fuel=>
  unfold DataW.trod at a;rw[h]at a;split at a<;>rename_i e<;>try (cases e;done)
  exact⟨_,⟨_,rfl⟩,Cells.one (.sc _ rfl)⟩;cases a
theorem lN{k:IntKind}(h:P.underlying t=some (.int k)):JM P t (λe=>∃n,e=[.sc (.int k n)]/\(Lit.int k n).wf):=by
 intro H enc w fuel f d i a g;cases fuel with
 |zero=>simp[DataW.trod]at a
 |succ fuel=>
  unfold DataW.trod at a;rw[h]at a;split at a<;>rename_i c<;>try (cases c;done)
  cases c;split at a;rename_i b;obtain⟨rfl,b⟩:=b;exact⟨_,⟨_,rfl,b⟩,Cells.one (.sc _ rfl)⟩;cases a;cases a
theorem opens_string(h:P.underlying t=some .string):JM P t (λb=>∃s:ABn,b=[.sc (.string s)]/\s.size<=reachBytes):=by
 intro H enc w fuel f d i a e;cases fuel with
 |zero=>simp[DataW.trod]at a
 |succ fuel=>
  unfold DataW.trod at a;rw[h]at a;split at a<;>rename_i c<;>try (cases c;done)
  split at a;rename_i s g;simp only[AAM,AAa]at a;obtain⟨rfl,rfl⟩:=a;refine⟨_,⟨s,rfl,?_⟩,Cells.one (.sc _ rfl)⟩;have:=e s.data.toList.length (by simp[DataW.weights]);simpa using this;cases a;cases a
theorem US{a:Addr}(h:w.cells? 0 a base=some z):z.length=base/\∀(j:Nat) v,z[j]? =some v->w.cell? (a.add j)=some v:=by
 unfold World.cells? at h;rw[AAQ (Nat.zero_le _)]at h;have b:=mapM_some_length h;rw[List.length_range]at b;refine⟨b,λj v e=>?_⟩;have d:j<base:=by rw[<- b];exact(AAN.1 e).1
 have:=mapM_some_get h j j (by simp[d]);rw[this];exact e
theorem bC{l:List (DataW a)}{d:DataW a}(hd:d∈l)(hn:base∈d.weights P t):base∈DataW.weightsAll P t l:=by
 induction l with
 |nil=>simp at hd
 |cons x l ih=>
  rw[DataW.weightsAll,AAc];rcases AAk.1 hd with rfl|hd
  exact .inl hn;exact .inr (ih hd)
theorem wM{a:Addr}(h:w.cell? a=some v):a.spot=none/\a.block<w.heap.size:=by unfold World.cell? at h;split at h;(rename_i c e f1 f2 b;refine⟨?_,(AA7.1 b).1⟩;cases hs:a.spot with|none=>rfl|some x=>simp[hs]at h);cases h
theorem MH{e:jz}(h:P.underlying t=some (.slice e))(hk:P.cellsOf e=k)(qT:0<k)(he:JM P e X):JM P t (λz=>∃rows,z=[.sl false k rows]/\(∀row∈rows,X row/\row.length=k)/\rows.length*P.bytesOf e<=reachBytes):=by
 intro H enc w fuel cs d ps l O;cases fuel with
 |zero=>simp[DataW.trod]at l
 |succ fuel=>
  (unfold DataW.trod at l;rw[h]at l;split at l<;>rename_i R<;>try (cases R;done));exact⟨_,⟨[],rfl,ak,ak⟩,Cells.one (.nil _ _ _ _ ak)⟩
  . rename_i U a len cap;obtain rfl:e=U:=(by simpa using R);simp only[hk]at l;split at l
    . rename_i hc;cases hm:(List.range len).mapM (λi=>(w.cells? 0 (a.add (i*k)) k).bind (DataW.trod enc P w 0 (λ_=>true) true fuel e))with
      |none=>simp[hm]at l
      |some elems=>
       (rw[hm]at l;simp only[AAK,AAq,AAx,AAa]at l;obtain⟨q,_,rfl,_⟩:=l;have F:elems.length=len:=by have:=mapM_some_length hm;simpa using this);(have s:∀i,i<len->∃m x z,w.cells? 0 (a.add (i*k)) k=some m/\elems[i]? =some x/\X z/\Cells w z m:=by intro i hi;have:=mapM_some_get hm i i (by simp[hi]);cases TV:w.cells? 0 (a.add (i*k)) k with|none=>rw[TV]at this;have g:elems[i]? =some elems[i]:=AAT ah;rw[g]at this;simp at this|some m=>rw[TV]at this;have g:elems[i]? =some elems[i]:=AAT ah;rw[g,AAK]at this;obtain⟨z,hx,N⟩:=he H enc w fuel m elems[i].1 elems[i].2 this (λn hn=>O n (by rw[DataW.weights,h];simp only[AAk,AAc];exact .inr (.inl (bC (ABS (AAW ah)) hn))));exact⟨m,_,z,rfl,g,hx,N⟩);(have hw:∃f:Nat->List AV×List Value,∀i,i<len->w.cells? 0 (a.add (i*k)) k=some (f i).2/\X (f i).1/\Cells w (f i).1 (f i).2:=by refine⟨λi=>if hi:i<len then((s i hi).choose_spec.choose_spec.choose,(s i hi).choose)else([],[]),λi hi=>?_⟩;have:=(s i hi).choose_spec.choose_spec.choose_spec;simp only[hi,dif_pos];exact⟨this.1,this.2.2⟩);obtain⟨f,D⟩:=hw;let rows:=(List.range len).map λi=>(f i).1;have I:rows.length=len:=(by simp[rows]);have J:∀i row,rows[i]? =some row->i<len/\row=(f i).1:=(by intro i row u;have hi:i<len:=(by rw[<- I];exact(AAN.1 u).1);refine⟨hi,?_⟩;simp only[rows,AAX,List.getElem?_range hi,AAv,AAM]at u;exact u.symm);have y:∀i,i<len->(f i).1.length=k:=λi hi=>(by rw[(D i hi).2.2.1];exact(US (D i hi).1).1);refine⟨_,⟨rows,rfl,?_,?_⟩,Cells.one ?_⟩;intro row u;obtain⟨i,hi⟩:=List.mem_iff_getElem?.1 u;obtain⟨g,rfl⟩:=J i row hi;exact⟨(D i g).2.1,y i g⟩;have:=O ((elems.map (·.1)).length+(q.map (·.1)).length) |> λ_=>O (((elems.map (·.1)).length+(q.map (·.1)).length)*P.bytesOf e) (by rw[DataW.weights,h];simp);rw[I];refine ABF (ABC _ ?_) this;simp[F]
       . by_cases W:len=0;subst W;have o:rows=[]:=List.eq_nil_of_length_eq_zero I;rw[o];exact .nil _ _ _ _ ak
         . (have K:∀i j row c,rows[i]? =some row->row[j]? =some c->∃v,(f i).2[j]? =some v/\w.cell? ((a.add (i*k)).add j)=some v/\Fz w (Old w) c v:=(by intro i j row c g B;obtain⟨r,rfl⟩:=J i row g;have hj:j<(f i).2.length:=(by rw[<- (D i r).2.2.1];exact(AAN.1 B).1);have C:(f i).2[j]? =some (f i).2[j]:=AAT hj;exact⟨_,C,(US (D i r).1).2 j _ C,(D i r).2.2.2 j c _ B C⟩);obtain⟨E,o⟩:∃E,rows[0]? =some E:=⟨rows[0]' ah,AAT _⟩;obtain⟨_,V⟩:=J 0 E o;obtain⟨L,M⟩:∃L,E[0]? =some L:=⟨E[0]'(by rw[V,y 0 (by omega)];exact qT),AAT _⟩;obtain⟨v0,_,Q,_⟩:=K 0 0 E L o M;obtain⟨p,Uj⟩:=wM Q;obtain⟨b,off,T⟩:=a;obtain rfl:T=none:=by unfold Addr.add at p;simp only[AAq]at p;split at p;exact p;cases T<;>simp_all);rw[Addr.add_lit,Addr.add_lit]at Uj;have G:=Fz.sl (w:=w) (S:=Old w) false k rows b off cap (λi j=>((f i).2[j]?).getD undef) ak (by rw[I];exact hc.2.1) Uj (by
            intro row u;obtain⟨i,hi⟩:=List.mem_iff_getElem?.1 u;obtain⟨g,rfl⟩:=J i row hi;exact y i g) (by
            intro i j row c g B;obtain⟨v,r,C,_⟩:=K i j row c g B;rw[r];rw[Addr.add_lit,Addr.add_lit]at C;rw[show off+(i*k+j)=off+i*k+j from by omega];exact C) (by
            intro i j row c g B;obtain⟨v,r,_,Z⟩:=K i j row c g B;rw[r];exact Z)
           rw[I]at G;exact G
    . cases l
  . cases l
end
section
open Go.ChangeShapes Go.WideShapes Go.ChangeAt Go.RowKit
def CatX:List (List AV->Prop)->List AV->Prop|[],Eg=>Eg=[]|X::Xs,Eg=>∃a r,Eg=a++r/\X a/\CatX Xs r
def rB(P:jg):List Field->Nat->List (List AV->Prop)->Prop|[],_,[]=>True|f::fs,off,X::Xs=>f.offset=off/\JM P f.type X/\rB P fs (off+P.cellsOf f.type) Xs|_,_,_=>False
def ON(P:jg):List Field->Nat->Nat|[],off=>off|f::fs,off=>ON P fs (off+P.cellsOf f.type)
theorem jI{enc:TypeId×Value->a}(b:List Field):∀(off:Nat)(Xs:my)(k:List (DataW a×List MemPlace)),rB P b off Xs->ON P b off<=z.length->b.mapM (λf=>DataW.trod enc P w 0 (λ_=>true) true base f.type ((z.drop f.offset).take (P.cellsOf f.type)))=some k->(∀n∈DataW.weightsEach P (b.map (·.type)) (k.map (·.1)),n<=reachBytes)->∃p,CatX Xs p/\Cells w p ((z.drop off).take (ON P b off-off)):=by induction b with|nil=>(intro off Xs k d i h j;cases Xs with|nil=>exact⟨[],rfl,by simp[ON,Cells.nil]⟩|cons=>exact d.elim)|cons f b ih=>intro off Xs k d i h j;cases Xs with|nil=>exact d.elim|cons X Xs=>obtain⟨u,s,d⟩:=d;rw[List.mapM_cons]at h;cases h1:DataW.trod enc P w 0 (λ_=>true) true base f.type ((z.drop f.offset).take (P.cellsOf f.type))with|none=>simp[h1]at h|some x=>cases h2:b.mapM (λf=>DataW.trod enc P w 0 (λ_=>true) true base f.type ((z.drop f.offset).take (P.cellsOf f.type)))with|none=>simp[h1,h2]at h|some ys=>(simp only[h1,h2,Option.pure_def,Option.bind_eq_bind,AAK,AAM]at h;subst h;simp only[AAf,DataW.weightsEach,AAc]at j;obtain⟨H,t,q⟩:=s a enc w base _ x.1 x.2 h1 (λn hn=>j n (.inl hn));obtain⟨r,v,m⟩:=ih (off+P.cellsOf f.type) Xs ys d (by simpa[ON]using i) h2 (λn hn=>j n (.inr hn));refine⟨H++r,⟨H,r,rfl,t,v⟩,?_⟩;have y:∀(l:List Field)(o:Nat),o<=ON P l o:=by intro l;induction l with|nil=>intro o;exact AAl _|cons g l ih=>intro o;have:=ih (o+P.cellsOf g.type);simp only[ON];omega);have c:=y b (off+P.cellsOf f.type);have e:(z.drop off).take (ON P (f::b) off-off)=(z.drop f.offset).take (P.cellsOf f.type)++(z.drop (off+P.cellsOf f.type)).take (ON P b (off+P.cellsOf f.type)-(off+P.cellsOf f.type)):=(by rw[u,<- List.drop_drop];simp only[ON];rw[show ON P b (off+P.cellsOf f.type)-off=P.cellsOf f.type+(ON P b (off+P.cellsOf f.type)-(off+P.cellsOf f.type))from by omega,List.take_add]);rw[e];exact q.append m
theorem Lo{b:Array Field}{Xs:my}(h:P.underlying t=some (.struct b))(k:rB P b.toList 0 Xs)(g:ON P b.toList 0=P.cellsOf t):JM P t (CatX Xs):=by intro H enc w fuel j d o a m;cases fuel with|zero=>simp[DataW.trod]at a|succ fuel=>simp only[DataW.trod,h]at a;split at a;(rename_i e;cases hm:b.toList.mapM (λf=>DataW.trod enc P w 0 (λ_=>true) true fuel f.type ((j.drop f.offset).take (P.cellsOf f.type)))with|none=>simp[hm]at a|some xs=>simp only[hm,AAv,AAM,AAa]at a;obtain⟨rfl,rfl⟩:=a;obtain⟨i,l,c⟩:=jI b.toList 0 Xs xs k (by rw[g,e];exact AAl _) hm (λn hn=>m n (by rw[DataW.weights,h];exact hn));refine⟨i,l,?_⟩;rw[g,<- e]at c;simpa using c);cases a
def gR(P:jg)(t:jz)(Eg:ji):AV:=if(match P.underlying t with|some (.struct _)=>true|some (.array _ _)=>true|_=>false)=true then .agg Eg else Eg.headD .dead
def ArgsX(P:jg):List TypeId->List (List AV->Prop)->List AV->Prop|[],[],as'=>as'=[]|t::ts,X::Xs,as'=>∃Eg r,as'=gR P t Eg::r/\X Eg/\ArgsX P ts Xs r|_,_,_=>False
def rA(P:jg):List TypeId->List (List AV->Prop)->Prop|[],[]=>True|t::ts,X::Xs=>JM P t X/\rA P ts Xs|_,_=>False
theorem yZ{enc:TypeId×Value->a}(k:List TypeId):∀(Xs:my)(vs:jt)(ds:List (DataW a)) (I:List MemPlace),rA P k Xs->DataW.TrodAll enc P w 0 (λ_=>true) true k vs ds I->(∀(j:Nat) t v,k[j]? =some t->vs[j]? =some v->Value.okWide P w .any base t v)->(∀n∈DataW.weightsEach P k ds,n<=reachBytes)->∃f:List AV,ArgsX P k Xs f/\f.length=vs.length/\∀(i:Nat) H v,f[i]? =some H->vs[i]? =some v->Fz w (Old w) H v:=by induction k with|nil=>(intro Xs vs ds I l D s B;obtain⟨rfl,rfl,rfl⟩:=trodAll_nil D;cases Xs with|nil=>exact⟨[],rfl,rfl,λi H v h=>by simp at h⟩|cons=>exact l.elim)|cons t k ih=>intro Xs vs ds I l D s B;cases Xs with|nil=>exact l.elim|cons X Xs=>obtain⟨U,l⟩:=l;obtain⟨v,J,d,C,p,q,rfl,rfl,rfl,⟨fuel,O⟩,Q⟩:=trodAll_cons D;simp only[DataW.weightsEach,AAc]at B;obtain⟨x,V,o⟩:=U a enc w fuel _ d p O (λn hn=>B n (.inl hn));obtain⟨r,E,F,G⟩:=ih Xs J C q l Q (λj W Z M K=>s (j+1) W Z (by simpa using M) (by simpa using K)) (λn hn=>B n (.inr hn));have c:=s 0 t v rfl rfl;refine⟨gR P t x::r,⟨x,r,rfl,V,E⟩,by simp[F],?_⟩;intro i H u m z;cases i with|succ i=>simp at m z;exact G i H u m z|zero=>simp only[AA9,AAM]at m z;subst m;subst z;unfold gR;by_cases b:(match P.underlying t with|some (.struct _)=>true|some (.array _ _)=>true|_=>false)=true;(rw[AAQ b];obtain⟨y,rfl⟩:∃y,v=.agg y:=by unfold Value.okWide at c;split at c;exact⟨_,c.choose_spec.1⟩;exact⟨_,c.choose_spec.1⟩;rename_i R T;exfalso;split at b;rename_i N g;exact R N g;rename_i n e g;exact T n e g;cases b);have:=Fz.agg (w:=w) (S:=Old w) x y.toList (by rw[o.1];rfl) (λi H v m s=>o.2 i H v m s);simpa using this;(. (rw[AAP b];have L:v.cells.toList=[v]:=by unfold Value.okWide at c;split at c;rename_i g;simp[g]at b;rename_i g;simp[g]at b;(. cases v with|agg y=>(exfalso;unfold Cell.okWide at c;split at c<;>rename_i K<;>try (cases K;done));simp[Cell.ok]at c|_=>rfl));rw[L]at o;obtain⟨H,rfl⟩:∃H,x=[H]:=List.length_eq_one_iff.1 o.1;exact o.2 0 H v rfl rfl)
end
variable{J:i5}{F:ChangeSpec}{W:jj}{o pa pv:List MemPlace}{O:j4}{tb:jz}
section
open Go.ChangeShapes Go.WideShapes Go.ChangeAt Go.RowKit
theorem ZB{S:i5}(c:ji):∀(vs:jt),vs.length=c.length->(∀(i:Nat) a v,c[i]? =some a->vs[i]? =some v->∃D:DV,D.er=a/\D.BD=v/\Ok w S D (λ_=>False))->∃b:List DV,b.map DV.er=c/\b.map DV.BD=vs/\∀D∈b,Ok w S D (λ_=>False):=by induction c with|nil=>(intro vs h _;cases vs with|nil=>exact⟨[],rfl,rfl,ak⟩|cons=>simp at h)|cons a c ih=>intro vs h e;cases vs with|nil=>simp at h|cons v vs=>(obtain⟨b,f,g,j⟩:=ih vs (by simpa using h) (λi a v n o=>e (i+1) a v (by simpa using n) (by simpa using o));obtain⟨D,k,l,m⟩:=e 0 a v rfl rfl;refine⟨D::b,by simp[f,k],by simp[g,l],?_⟩;intro X d;rcases AAk.1 d with rfl|d);exact m;exact j X d
theorem fz_tree(h:Fz w J x v):∃D:DV,D.er=x/\D.BD=v/\Ok w J D (λ_=>False):=by induction h with|sc v hp=>exact⟨.lf (.sc v) v,ak,ak,.lf _ _ _ ⟨rfl,hp⟩ (λ_ h=>h)⟩|dead v=>exact⟨.lf .dead v,ak,ak,.lf _ _ _ trivial (λ_ h=>h)⟩|nil a k x c hx=>exact⟨.lf (.sl a k []) (.slice x 0 c),ak,ak,.lf _ _ _ (Fz.nil a k x c hx) (λ_ h=>h)⟩|sl a k rows b off c vs hx Qj hS hk hc hr ih=>exact⟨.lf (.sl a k rows) (.slice (some ⟨b,off,none⟩) rows.length c),ak,ak,.lf _ _ _ (Fz.sl a k rows b off c vs hx Qj hS hk hc hr) (λ_ h=>h)⟩|agg cs vs hs h ih=>obtain⟨d,e,f,g⟩:=ZB cs vs hs ih;exact⟨.agg d,by simp[e],by simp[f],CQ.2 (Co g)⟩|Bp cs vs hs h ih=>obtain⟨d,e,f,g⟩:=ZB cs vs hs ih;exact⟨.Bp d,by simp[e],by simp[f],Bj.2 (Co g)⟩
section
variable{H:Type}{enc:TypeId×Value->H}{P:jg}
theorem dC{f:Func}{apart fresh h:Bool}{args:j8}{ds l:List (DataW H)}(m:DataW.Whole enc P f.params.toList F.vars apart W args.toList ds l o)(q:∀(b:Nat)(i:j4)(hd:Bool),DataW.TrodAll enc P w b i hd f.resultTypes.toList (v.resultList f.resultTypes.size) (F.fn H (ds++l)).results [])(a:∀i:Nat->Bool,(∀p∈o,i p.block)->DataW.TrodAll enc P w 0 i true f.params.toList args.toList (F.fn H (ds++l)).args pa)(e:∀i:Nat->Bool,(∀p∈o,i p.block)->DataW.TrodVars enc P w i F.vars (F.fn H (ds++l)).vars pv)(g:o=pa++pv)(k:Below W.heap.size W w)(x:∀(j:Nat)(t:jz)(r:jx),f.resultTypes[j]? =some t->(v.resultList f.resultTypes.size)[j]? =some r->Value.okWide P w .any 0 t r):F.post enc P f apart fresh c h W args v w:=by
 have n:∀p∈o,p.block<W.heap.size:=λp d=>m.lt p d;have hold:∀p∈o,(λb=>decide (b<W.heap.size)) p.block:=λp d=>by simpa using n p d
 refine⟨ds,l,o,[],pa,pv,m,q _ _ _,a _ hold,e _ hold,World.keptBut_mono (λp d=>⟨d,?_⟩) (k.frame (· ∈o)),λ_=>?_⟩;rw[g,AAc]at d;exact Or.inr d;obtain⟨_,_,_,_,_,z,hn⟩:=m;refine⟨x,_,_,([]++pa)++pv,⟨[]++pa,pv,trodAll_append (a _ (λ_ _=>rfl)) (q _ _ _),e _ (λ_ _=>rfl),rfl,?_,?_⟩,?_⟩;intro b off d;have u:MemPlace.cell b off∈o:=(by rw[g];simpa using d);rw[k.frozen (n _ u)];exact z b off u;intro y;have:=hn y;rw[g]at this;simpa using this;intro p d _;rw[g];simpa using d
theorem dX(n:laidOutB P)(c:List TypeId):∀{vs:jt}{ds:List (DataW H)} {b:List MemPlace},(∀t∈c,P.readableRec t/\t<P.types.size)->DataW.TrodAll enc P W 0 (λ_=>true) true c vs ds b->(∀p∈b,W.sameAt w p)->(∀p∈b,O p.block)->DataW.TrodAll enc P w 0 O true c vs ds b:=by induction c with|nil=>intro vs ds b _ f _ _;obtain⟨rfl,rfl,rfl⟩:=trodAll_nil f;exact rfl|cons t c ih=>intro vs ds b j f h i;obtain⟨v,o,d,l,p,q,rfl,rfl,rfl,m,g2⟩:=trodAll_cons f;have e:=j t ak;exact⟨p,q,WideElems.Trod_stays n e.1 e.2 m (λx a=>h x (by simp[a])) (λx a=>i x (by simp[a])),ih (λt e=>j t (by simp[e])) g2 (λx a=>h x (by simp[a])) (λx a=>i x (by simp[a])),rfl⟩
theorem iX{g:Func}{Xs:my}{fresh:Bool}(hv:F.vars=[])(Xf:g.resultTypes= #[tb])(G:P.underlying tb=some .bool)(hl:laidOutB P)(QA:∀t∈g.params.toList,P.readableRec t/\t<P.types.size)(hO:rA P g.params.toList Xs)(hS:∀B,ArgsX P g.params.toList Xs B->Says P k B (sb true))(N:∀ds:List (DataW H),ds.length=g.params.toList.length->F.fn H ds={results:=[.lit (.bool true)],args:=ds}){args:j8}{ds gs:List (DataW H)}(CB:∀(j:Nat) t v,g.params[j]? =some t->args[j]? =some v->Value.okWide P W .any base t v)(hW:DataW.Whole enc P g.params.toList F.vars false W args.toList ds gs o)(qU:(DataW.weightsEach P (g.params.toList++F.plain.varTypes P) (ds++gs)).all (· <=reachBytes))(Nv:GI W (Old W)):Calls P k args W λe O=>∃v,e=.returned v/\F.post enc P g false fresh m c W args v O:=by
 have z:=hW;obtain⟨p,q,X,hV,rfl,OD,hnd⟩:=hW;rw[hv]at hV;obtain⟨rfl,rfl⟩:=trodVars_none hV;simp only[ABU]at z qU;have y:ds.length=g.params.toList.length:=by
  have:∀(l:List TypeId){vs:jt}{ds:List (DataW H)} {ps:List MemPlace},DataW.TrodAll enc P W 0 (λ_=>true) true l vs ds ps->ds.length=l.length:=by intro l;induction l with|nil=>intro vs ds ps h;obtain⟨rfl,rfl,rfl⟩:=trodAll_nil h;rfl|cons t l ih=>intro vs ds ps h;obtain⟨v,vs1,d,ds1,p,q,rfl,rfl,rfl,g1,g2⟩:=trodAll_cons h;simp[ih g2]
  exact this _ X
 have I:∀n∈DataW.weightsEach P g.params.toList ds,n<=reachBytes:=by
  have key:∀(l J:List TypeId)(ds:List (DataW H)),ds.length=l.length->DataW.weightsEach P (l++J) ds=DataW.weightsEach P l ds:=by intro l;induction l with|nil=>intro J ds h;obtain rfl:ds=[]:=List.eq_nil_of_length_eq_zero h;cases J<;>rfl|cons t l ih=>intro J ds h;cases ds with|nil=>simp at h|cons d ds=>simp only[AA3,DataW.weightsEach];rw[ih J ds (by simpa using h)]
  rw[key _ _ _ y]at qU;simpa using qU
 obtain⟨B,hX,E,D⟩:=yZ (base:=base) g.params.toList Xs args.toList ds p hO X (λj t v U V=>CB j t v (by simpa using U) (by simpa using V)) I;have Ko:∃u:List DV,u.map DV.er=B/\u.map DV.BD=args.toList/\KP W (Old W) u (λ_=>False):=by obtain⟨u,Q,R,T⟩:=ZB (w:=W) (S:=Old W) B args.toList E.symm (λi a v U V=>fz_tree (D i a v U V));exact⟨u,Q,R,Co T⟩
 obtain⟨u,Q,R,T⟩:=Ko;have M:=hS B hX W (Old W) u (λ_=>False) Nv Q (Bj.2 T) (λb L=>L);rw[R]at M;have SK:args.toList.toArray=args:=ak;rw[SK]at M;refine M.mono ?_;rintro e O ⟨r,os,S',F',rfl,K,_,_,Ct,C,_⟩;obtain⟨Fa,Fb,iV,_⟩:=Bj.1 Ct;have Z:r.BD=.bool true:=by cases iV with|lf a v _ ha hF=>rw[Eu]at K;subst K;simpa using ha.1|nil|own=>simp at K|agg|Bp=>simp at K
 have L:Below W.heap.size W O:=⟨C.os,C.tape,C.output,C.size,λf hk=>C.block f hk id⟩;rw[Z];refine⟨_,rfl,dC (pa:=p) (pv:=[]) z ?_ ?_ ?_ ak L ?_⟩;intro b sp hd;rw[ABU,N ds y,Xf];exact trodAll_cons_mk (shut_bool G _) trodAll_mk0;intro sp s;rw[ABU,N ds y];exact dX hl _ QA X (λx hx=>L.same (z.lt x hx)) (λx hx=>s x hx);intro sp s;rw[ABU,N ds y,hv];exact rfl;exact ok_one Xf rfl (okWide_bool_mk G _)
end
end
end Go.Abs
