/- A calculus of abstract states of Go memory, and that it is sound. -/
import Derived.Test.YtdojkofgkcmagaaGreatDoorCoreC
import Derived.KernelRfl
import Derived.WalkKit
import Derived.ProofKit
import Derived.OpenShut
import Derived.WideKeyArgs
import Derived.SizedLaws
import Derived.DataReads
import Derived.Below
import Derived.ChangeSame
import Derived.Shelf.Slices.SearchI
set_option linter.all false
namespace Go.Abs
variable{a b:Type}{i:Int}{l:ABj}{p C:Prop}{c m:Bool}{K N M B:jd}{σ τ:Sg}{Q:Exit->Sg->Prop}{base:Nat}{L:mh}{x:AV}{ic s:eN}
section
variable{P:jh}{G:Gi}
def cutS(a b:IC):IC:=.seq a b
def BQ:Nat:=18446744073709551616
abbrev B4(s:ABj):AV:=.sc (.string s)
abbrev A8(n:Int):Int:=IntKind.i64.wrap n
abbrev w8(n:Int):Int:=IntKind.u8.wrap n
def gt(l:List a)(i:Int):ABi a:=if 0<=i then l[i.toNat]? else none
def sgt(s:ABj)(i:Int):ABi UInt8:=if 0<=i then s[i.toNat]? else none
theorem gt_bind{l:List b}{f:b->ABi a}{r:a}(h:(gt l i).bind f=some r):∃x,l[i.toNat]? =some x/\0<=i/\i<(l.length:Int)/\i.toNat<l.length/\f x=some r:=by unfold gt at h;by_cases c:0<=i;(rw[AAM c]at h;cases hx:l[i.toNat]? with|none=>simp[hx]at h|some x=>have:=(AAJ.1 hx).1;exact⟨x,rfl,c,ah,this,by simpa[hx]using h⟩);simp[c]at h
theorem sgt_bind{f:UInt8->ABi b}{r:b}(h:(sgt l i).bind f=some r):∃x,l[i.toNat]? =some x/\0<=i/\f x=some r:=by unfold sgt at h;by_cases a:0<=i;(rw[AAM a]at h;cases hx:l[i.toNat]? with|none=>simp[hx]at h|some x=>exact⟨x,rfl,a,by simpa[hx]using h⟩);simp[a]at h
theorem gB{l:List a}{f:a->ABi b}{r:b}(h:(gt l i).bind f=some r):∃x,(l[i.toNat]? =some x/\0<=i/\i<(l.length:Int)/\i.toNat<l.length)/\f x=some r:=by obtain⟨x,g,j,c,d,e⟩:=gt_bind h;exact⟨x,⟨g,j,c,d⟩,e⟩
theorem sgB{f:UInt8->ABi a}{r:a}(h:(sgt l i).bind f=some r):∃x,(l[i.toNat]? =some x/\0<=i)/\f x=some r:=by obtain⟨x,c,b,e⟩:=sgt_bind h;exact⟨x,⟨c,b⟩,e⟩
theorem bind_some{a b:Type}{o:ABi a}{f:a->ABi b}{r:b}(h:o.bind f=some r):∃x,o=some x/\f x=some r:=by cases o with|none=>simp at h|some x=>exact⟨x,rfl,h⟩
theorem Lx[Decidable p]{c:ABi a}{r:a}(h:(if p then c else none)=some r):p/\c=some r:=by by_cases b:p;rw[AAM b]at h;exact⟨b,h⟩;rw[AAL b]at h;cases h
def bS{o:ABi a}{f:a->ABi b}{r:b}(h:o.bind f=some r):∃x,o=some x/\f x=some r:=bind_some h
def cS[Decidable p]{a:ABi b}{r:b}(h:(if p then a else none)=some r):p/\a=some r:=Lx h
theorem ifT{d b r:a}(e:c)(h:(if c=true then d else b)=r):d=r:=by rw[AAM e]at h;exact h
theorem ifF{d b r:a}(e:c=false)(h:(if c=true then d else b)=r):b=r:=by rw[AAL (by rw[e];decide)]at h;exact h
def DT{r:a}(h:(none:ABi a)=some r):C:=nomatch h
theorem bool_sp(c:Bool):c=true\/c=false:=by cases c<;>simp
theorem acase2{e b:ABi a}{x:a}(h:(if(i==0)=true then e else if(i==1)=true then b else none)=some x):(i=0/\e=some x)\/(i=1/\b=some x):=by by_cases c:i=0;subst c;exact .inl ⟨rfl,by simpa using h⟩;by_cases d:i=1;subst d;exact .inr ⟨rfl,by simpa using h⟩;simp[c,d]at h
theorem condK_sp(d:c->K σ)(e:c=false->N σ):Ut (.sc (.bool c)) K N σ:=by cases c with|true=>rw[zU];exact d rfl|false=>rw[zT];exact e rfl
theorem gK_sp(e:c->gK (.sc (.bool true)) m K N σ)(f:c=false->gK (.sc (.bool false)) m K N σ):gK (.sc (.bool c)) m K N σ:=by cases c with|true=>exact e rfl|false=>exact f rfl
def cI{x y z:a}(h:(if c=true then x else y)=z)(d:c->x=z->K σ)(f:c=false->y=z->N σ):Ut (.sc (.bool c)) K N σ:=condK_sp (λe=>d e (ifT e h)) λe=>f e (ifF e h)
def gI{x y z:a}(h:(if c=true then x else y)=z)(f:c->x=z->gK (.sc (.bool true)) m K N σ)(g:c=false->y=z->gK (.sc (.bool false)) m K N σ):gK (.sc (.bool c)) m K N σ:=gK_sp (λe=>f e (ifT e h)) λe=>g e (ifF e h)
theorem awp_cut{a b:IC}(c:It P G a (Exit.TF M Q) σ)(d:∀τ,M τ->It P G b Q τ):It P G (cutS a b) Q σ:=by unfold cutS;rw[zN];refine pV ?_ c;intro e τ h;cases e with|normal=>exact d τ h|_=>exact h
def Imp(A B:jd):Prop:=∀τ,A τ->B τ
theorem gBk{l:List a}{f:a->ABi b}{r:b}(h:(gt l i).bind f=some r)(k:∀x,((∀n,i.toNat=n->l[n]? =some x)/\(∀n,i.toNat=n->n<l.length)/\0<=i/\i<(l.length:Int))->f x=some r->C):C:=by obtain⟨x,⟨d,g,j,m⟩,c⟩:=gB h;exact k x ⟨λn e=>e▸d,λn e=>e▸m,g,j⟩ c
theorem gBe{l:List a}{f:a->ABi b}{r:b}{x:a}(h:(gt l i).bind f=some r)(g:(∀n,i.toNat=n->l[n]? =some x)/\(∀n,i.toNat=n->n<l.length)/\0<=i/\i<(l.length:Int))(k:f x=some r->C):C:=by
 have e:gt l i=some x:=by unfold gt;rw[AAM g.2.2.1];exact g.1 _ rfl
 rw[e]at h;exact k h
theorem gBm(e:a->List AV){d:a}{l:List a}{f:a->ABi b}{r:b}(h:(gt (d::l) i).bind f=some r)(k:∀x,((∀n rows,i.toNat=n->(d::l).map e=rows->rows[n]? =some (e x))/\(∀n m,i.toNat=n->(d::l).length=m->n<m)/\0<=i/\∀m:Nat,(d::l).length=m->i<(m:Int))->f x=some r->C):C:=by obtain⟨x,⟨o,p,q,s⟩,j⟩:=gB h;exact k x ⟨λn rows c g=>by rw[<- c,<- g,AAU,o];rfl,λn m c g=>c▸g▸s,p,λm c=>c▸q⟩ j
theorem bSk{o:ABi a}{f:a->ABi b}{r:b}(h:o.bind f=some r)(k:∀x,o=some x->f x=some r->C):C:=by obtain⟨x,c,d⟩:=bS h;exact k x c d
def bSs{x:a}{f:a->ABi b}{r:b}(h:(some x).bind f=some r)(k:f x=some r->C):C:=k h
theorem cSk[Decidable p]{c:ABi a}{r:a}(h:(if p then c else none)=some r)(k:p->c=some r->C):C:=by obtain⟨c,b⟩:=cS h;exact k c b
theorem bI{x y z:a}(h:(if c=true then x else y)=z)(d:c->x=z->C)(b:c=false->y=z->C):C:=by cases c with|true=>exact d rfl (ifT rfl h)|false=>exact b rfl (ifF rfl h)
def cutH{a b:IC}(c:jd)(h:∀M:Sg->Prop,Imp c M->It P G a (Exit.TF M Q) σ/\∀τ,c τ->It P G b Q τ):It P G (cutS a b) Q σ:=awp_cut (h c λ_ h=>h).1 (h c λ_ h=>h).2
def Nh(n:Nat)(a b:IC):IC:=.seq a b
def zW(n:Nat){a b:IC}(c:jd)(h:∀M:Sg->Prop,Imp c M->It P G a (Exit.TF M Q) σ/\∀τ,c τ->It P G b Q τ):It P G (Nh n a b) Q σ:=cutH c h
def awp_loopI{a:IC}(I:mh)(n:Nat)(h:I n σ)(b:∀n τ (N:jd),I n τ->(∀m,m<n->∀c,I m c->N c)->It P G a (Exit.TF N Q) τ):It P G (.loop a) Q σ:=awp_loop I n h λn τ e=>b n τ _ e λm f c d=>⟨m,f,d⟩
def Back(n:Nat)(I:mh)(N:jd):Prop:=∀m,m<n->∀τ',I m τ'->N τ'
def impI{A:jd}(m:Imp A B)(h:A τ):B τ:=m τ h
def Ow(k:Back (base+1) L N)(h:L base τ):N τ:=k base (Nat.lt_succ_self base) τ h
def NK{a:IC}(I:mh)(h:I BQ σ)(b:∀n τ (N:jd),I n τ->Back n I N->It P G a (Exit.TF N Q) τ):It P G (.loop a) Q σ:=awp_loopI I BQ h b
theorem gK_mono(i:∀σ,K σ->M σ)(g:∀σ,N σ->B σ)(h:gK x c K N σ):gK x c M B σ:=by unfold gK at*;split at h;split at h;rename_i d;simp only[d,AAl];exact i _ h;rename_i d;simp only[d,AAY];exact g _ h;exact g _ h;exact h.elim
theorem gM_mono{g:jn}{d:EH}{A:jd}(c:∀σ,A σ->N σ)(f:∀σ,K σ->M σ)(h:gM g d A K σ):gM g d N M σ:=by cases g with|none=>exact c _ h|some x=>obtain⟨s,e⟩:=x;exact gK_mono c (λσ i=>f _ i) h
theorem Kv{K i:j8}(h:∀σ c,K σ c->i σ c):∀{l:List uQ}{σ:Sg}{c:Mu},Qc P G l K σ c->Qc P G l i σ c|[],_,_,ht=>h _ _ ht|.x _::_,_,_,ht=>Kw (λ_ a=>Kv h a) ht|.mkm _::_,_,_,ht=>λb e=>Ht (λ_ a=>Kv h a) (ht b e)|.lkp g d m k::l,σ,c,ht=>by simp only[Qc]at ht |-;refine gM_mono (λσ a=>?_) (λσ a=>Kv h a) ht;unfold lkpK at a |-;split at a;split at a;exact⟨a.1,Ht (λ_ j=>Kv h j) a.2⟩;exact a.elim;exact a.elim|.mup m k v::l,σ,c,ht=>by simp only[Qc]at ht |-;unfold mupK at ht |-;split at ht;split at ht;exact⟨ht.1,Kv h ht.2⟩;exact ht.elim;exact ht.elim|.rng d x::l,σ,c,ht=>by simp only[Qc]at ht |-;unfold rngK at ht |-;split at ht;exactλb e=>Ht (λ_ a=>Kv h a) (ht b e);exact ht.elim|.nxt d x::l,σ,c,ht=>by simp only[Qc]at ht |-;unfold nxtK at ht |-;split at ht;split at ht;split at ht;rename_i f;simp only[f,AAl];exact Ht (λ_ a=>Kv h a) ht;rename_i f;simp only[f,AAY];exact Ht (λ_ a=>Kv h a) ht;exact ht.elim;exact ht.elim
theorem awpM_mono:∀{Q j:Exit->Sg->Mu->Prop}{σ:Sg}{g:Mu},(∀e σ g,Q e σ g->j e σ g)->KB P G ic Q σ g->KB P G ic j σ g:=by induction ic with|ic c=>exactλh d=>pV (λe σ k=>h e σ _ k) d|fK xs=>exactλh d=>Kv (h .normal) d|seq a b Ss ihb=>(intro Q j σ g h d;refine Ss (λe σ' l f=>?_) d;cases e with|normal=>exact ihb h f|_=>exact h _ _ _ f)|cond c a b Ss ihb=>intro Q j σ g h d;rw[Ze]at d |-;unfold zV at d |-;split at d;split at d;rename_i k;simp only[k,AAl];exact Ss h d;rename_i k;simp only[k,AAY];exact ihb h d;exact d.elim|block id a Ss=>(intro Q j σ g h d;refine Ss (λe σ' l f=>?_) d;cases e with|exit i=>rw[XZ]at f |-;split;rename_i hi;rw[AAM hi]at f;exact h _ _ _ f;rename_i hi;rw[AAL hi]at f;exact h _ _ _ f|_=>exact h _ _ _ f)|loop a Ss=>intro Q j σ g h d;obtain⟨I,m,p⟩:=d;refine⟨I,m,λn τ q o=>Ss (λe σ' l f=>?_) (p n τ q o)⟩;cases e with|normal=>exact f|_=>exact h _ _ _ f
def qB(a b:eN):eN:=.seq a b
theorem awpM_cut{Q:Exit->Sg->Mu->Prop}{M:j8}{d:Mu}(f:KB P G ic (Exit.dB M Q) σ d)(g:∀τ c,M τ c->KB P G s Q τ c):KB P G (qB ic s) Q σ d:=by unfold qB;rw[pS];refine awpM_mono ?_ f;intro e τ c h;cases e with|normal=>exact g τ c h|_=>exact h
def ImpM(A B:j8):Prop:=∀τ d,A τ d->B τ d
def qC{Q:Exit->Sg->Mu->Prop}(c:j8){d:Mu}(h:∀M:Sg->Mu->Prop,ImpM c M->KB P G ic (Exit.dB M Q) σ d/\∀τ e,c τ e->KB P G s Q τ e):KB P G (qB ic s) Q σ d:=awpM_cut (h c λ_ _ h=>h).1 (h c λ_ _ h=>h).2
def vI{Q:Exit->Sg->Mu->Prop}{g:Mu}(I:nu)(n:Nat)(h:I n σ g)(b:∀n τ f (N:j8),I n τ f->(∀m,m<n->∀d c,I m d c->N d c)->KB P G ic (Exit.dB N Q) τ f):KB P G (.loop ic) Q σ g:=awpM_loop I n h λn τ f i=>b n τ f _ i λm j d c e=>⟨m,j,e⟩
def BackM(n:Nat)(I:nu)(N:j8):Prop:=∀m,m<n->∀τ' ν',I m τ' ν'->N τ' ν'
def loopMH{Q:Exit->Sg->Mu->Prop}{c:Mu}(I:nu)(h:I BQ σ c)(b:∀n τ d (N:j8),I n τ d->BackM n I N->KB P G ic (Exit.dB N Q) τ d):KB P G (.loop ic) Q σ c:=vI I BQ h b
def tv(s:ABj):ABj×Value:=(s,.bool true)
theorem look_set(l:jt)(s:ABj):N8 (l.map tv) s (.bool false)=.bool (l.any λx=>x==s):=by induction l with|nil=>rfl|cons x l ih=>unfold N8 at ih |-;rw[AAd,List.find?_cons,List.any_cons];cases hx:(tv x).1==s with|true=>simp[show(x==s)=true from hx,tv]|false=>simp only[show(x==s)=false from hx,Bool.false_or];exact ih
theorem all_set(l:jt)(s:ABj):((l.map tv).all λx=>!(x.1==s))= !(l.any λx=>x==s):=by induction l with|nil=>rfl|cons x l ih=>rw[AAd,AA4,List.any_cons,ih];simp[tv]
theorem add_set(l:jt)(s:ABj):uW (l.map tv) s (.bool true)=(l++[s]).map tv:=by simp[uW,tv]
theorem rL(b:Bool):HI (.bool b):=rfl
attribute [go_sem] look_set all_set add_set rL
def map_len(f:a->b)(l:List a):(l.map f).length=l.length:=AAt ..
def map_get(f:a->b)(l:List a)(i:Nat):(l.map f)[i]? =(l[i]?).map f:=AAU ..
def map_app(f:a->b)(l m:List a):l.map f++m.map f=(l++m).map f:=(AAu ..).symm
def map_tk(f:a->b)(l:List a)(n:Nat):(l.map f).take n=(l.take n).map f:=(List.map_take ..).symm
def map_dr(f:a->b)(l:List a)(n:Nat):(l.map f).drop n=(l.drop n).map f:=(List.map_drop ..).symm
theorem dt1{l:List a}{x:a}(h:l[base]? =some x):(l.drop base).take 1=[x]:=by obtain⟨hi,rfl⟩:=AAJ.1 h;rw[AA8 hi];rfl
theorem sc_str(l:jt):(l.map Value.string).map AV.sc=l.map B4:=by rw[List.map_map];rfl
theorem cast22:((22:Nat):Int)=22:=rfl
attribute [go_sem] dt1 sc_str cast22 Nat.mul_one List.getElem?_set_self List.set_set List.length_set Nat.zero_le Option.isSome_none Option.isSome_some Option.isNone_none map_len map_get map_app map_tk map_dr
theorem map_same(f:a->b)(l:List a)(i:Nat)(x:a)(h:l[i]? =some x):(List.map f (l.set i x)=List.map f l)=True:=by obtain⟨hi,rfl⟩:=AAJ.1 h;simp
attribute [go_sem] map_same
theorem one_nil:one []=.Bo []:=rfl
attribute [go_sem] one_nil
theorem tn1:Int.toNat 1=1:=rfl
theorem tn2:Int.toNat 2=2:=rfl
theorem tn3:Int.toNat 3=3:=rfl
attribute [go_sem] tn1 tn2 tn3 Nat.reduceAdd
theorem map_ce(e:a->List AV)(l:List a)(h:∀x,(e x).all Gz):((l.map e).all λx=>x.all Gz):=by rw[ABY];exact AAP.2 λx _=>h x
theorem map_pl(e:a->List AV)(l:List a)(h:∀x,(e x).all JK):((l.map e).all λx=>x.all JK):=by rw[ABY];exact AAP.2 λx _=>h x
theorem map_fr(e:a->List AV)(l:List a)(h:∀x,Q3 (e x)):Tw (l.map e):=by induction l with|nil=>rfl|cons x l ih=>simp[Tw,h x,ih]
theorem plain_frz{l:jj}(h:l.all JK):eY l=l:=by induction l with|nil=>rfl|cons a l ih=>simp only[AA4,AAH]at h;rw[eY,ih h.2];cases a<;>simp_all [JK,KX]
theorem map_fz(e:a->List AV)(l:List a)(h:∀x,(e x).all JK):NG (l.map e)=l.map e:=by induction l with|nil=>rfl|cons x l ih=>simp[NG,plain_frz (h x),ih]
theorem map_fm(e:a->List AV)(l:List a)(h:∀x,(e x).all JK):(l.map e).map (λx=>x.map KX)=l.map e:=by rw[<- Uz];exact map_fz e l h
attribute [go_sem] implies_true map_ce map_pl map_fr map_fz map_fm
def i0(d:Nat)(op:dV):BP:=⟨some ⟨d,[],[]⟩,op,none⟩
def i1(d r:Nat)(op:dV):BP:=⟨some ⟨d,[],[r]⟩,op,none⟩
def j0(d:Nat)(op:dV)(g:Nat)(b:Bool):BP:=⟨some ⟨d,[],[]⟩,op,some (g,b)⟩
def j1(d r:Nat)(op:dV)(g:Nat)(b:Bool):BP:=⟨some ⟨d,[],[r]⟩,op,some (g,b)⟩
def iC(d s:Nat):BP:=⟨some ⟨d,[],[]⟩,.cp (.t s),none⟩
def iL(d s:Nat):BP:=⟨some ⟨d,[],[]⟩,.ld false 1 (.t s),none⟩
def We(d r s:Nat):BP:=⟨some ⟨d,[],[r]⟩,.ld false 1 (.t s),none⟩
def iF(d o s:Nat):BP:=⟨some ⟨d,[],[]⟩,.Xe o (.t s),none⟩
def Ko(d r o s:Nat):BP:=⟨some ⟨d,[],[r]⟩,.Xe o (.t s),none⟩
def iI(d k s i:Nat):BP:=⟨some ⟨d,[],[]⟩,.Wu k (.t s) (.t i),none⟩
def xN(d r k s i:Nat):BP:=⟨some ⟨d,[],[r]⟩,.Wu k (.t s) (.t i),none⟩
def iS(n a b:Nat):BP:=⟨none,.st n (.t a) (.t b),none⟩
def jL(d s g:Nat)(b:Bool):BP:=⟨some ⟨d,[],[]⟩,.ld false 1 (.t s),some (g,b)⟩
def jFr(d r o s g:Nat)(b:Bool):BP:=⟨some ⟨d,[],[r]⟩,.Xe o (.t s),some (g,b)⟩
def iOr(d a b:Nat):BP:=⟨some ⟨d,[],[]⟩,.pick (.t a) (.c (.sc (.bool true))) (.t b),none⟩
def iAn(d a b:Nat):BP:=⟨some ⟨d,[],[]⟩,.pick (.t a) (.t b) (.c (.sc (.bool false))),none⟩
def iU(d:Nat)(n:Int):BP:=⟨some ⟨d,[],[]⟩,.cp (.c (.sc (.int .i64 n))),none⟩
def iZ(d s:Nat):BP:=⟨some ⟨d,[],[]⟩,.len (.t s),none⟩
def iA(d k s:Nat):BP:=⟨some ⟨d,[],[]⟩,.ld true k (.t s),none⟩
def jC(d s g:Nat)(b:Bool):BP:=⟨some ⟨d,[],[]⟩,.cp (.t s),some (g,b)⟩
def jN(d s g:Nat)(b:Bool):BP:=⟨some ⟨d,[],[]⟩,.un .not (.t s),some (g,b)⟩
def jP(d:Nat)(op:BinOp)(x:Nat)(n:Int)(g:Nat)(b:Bool):BP:=⟨some ⟨d,[],[]⟩,.bin op (.t x) (.c (.sc (.int .i64 n))),some (g,b)⟩
def cX(c id:Nat):IC:=.cond (.t c) .skip (.exit id)
def iQ(d s:Nat)(n:Int):BP:=⟨some ⟨d,[],[]⟩,.bin .eql (.t s) (.c (.sc (.int .i64 n))),none⟩
def iO(d:Nat)(op:BinOp)(a b:Nat):BP:=⟨some ⟨d,[],[]⟩,.bin op (.t a) (.t b),none⟩
def iP(d:Nat)(op:BinOp)(a:Nat)(n:Int):BP:=⟨some ⟨d,[],[]⟩,.bin op (.t a) (.c (.sc (.int .i64 n))),none⟩
def iK(d:Nat)(n:Int):BP:=⟨some ⟨d,[],[]⟩,.mv (.c (.sc (.int .i64 n))),none⟩
def iB(d:Nat)(b:Bool):BP:=⟨some ⟨d,[],[]⟩,.mv (.c (.sc (.bool b))),none⟩
def bA(k:Nat)(cs:jj):AV:=.own true k [cs]
attribute [go_sem] iOr iAn iU iZ iA jC jN jP cX iQ iO iP iK iB bA i0 i1 j0 j1 iC iL We iF Ko iI xN iS jL jFr
end
variable{j:Prop}
section
variable{P:jh}{G:Gi}
def exI{a:Sort _}{p:a->Prop}(h:∃x,p x)(k:∀x,p x->C):C:=h.elim k
def anI(h:p/\j)(k:p->j->C):C:=k h.1 h.2
def CutT(n:Nat)(M0:jd):Prop:=∀(P:jh)(G:Gi)(a b:IC)(Q:Exit->Sg->Prop)(σ:Sg),(∀M:Sg->Prop,Imp M0 M->It P G a (Exit.TF M Q) σ/\∀τ,M0 τ->It P G b Q τ)->It P G (Nh n a b) Q σ
def B3(n:Nat)(a:jd):CutT n a:=λ_ _ _ _ _ _ h=>zW n a h
def iz(n:Nat)(I:Nat->Nat->Nat->Nat->Sg->Prop):=λa b c d=>B3 n (I a b c d)
def i5(n:Nat)(I:jd):=λ_ _ _ _:Nat=>B3 n I
def CutT.use(c:CutT base K){a b:IC}(h:∀M:Sg->Prop,Imp K M->It P G a (Exit.TF M Q) σ/\∀τ,K τ->It P G b Q τ):It P G (Nh base a b) Q σ:=c _ _ _ _ _ _ h
def ZN(I:mh):Prop:=∀(P:jh)(G:Gi)(a:IC)(Q:Exit->Sg->Prop)(σ:Sg),I BQ σ->(∀n τ (N:jd),I n τ->Back n I N->It P G a (Exit.TF N Q) τ)->It P G (.loop a) Q σ
def Az(I:mh):ZN I:=λ_ _ _ _ _ h r=>NK I h r
def iy(I:Nat->Nat->Nat->Nat->Nat->Sg->Prop):=λa b c d=>Az (I a b c d)
def i4(I:mh):=λ_ _ _ _:Nat=>Az I
def ZN.use(c:ZN L){a:IC}(h:L BQ σ)(r:∀n τ (N:jd),L n τ->Back n L N->It P G a (Exit.TF N Q) τ):It P G (.loop a) Q σ:=c _ _ _ _ _ h r
def ac2{c b:ABi a}{x:a}(h:(if(i==0)=true then c else if(i==1)=true then b else none)=some x)(d:i=0->c=some x->C)(e:i=1->b=some x->C):C:=(acase2 h).elim (λh=>d h.1 h.2) λh=>e h.1 h.2
theorem cal{p:Prop}(q:p:=by first| ((with_reducible have g:=a1 g);exact g)| ((with_reducible have g:=a2 g);exact g)| ((with_reducible have g:=a3 g);exact g)| ((with_reducible have g:=a4 g);exact g)| ((with_reducible have g:=a5 g);exact g)| ((with_reducible have g:=a6 g);exact g)| ((with_reducible have g:=a7 g);exact g)| ((with_reducible have g:=a8 g);exact g)| ((with_reducible have g:=a9 g);exact g)| ((with_reducible have g:=a10 g);exact g)| ((with_reducible have g:=a11 g);exact g)| ((with_reducible have g:=a12 g);exact g)| ((with_reducible have g:=a13 g);exact g)| ((with_reducible have g:=a14 g);exact g)| ((with_reducible have g:=a15 g);exact g)| ((with_reducible have g:=a16 g);exact g)| ((with_reducible have g:=a17 g);exact g)| ((with_reducible have g:=a18 g);exact g)| ((with_reducible have g:=a19 g);exact g)| ((with_reducible have g:=a20 g);exact g)| ((with_reducible have g:=a21 g);exact g)| ((with_reducible have g:=a22 g);exact g)| ((with_reducible have g:=a23 g);exact g)| ((with_reducible have g:=a24 g);exact g)| ((with_reducible have g:=a25 g);exact g)| ((with_reducible have g:=a26 g);exact g)| ((with_reducible have g:=a27 g);exact g)| ((with_reducible have g:=a28 g);exact g)| ((with_reducible have g:=a29 g);exact g)| ((with_reducible have g:=a30 g);exact g)):p:=q
theorem cas{p:Prop}(q:p:=by
  first
    | (repeat with_reducible apply Exists.intro
       with_reducible refine⟨?_,h⟩)
    | (have hq:=h
       subst_vars;repeat with_reducible apply Exists.intro
       with_reducible refine⟨?_,hq⟩)
  first
    | (simp +decide only[go_sem, *]
       done)
    | ((try simp +decide only[go_sem, *])
       (repeat' with_reducible apply And.intro)<;>first
         |with_reducible rfl
         | (simp only[AAu,AAd,AAv,go_sem]
            done))):p:=q
theorem zer{p:Prop}(q:p:=by
 repeat (with_reducible first|refine exI h ?_|refine anI h ?_);clear h;intro _ h
 exact DT h):p:=q
theorem sgBk{f:UInt8->ABi b}{r:b}(h:(sgt l i).bind f=some r)(k:∀x,((∀n,i.toNat=n->l[n]? =some x)/\0<=i)->f x=some r->C):C:=by obtain⟨x,a,h⟩:=sgB h;exact k x ⟨λn e=>e▸a.1,a.2⟩ h
theorem ac4{f b c d:ABi a}{x:a}(h:(if(i==0)=true then f else if(i==1)=true then b else if(i==2)=true then c else if(i==3)=true then d else none)=some x)(g:i=0->f=some x->C)(j:i=1->b=some x->C)(k:i=2->c=some x->C)(l:i=3->d=some x->C):C:=by split at h;rename_i e;exact g (by simpa using e) h;split at h;rename_i e;exact j (by simpa using e) h;split at h;rename_i e;exact k (by simpa using e) h;split at h;rename_i e;exact l (by simpa using e) h;cases h
theorem walk{p:Prop}(q:p:=by
  try
    unfold Run;intro C R I e1 e2 e3
    conv at e3=>lhs;cbv
    repeat
      conv at e3=>
        pattern R _ _
        rw[e2]
        cbv
    subst e3;subst e1;dsimp only
  have n1:=0;have n2:=0;have n3:=0;have n4:=0
  repeat' first
    |with_reducible exact DT h
    | (with_reducible refine exI h ?_
       clear h;intro _ h)
    | (with_reducible refine anI h ?_
       clear h;intro _ h)
    |with_reducible refine zZ.intro ?_ ?_
    |with_reducible refine gBm eS h λ_ _ h=>?_
    |with_reducible refine gBm eI h λ_ _ h=>?_
    |with_reducible refine gBe h bm λh=>?_
    |with_reducible refine gBk h λ_ _ h=>?_
    |with_reducible refine sgBk h λ_ _ h=>?_
    | (with_reducible refine cSk h λg h=>?_
       try simp only[AAi]at g)
    | (with_reducible refine ac4 h ?_ ?_ ?_ ?_
       all_goals
         clear h;intro e h;cases e)
    | (with_reducible refine ac2 h ?_ ?_
       all_goals
         clear h;intro e h;cases e)
    | (with_reducible refine bSs h λh=>?_
       try simp +decide only[go_sem, *]
       refine⟨_,by first|exact a1 bm|exact a2 bm|exact a3 bm|exact a4 bm|exact a5 bm|exact a6 bm|exact a7 bm|exact a8 bm|exact a9 bm|exact a10 bm|exact a11 bm|exact a12 bm|exact a13 bm|exact a14 bm|exact a15 bm|exact a16 bm|exact a17 bm|exact a18 bm|exact a19 bm|exact a20 bm|exact a21 bm|exact a22 bm|exact a23 bm|exact a24 bm|exact a25 bm|exact a26 bm|exact a27 bm|exact a28 bm|exact a29 bm|exact a30 bm,?_⟩)
    | (with_reducible refine bSk h λ_ g h=>?_
       try simp +decide only[go_sem, *]
       first
         |refine⟨_,cal,?_⟩
         | (refine LndE.intro cal rfl ?_ ?_ ?_
            . rfl
            . first|rfl|simp +decide only[go_sem, *])
         |refine LbE.intro cal (by first|rfl|simp +decide only[go_sem, *]) ?_)
    | (with_reducible cases h
       first
         | (simp +decide only[go_sem, *]
            done)
         | (simp +decide only[AAu,AAd,AAv,go_sem, *]
            done))
    |simp only[eq_self,AAl,AAY,AAR]at h
    |simp +decide only[go_sem, *]
    | (with_reducible refine impI bm ?_
       exact cas)
    | (with_reducible refine CutT.use (by first|exact c1 n1 n2 n3 n4|exact c2 n1 n2 n3 n4|exact c3 n1 n2 n3 n4|exact c4 n1 n2 n3 n4|exact c5 n1 n2 n3 n4|exact c6 n1 n2 n3 n4|exact c7 n1 n2 n3 n4|exact c8 n1 n2 n3 n4|exact c9 n1 n2 n3 n4|exact c10 n1 n2 n3 n4|exact c11 n1 n2 n3 n4|exact c12 n1 n2 n3 n4|exact c13 n1 n2 n3 n4|exact c14 n1 n2 n3 n4|exact c15 n1 n2 n3 n4|exact c16 n1 n2 n3 n4|exact c17 n1 n2 n3 n4|exact c18 n1 n2 n3 n4|exact c19 n1 n2 n3 n4|exact c20 n1 n2 n3 n4|exact c21 n1 n2 n3 n4|exact c22 n1 n2 n3 n4|exact c23 n1 n2 n3 n4|exact c24 n1 n2 n3 n4|exact c25 n1 n2 n3 n4|exact c26 n1 n2 n3 n4|exact c27 n1 n2 n3 n4|exact c28 n1 n2 n3 n4|exact c29 n1 n2 n3 n4|exact c30 n1 n2 n3 n4) λM m=>⟨?_,?_⟩
       rotate_left;clear h;intro τ h;rotate_left)
    | (with_reducible refine ZN.use (l1 n1 n2 n3 n4) ?_ ?_
       . exact cas
       clear h;rintro(_|n1) τ N h k
       . exact zer)
    | (with_reducible refine ZN.use (l2 n1 n2 n3 n4) ?_ ?_
       . exact cas
       clear h;rintro(_|n2) τ N h k
       . exact zer)
    | (with_reducible refine ZN.use (l3 n1 n2 n3 n4) ?_ ?_
       . exact cas
       clear h;rintro(_|n3) τ N h k
       . exact zer)
    | (with_reducible refine ZN.use (l4 n1 n2 n3 n4) ?_ ?_
       . exact cas
       clear h;rintro(_|n4) τ N h k
       . exact zer)
    | (with_reducible refine Ow bm ?_
       first
         |exact cas
         | (repeat with_reducible apply Exists.intro
            with_reducible refine⟨?_,h⟩))
    |simp only[*,eq_self,AAl,AAY,AAR,decide_true,decide_false]at h
    | (with_reducible refine bI h ?_ ?_
       all_goals
         clear h;intro _ h)
    |intro _ _
    |unfold L1 at h
    |unfold L2 at h
    |unfold L3 at h
    |unfold L4 at h
    |unfold J1 at h
    |unfold J2 at h
    |unfold J3 at h
    |unfold J4 at h
    |unfold J5 at h
    |unfold J6 at h
    |unfold J7 at h
    |unfold J8 at h
    |unfold J9 at h
    |unfold OS at h
    |unfold Qu at h
    |unfold gN at h
    |unfold J13 at h
    |unfold J14 at h
    |unfold J15 at h
    |unfold J16 at h
    |unfold J17 at h
    |unfold J18 at h
    |unfold J19 at h
    |unfold J20 at h
    |unfold J21 at h
    |unfold J22 at h
    |unfold J23 at h
    |unfold J24 at h
    |unfold J25 at h
    |unfold J26 at h
    |unfold J27 at h
    |unfold J28 at h
    |unfold J29 at h
    |unfold J30 at h
    |rw[AR]at h
    |rw[Bs]at h
    |rw[E3]at h
    |rw[tF]at h
    |contradiction
    |with_reducible rfl):p:=q
end
section
inductive A where
 |f (o s:Nat)|F (o s:Nat)|H (r o s:Nat)|h (r o s:Nat)|m (r o s:Nat)|u (o s:Nat)|U (o s:Nat)|L (s:Nat)|l (r s:Nat)|C (s:Nat)
 |Q (s:Nat) (k:Int)|q (s:Nat) (k:Int) (d:Nat)|P (op:BinOp) (s:Nat) (k:Int)|O (op:BinOp) (a b:Nat)|M (d s:Nat)|K (d:Nat) (k:Int)|B (d:Nat) (b:Bool)
 |S (k a b:Nat)|T (a:Nat) (k:Int)|I (k s i:Nat)|J (r k s i:Nat)|A (k s:Nat)|Z (s:Nat)|V (a b:Nat)|W (a b:Nat)|N (s:Nat)|Y (k:Int)
 |p (s o:Nat)|r (s o:Nat)|D (s:Nat)|c (f:Nat) (l:List Nat) (m:Nat)|G (a:Nat) (b:Bool)|e|w (n:Nat)|o (op:dV)|y (r:Nat) (op:dV)|x (op:BP)|b (d:Nat) (kl:List Nat) (op:dV)
def tN:List Nat->List Ar|[]=>[]|s::l=>.t s::tN l
def Oo:ABi (Nat×Bool)->Nat->List A->List BP|_,_,[]=>[]|g,n,.f o s::l=>⟨some ⟨n,[],[s]⟩,.Xe o (.t s),g⟩::⟨some ⟨n+1,[],[]⟩,.ld false 1 (.t n),g⟩::Oo g (n+2) l|g,n,.F o s::l=>⟨some ⟨n,[],[s]⟩,.Xe o (.t s),g⟩::Oo g (n+1) l|g,n,.H r o s::l=>⟨some ⟨n,[],[r]⟩,.Xe o (.t s),g⟩::Oo g (n+1) l|g,n,.h r o s::l=>⟨some ⟨n,[],[r]⟩,.Xe o (.t s),g⟩::⟨some ⟨n+1,[],[]⟩,.ld false 1 (.t n),g⟩::Oo g (n+2) l|g,n,.m r o s::l=>⟨some ⟨n,[],[r]⟩,.Xe o (.t s),g⟩::⟨some ⟨n+1,[],[r]⟩,.ld false 1 (.t n),g⟩::Oo g (n+2) l|g,n,.u o s::l=>⟨some ⟨n,[],[]⟩,.Xe o (.t s),g⟩::Oo g (n+1) l|g,n,.U o s::l=>⟨some ⟨n,[],[]⟩,.Xe o (.t s),g⟩::⟨some ⟨n+1,[],[]⟩,.ld false 1 (.t n),g⟩::Oo g (n+2) l|g,n,.L s::l=>⟨some ⟨n,[],[]⟩,.ld false 1 (.t s),g⟩::Oo g (n+1) l|g,n,.l r s::l=>⟨some ⟨n,[],[r]⟩,.ld false 1 (.t s),g⟩::Oo g (n+1) l|g,n,.C s::l=>⟨some ⟨n,[],[]⟩,.cp (.t s),g⟩::Oo g (n+1) l|g,n,.Q s k::l=>⟨some ⟨n,[],[]⟩,.bin .eql (.t s) (.c (.sc (.int .i64 k))),g⟩::Oo g (n+1) l|g,n,.q s k d::l=>⟨some ⟨n,[],[]⟩,.bin .eql (.t s) (.c (.sc (.int .i64 k))),g⟩::⟨some ⟨d,[],[]⟩,.mv (.t n),g⟩::Oo g (n+1) l|g,n,.P op s k::l=>⟨some ⟨n,[],[]⟩,.bin op (.t s) (.c (.sc (.int .i64 k))),g⟩::Oo g (n+1) l|g,n,.O op a b::l=>⟨some ⟨n,[],[]⟩,.bin op (.t a) (.t b),g⟩::Oo g (n+1) l|g,n,.M d s::l=>⟨some ⟨d,[],[]⟩,.mv (.t s),g⟩::Oo g n l|g,n,.K d k::l=>⟨some ⟨d,[],[]⟩,.mv (.c (.sc (.int .i64 k))),g⟩::Oo g n l|g,n,.B d b::l=>⟨some ⟨d,[],[]⟩,.mv (.c (.sc (.bool b))),g⟩::Oo g n l|g,n,.S k a b::l=>⟨none,.st k (.t a) (.t b),g⟩::Oo g n l|g,n,.T a k::l=>⟨none,.st 1 (.t a) (.c (.sc (.int .i64 k))),g⟩::Oo g n l|g,n,.I k s i::l=>⟨some ⟨n,[],[]⟩,.Wu k (.t s) (.t i),g⟩::Oo g (n+1) l|g,n,.J r k s i::l=>⟨some ⟨n,[],[r]⟩,.Wu k (.t s) (.t i),g⟩::Oo g (n+1) l|g,n,.A k s::l=>⟨some ⟨n,[],[]⟩,.ld true k (.t s),g⟩::Oo g (n+1) l|g,n,.Z s::l=>⟨some ⟨n,[],[]⟩,.len (.t s),g⟩::Oo g (n+1) l|g,n,.V a b::l=>⟨some ⟨n,[],[]⟩,.pick (.t a) (.c (.sc (.bool true))) (.t b),g⟩::Oo g (n+1) l|g,n,.W a b::l=>⟨some ⟨n,[],[]⟩,.pick (.t a) (.t b) (.c (.sc (.bool false))),g⟩::Oo g (n+1) l|g,n,.N s::l=>⟨some ⟨n,[],[]⟩,.un .not (.t s),g⟩::Oo g (n+1) l|g,n,.Y k::l=>⟨some ⟨n,[],[]⟩,.cp (.c (.sc (.int .i64 k))),g⟩::Oo g (n+1) l|g,n,.p s o::l=>⟨some ⟨n,[],[s]⟩,.cp (.t s),g⟩::⟨some ⟨n+1,[],[s]⟩,.JQ (.t n),g⟩::⟨some ⟨n+2,[],[s]⟩,.Xe o (.t (n+1)),g⟩::⟨some ⟨n+3,[],[]⟩,.ld false 1 (.t (n+2)),g⟩::Oo g (n+4) l|g,n,.r s o::l=>⟨some ⟨n,[],[s]⟩,.cp (.t s),g⟩::⟨some ⟨n+1,[],[s]⟩,.JQ (.t n),g⟩::⟨some ⟨n+2,[],[s]⟩,.Xe o (.t (n+1)),g⟩::⟨some ⟨n+3,[],[s]⟩,.ld false 1 (.t (n+2)),g⟩::Oo g (n+4) l|g,n,.D s::l=>⟨some ⟨n,[],[s]⟩,.cp (.t s),g⟩::⟨some ⟨n+1,[],[s]⟩,.JQ (.t n),g⟩::Oo g (n+2) l|g,n,.c f a m::l=>⟨some ⟨n,[],[]⟩,.call f (tN a) m,g⟩::Oo g (n+1) l|_,n,.G a b::l=>Oo (some (a,b)) n l|_,n,.e::l=>Oo none n l|g,_,.w n::l=>Oo g n l|g,n,.o op::l=>⟨some ⟨n,[],[]⟩,op,g⟩::Oo g (n+1) l|g,n,.y r op::l=>⟨some ⟨n,[],[r]⟩,op,g⟩::Oo g (n+1) l|g,n,.x op::l=>op::Oo g n l|g,n,.b d k op::l=>⟨some ⟨d,k,[]⟩,op,g⟩::Oo g n l
def Ra(n:Nat)(l:List A)(b:IC):IC:=.seq (.fY (Oo none n l)) b
def Rb(n:Nat)(l:List A):IC:=.seq (.fY (Oo none n l)) .ret
def Rc(n:Nat)(l:List A):IC:=.fY (Oo none n l)
def Cn(c:Nat)(a b:IC):IC:=.cond (.t c) a b
def Ci(c:Nat)(a:IC):IC:=.cond (.t c) a .skip
def Sq(a b:IC):IC:=.seq a b
def Bk(n:Nat)(a:IC):IC:=.block n a
def Bl(n:Nat)(a:IC):IC:=.block n (.loop a)
attribute [go_sem] tN Oo Ra Rb Rc Cn Ci Sq Bk Bl
abbrev vS{d:Type}(k:Nat)(e:d->List AV)(l:List d):AV:=.sl false k (l.map e)
abbrev vO{d:Type}(k:Nat)(e:d->List AV)(l:List d):AV:=.own false k (l.map e)
attribute [go_sem] vS vO
section
variable{P:jh}{f:Nat}{fn:Func}{I:FI}{args:jj}{res:AV}{outs:jj}
theorem wO(hm:P.follows .mixedOrders)(hf:P.funcs[f]? =some fn)(h:It P I.g I.c (Ends I.g I.r res) (start args))(hc:OW P fn I:=by kernel_rfl)(hn:args.length<=fn.ntmps:=by exact AAQ (by kernel_rfl))(ha:args.all Ju:=by rfl):Says P f args res:=P7 hm hf hc hn ha h
theorem wL(hm:P.follows .mixedOrders)(hf:P.funcs[f]? =some fn)(h:It P I.g I.c (XV I.g I.r res outs) (start args))(hc:OW P fn I:=by kernel_rfl)(hD:lQ fn args.length:=by kernel_rfl)(hn:args.length<=fn.ntmps:=by exact AAQ (by kernel_rfl))(ha:args.all Ju:=by rfl)(hl:outs.length=args.length:=by rfl):BM P f args res outs:=sK hm hf hc hD hn ha hl h
theorem wP(hm:P.follows .mixedOrders)(hf:P.funcs[f]? =some fn)(h:It P I.g I.c (oO I.g I.r res outs) (start args))(hc:OW P fn I:=by kernel_rfl)(hD:lQ fn args.length:=by kernel_rfl)(hn:args.length<=fn.ntmps:=by exact AAQ (by kernel_rfl))(ha:args.all Ju:=by rfl)(hl:outs.length=args.length:=by rfl):BM P f args res outs:=kM hm hf hc hD hn ha hl h
end
end
variable{P:jh}{u:AV}
section
inductive Yk where
 |b|t|i (k:IntKind)|s (l q:List Nat)|l (k b:Nat) (z:List AV)|a (n k:Nat) (g:Bool)|o
structure Y where
 z:List AV
 k:Yk
def lk(d:a):List (Nat×a)->Nat->a|[],_=>d| (k,x)::l,n=>if k=n then x else lk d l n
structure Hn where
 T:List (Nat×Y)
 C:List (Nat×Nat)
 L:List (Nat×Nat×ABi Nat)
 K:List (Nat×List Nat)
 Q:List (Nat×Nat)
 Z:List (Nat×Bool×Nat×List Step)
 F:List Nat
 E:List (Nat×IC)
def Hn.y(H:Hn)(t:Nat):Y:=lk ⟨[.sc (.int .i64 0)],.o⟩ H.T t
def Hn.n(H:Hn)(t:Nat):Nat:=(H.y t).z.length
def Hn.g(H:Hn)(t:Nat):Bool:=match(H.y t).k with|.s .. =>true|.a .. =>true|_=>false
def Hn.e(H:Hn)(t:Nat):Nat:=match(H.y t).k with|.l k .. =>k|.a _ k _=>k|_=>1
def fOf:Nat->List Nat->Nat->Nat×Nat×Bool|o,0::_,0=>(o,1,false)|o,n::_,0=>(o,n,true)|o,0::l,i+1=>fOf (o+1) l i|o,n::l,i+1=>fOf (o+n) l i|o,[],_=>(o,1,false)
def Hn.f(H:Hn)(t i:Nat):Nat×Nat×Bool:=match(H.y t).k with|.s l _=>fOf 0 l i|.a _ k g=>(i*k,k,g)|_=>(0,1,false)
def Hn.zv(H:Hn)(t:Nat):AV:=if H.g t then .agg (H.y t).z else(H.y t).z.headD .un
def inA(d:Nat):List Nat->Bool|[]=>false|x::l=>match compare x d with|.lt=>inA d l|.eq=>true|.gt=>false
def rsK(d:Nat):List (Nat×List Nat)->List Nat|[]=>[]| (r,x)::l=>if inA d x then r::rsK d l else rsK d l
def Hn.rs(H:Hn)(d:Nat):List Nat:=rsK d H.K
def Hn.d(H:Hn)(d:Nat):EH:=⟨d,lk [] H.K d,H.rs d⟩
def insA(x:Nat):List Nat->List Nat|[]=>[x]|y::l=>match compare x y with|.lt=>x::y::l|.eq=>y::l|.gt=>y::insA x l
def mrg:List (Nat×List Nat)->List Nat|[]=>[]|[(_,l)]=>l| (_,l)::k=>(mrg k).foldl (λa x=>insA x a) l
def Hn.G(H:Hn):Gi:=⟨(mrg H.K).map λd=>(d,H.rs d)⟩
def cst(H:Hn)(t:Nat)(f:Bool):Value->AV|.slice none 0 0=>if f then .sl false (H.e t) []else .own false (H.e t) []|.agg _=>.agg (H.y t).z|v=>.sc v
def oa(H:Hn)(t:Nat):Operand->Ar|.tmp s=>.t s|.const v=>.c (cst H t false v)|_=>.c .un
def of(H:Hn)(t:Nat)(f:Bool):Operand->Ar|.const v=>.c (cst H t f v)|x=>oa H t x
def oas(H:Hn):List Operand->List Nat->List Ar|x::l,t::m=>oa H t x::oas H l m|_,_=>[]
def gop(H:Hn)(ty:Nat)(f:Bool):Op->dV|.move x=>.cp (of H ty f x)|.assign x=>.mv (of H ty f x)|.pick c a b=>.pick (oa H 0 c) (oa H 0 a) (oa H 0 b)|.alloc t=>.bx (H.n t) (.c (H.zv t))|.box t x=>.bx (H.n t) (oa H t x)|.build t ps=>.To (H.y t).z (ps.toList.map λp=>((H.f t p.1).1,(H.f t p.1).2.1,oa H 0 p.2))|.buildSlice t n ps=>(match(H.y t).k with|.l k _ z=>.Ox k (List.replicate n z) (ps.toList.map λp=>(p.1,oa H 0 p.2))|_=>.bad)|.load t a=>.ld (H.g t) (H.n t) (oa H 0 a)|.store t a v=>.st (H.n t) (oa H 0 a) (oa H t v)|.nilCheck x=>.JQ (oa H 0 x)|.binOp op t x y _=>(match(H.y t).k with|.b=>.beq (match op with|.neq=>true|_=>false) (oa H 0 x) (oa H 0 y)|.s _ q=>.sN (match op with|.neq=>true|_=>false) q (oa H t x) (oa H t y)|_=>.bin op (oa H 0 x) (oa H 0 y))|.unOp op _ x=>.un op (oa H 0 x)|.convert _ d x=>.cvt (match(H.y d).k with|.i k=>k|_=>.i64) (oa H 0 x)|.fieldAddr t x f=>.Xe (H.f t f).1 (oa H 0 x)|.field t x f=>.fld (H.f t f).2.2 (H.f t f).1 (H.f t f).2.1 (oa H 0 x)|.indexAddr t x i=>(match(H.y t).k with|.a n k _=>.aad n k (oa H 0 x) (oa H 0 i)|_=>.Wu (H.e t) (oa H 0 x) (oa H 0 i))|.index t x i=>(match(H.y t).k with|.a n k g=>.idx g n k (oa H 0 x) (oa H 0 i)|_=>.sO (oa H 0 x) (oa H 0 i))|.slice t x l h m=>.slc (H.e t) true (oa H 0 x) (l.map (oa H 0)) (h.map (oa H 0)) (m.map (oa H 0))|.extract x i=>.ext (oa H 0 x) i|.makeSlice t l c=>(match(H.y t).k with|.l k b z=>.mk k b z (oa H 0 l) (oa H 0 c)|_=>.bad)|.call c=>(match c.callee,oas H c.args.toList c.argTypes.toList,c.argTypes.toList with|.builtin .len,[x],[t]=>(match(H.y t).k with|.t=>.gE x|_=>.len x)|.builtin .append,[x,y],t::_=>(match(H.y t).k with|.l k b _=>.app k b x y|_=>.bad)|.builtin .max,[x,y],_=>.mm true x y|.builtin .min,[x,y],_=>.mm false x y|.value (.func f),xs,_=>(match lk none (H.L.map λx=>(x.1,some x.2)) f with|some (i,c)=>(match xs.drop i with|x::post=>.W0 f (xs.take i) x c post|_=>.bad)|none=>.call f xs (lk 0 H.C f))|_,_,_=>.bad)|_=>.bad
def gor(H:Hn)(ops:Array Oper)(o:Oper):BP:=⟨o.dst.map H.d,gop H o.type (match o.dst with|some d=>H.F.contains d|none=>false) o.op,o.guard.map λg=>(((ops[g.1]?).bind (·.dst)).getD 0,g.2)⟩
def gzw:List (Nat×Bool×Nat×List Step)->Nat->IC->IC|[],_,c=>c| (i,b,r,p)::l,n,c=>gzw l n (if i=n then .gz b r p c else c)
def rgn(H:Hn)(id:Nat)(ops:Array Oper):IC:=match lk none (H.E.map λx=>(x.1,some x.2)) id with|some c=>c|none=>gzw H.Z id (.fY (ops.toList.map (gor H ops)))
def gco(H:Hn)(C:Nat->IC->IC->IC)(R:Nat->Array Oper->IC):Nat->Code->Nat×IC|n,.region id ops _=>(n,R id ops)|n,.seq a b=>(match gco H C R (n+1) a with| (m,a')=>match gco H C R m b with| (k,b')=>(k,match lk 0 H.Q n with|0=>.seq a' b'|j=>C j a' b'))|n,.cond c a b=>(match gco H C R n a with| (m,a')=>match gco H C R m b with| (k,b')=>(k,.cond (oa H 0 c) a' b'))|n,.block id a=>(match gco H C R n a with| (m,a')=>(m,.block id a'))|n,.loop a=>(match gco H C R n a with| (m,a')=>(m,.loop a'))|n,.scope a=>(match gco H C R (n+1) a with| (m,a')=>(m,.seq .skip a'))|n,.exit id=>(n,.exit id)|n,.ret=>(n,.ret)|n,.skip=>(n,.skip)|n,.label _=>(n,.skip)|n,_=>(n,.bad)
def mkI(H:Hn)(C:Nat->IC->IC->IC)(R:Nat->Array Oper->IC)(fn:Func):FI:=⟨(gco H C R 0 (fn.body.getD .skip)).2,H.G,fn.results.toList.map λ|.tmp t=>.tmp t|.cell a t=>.cell a (H.g t) (H.n t)⟩
def arrMk(l:List a):Array.mk l=l.toArray:=(rfl)
attribute [go_sem] arrMk
def awp_cg{G:Gi}{c:IC}(h:σ=τ):It P G c Q σ=It P G c Q τ:=h▸rfl
def aops_cg{G:Gi}{l:kq}(h:σ=τ):Pa P G l K σ=Pa P G l K τ:=h▸rfl
def bK_cg{x y:ABi Sg}(h:x=y):bK x K=bK y K:=h▸rfl
def condK_cg(h:x=u)(g:σ=τ):Ut x K N σ=Ut u K N τ:=h▸g▸rfl
def gK_cg(h:x=u)(g:σ=τ):gK x c K N σ=gK u c K N τ:=h▸g▸rfl
def toDst_cg{d:jx}(h:x=u)(g:σ=τ):DF d x K σ=DF d u K τ:=h▸g▸rfl
def resK_cg{d:jx}{v u:ABi AV}(h:v=u)(g:σ=τ):yH v d K σ=yH u d K τ:=h▸g▸rfl
attribute [congr] awp_cg aops_cg bK_cg condK_cg gK_cg toDst_cg resK_cg
section
variable{P:jh}{f:Nat}{fn:Func}{args:jj}{res:AV}{outs:jj}
def Run(P:jh)(fn:Func)(H:Hn)(E:Gi->List RV->Exit->Sg->Prop)(args:jj):Prop:=∀C R I,C=Nh->R=rgn H->mkI H C R fn=I->It P I.g I.c (E I.g I.r) (start args)
theorem kO(hm:P.follows .mixedOrders)(hf:P.funcs[f]? =some fn)(H:Hn)(h:Run P fn H (Ends · · res) args)(hc:OW P fn (mkI H Nh (rgn H) fn):=by kernel_rfl)(hn:args.length<=fn.ntmps:=by exact AAQ (by kernel_rfl))(ha:args.all Ju:=by rfl):Says P f args res:=P7 hm hf hc hn ha (h _ _ _ rfl rfl rfl)
theorem kF(hm:P.follows .mixedOrders)(hf:P.funcs[f]? =some fn)(H:Hn)(h:Run P fn H (zD · · res) args)(hc:OW P fn (mkI H Nh (rgn H) fn):=by kernel_rfl)(hn:args.length<=fn.ntmps:=by exact AAQ (by kernel_rfl))(ha:args.all Ju:=by rfl):Says P f args res:=sI hm hf hc hn ha (h _ _ _ rfl rfl rfl)
theorem kL(hm:P.follows .mixedOrders)(hf:P.funcs[f]? =some fn)(H:Hn)(h:Run P fn H (XV · · res outs) args)(hc:OW P fn (mkI H Nh (rgn H) fn):=by kernel_rfl)(hD:lQ fn args.length:=by kernel_rfl)(hn:args.length<=fn.ntmps:=by exact AAQ (by kernel_rfl))(ha:args.all Ju:=by rfl)(hl:outs.length=args.length:=by rfl):BM P f args res outs:=sK hm hf hc hD hn ha hl (h _ _ _ rfl rfl rfl)
theorem kP(hm:P.follows .mixedOrders)(hf:P.funcs[f]? =some fn)(H:Hn)(h:Run P fn H (oO · · res outs) args)(hc:OW P fn (mkI H Nh (rgn H) fn):=by kernel_rfl)(hD:lQ fn args.length:=by kernel_rfl)(hn:args.length<=fn.ntmps:=by exact AAQ (by kernel_rfl))(ha:args.all Ju:=by rfl)(hl:outs.length=args.length:=by rfl):BM P f args res outs:=kM hm hf hc hD hn ha hl (h _ _ _ rfl rfl rfl)
end
end
variable{w:jm}{z:jw}{v:jA}{t tb:j7}{X:List AV->Prop}{k:Nat}
section
open Go.ChangeShapes Go.WideShapes Go.ChangeAt Go.RowKit
def Old(w:jm)(b:Nat):Prop:=b<w.heap.size
def Cells(w:jm)(Ig:jj)(cs:jw):Prop:=Ig.length=cs.length/\∀(i:Nat) a v,Ig[i]? =some a->cs[i]? =some v->Fz w (Old w) a v
theorem Cells.append{e f:jj}{h:jw}(b:Cells w e z)(j:Cells w f h):Cells w (e++f) (z++h):=by refine⟨by simp[b.1,j.1],λi a v d c=>?_⟩;by_cases hi:i<e.length;rw[AAq hi]at d;rw[AAq (by rw[<- b.1];exact hi)]at c;exact b.2 i a v d c;rw[AAp ah]at d;rw[AAp (by rw[<- b.1];omega)]at c;rw[<- b.1]at c;exact j.2 _ a v d c
theorem Cells.nil(w:jm):Cells w [] []:=⟨rfl,λi a v h=>by simp at h⟩
theorem Cells.one(h:Fz w (Old w) x v):Cells w [x] [v]:=by refine⟨rfl,λi d e b c=>?_⟩;cases i with|zero=>simp at b c;subst b;subst c;exact h|succ i=>simp at b
def Light(P:jh)(t:j7)(d:DataW a):Prop:=∀n∈d.weights P t,n<=reachBytes
def Ot(P:jh)(t:j7)(X:List AV->Prop):Prop:=∀(H:Type)(enc:TypeId×Value->H)(w:jm)(fuel:Nat)(cs:jw)(d:DataW H)(ps:List MemPlace),DataW.trod enc P w 0 (λ_=>true) true fuel t cs=some (d,ps)->Light P t d->∃Ig,X Ig/\Cells w Ig cs
theorem Ot.mono{Y:List AV->Prop}(h:Ot P t X)(b:∀a,X a->Y a):Ot P t Y:=by intro H enc w fuel e d k i g;obtain⟨c,j,f⟩:=h H enc w fuel e d k i g;exact⟨c,b _ j,f⟩
theorem tJ{k:IntKind}(h:P.underlying t=some (.int k)):Ot P t (λe=>∃n,e=[.sc (.int k n)]/\(Lit.int k n).wf):=by
 intro H enc w fuel f d i a g;cases fuel with
 |zero=>simp[DataW.trod]at a
 |succ fuel=>
  unfold DataW.trod at a;rw[h]at a;split at a<;>rename_i c<;>try (cases c;done)
  cases c;split at a;rename_i b;obtain⟨rfl,b⟩:=b;exact⟨_,⟨_,rfl,b⟩,Cells.one (.sc _ rfl)⟩;cases a;cases a
theorem Uo{a:Addr}(h:w.cells? 0 a base=some z):z.length=base/\∀(j:Nat) v,z[j]? =some v->w.cell? (a.add j)=some v:=by
 unfold World.cells? at h;rw[AAM (Nat.zero_le _)]at h;have b:=mapM_some_length h;rw[List.length_range]at b;refine⟨b,λj v e=>?_⟩;have d:j<base:=by rw[<- b];exact(AAJ.1 e).1
 have:=mapM_some_get h j j (by simp[d]);rw[this];exact e
theorem dQ{l:List (DataW a)}{d:DataW a}(hd:d∈l)(hn:base∈d.weights P t):base∈DataW.weightsAll P t l:=by
 induction l with
 |nil=>simp at hd
 |cons x l ih=>
  rw[DataW.weightsAll,AAX];rcases AAg.1 hd with rfl|hd
  exact .inl hn;exact .inr (ih hd)
theorem zQ{a:Addr}(h:w.cell? a=some v):a.spot=none/\a.block<w.heap.size:=by unfold World.cell? at h;split at h;(rename_i c e f1 f2 b;refine⟨?_,(AA2.1 b).1⟩;cases hs:a.spot with|none=>rfl|some x=>simp[hs]at h);cases h
theorem eH(h:P.underlying t=some (.slice tb))(hk:P.cellsOf tb=k)(uD:0<k)(he:Ot P tb X):Ot P t (λz=>∃rows,z=[.sl false k rows]/\(∀row∈rows,X row/\row.length=k)/\rows.length*P.bytesOf tb<=reachBytes):=by
 intro H enc w fuel cs d ps l O;cases fuel with
 |zero=>simp[DataW.trod]at l
 |succ fuel=>
  (unfold DataW.trod at l;rw[h]at l;split at l<;>rename_i R<;>try (cases R;done));exact⟨_,⟨[],rfl,ak,ak⟩,Cells.one (.nil _ _ _ _ ak)⟩
  . rename_i U a len cap;obtain rfl:tb=U:=(by simpa using R);simp only[hk]at l;split at l
    . rename_i hc;cases hm:(List.range len).mapM (λi=>(w.cells? 0 (a.add (i*k)) k).bind (DataW.trod enc P w 0 (λ_=>true) true fuel tb))with
      |none=>simp[hm]at l
      |some elems=>
       (rw[hm]at l;simp only[AAG,AAl,AAs,AAZ]at l;obtain⟨q,_,rfl,_⟩:=l;have F:elems.length=len:=by have:=mapM_some_length hm;simpa using this);(have s:∀i,i<len->∃m x z,w.cells? 0 (a.add (i*k)) k=some m/\elems[i]? =some x/\X z/\Cells w z m:=by intro i hi;have:=mapM_some_get hm i i (by simp[hi]);cases T1:w.cells? 0 (a.add (i*k)) k with|none=>rw[T1]at this;have g:elems[i]? =some elems[i]:=AAO ah;rw[g]at this;simp at this|some m=>rw[T1]at this;have g:elems[i]? =some elems[i]:=AAO ah;rw[g,AAG]at this;obtain⟨z,hx,N⟩:=he H enc w fuel m elems[i].1 elems[i].2 this (λn hn=>O n (by rw[DataW.weights,h];simp only[AAg,AAX];exact .inr (.inl (dQ (ABP (AAS ah)) hn))));exact⟨m,_,z,rfl,g,hx,N⟩);(have hw:∃f:Nat->List AV×List Value,∀i,i<len->w.cells? 0 (a.add (i*k)) k=some (f i).2/\X (f i).1/\Cells w (f i).1 (f i).2:=by refine⟨λi=>if hi:i<len then((s i hi).choose_spec.choose_spec.choose,(s i hi).choose)else([],[]),λi hi=>?_⟩;have:=(s i hi).choose_spec.choose_spec.choose_spec;simp only[hi,dif_pos];exact⟨this.1,this.2.2⟩);obtain⟨f,D⟩:=hw;let rows:=(List.range len).map λi=>(f i).1;have I:rows.length=len:=(by simp[rows]);have J:∀i row,rows[i]? =some row->i<len/\row=(f i).1:=(by intro i row u;have hi:i<len:=(by rw[<- I];exact(AAJ.1 u).1);refine⟨hi,?_⟩;simp only[rows,AAU,List.getElem?_range hi,AAr,AAI]at u;exact u.symm);have y:∀i,i<len->(f i).1.length=k:=λi hi=>(by rw[(D i hi).2.2.1];exact(Uo (D i hi).1).1);refine⟨_,⟨rows,rfl,?_,?_⟩,Cells.one ?_⟩;intro row u;obtain⟨i,hi⟩:=List.mem_iff_getElem?.1 u;obtain⟨g,rfl⟩:=J i row hi;exact⟨(D i g).2.1,y i g⟩;have:=O ((elems.map (·.1)).length+(q.map (·.1)).length) |> λ_=>O (((elems.map (·.1)).length+(q.map (·.1)).length)*P.bytesOf tb) (by rw[DataW.weights,h];simp);rw[I];refine ABB (AA1 _ ?_) this;simp[F]
       . by_cases W:len=0;subst W;have o:rows=[]:=List.eq_nil_of_length_eq_zero I;rw[o];exact .nil _ _ _ _ ak
         . (have K:∀i j row c,rows[i]? =some row->row[j]? =some c->∃v,(f i).2[j]? =some v/\w.cell? ((a.add (i*k)).add j)=some v/\Fz w (Old w) c v:=(by intro i j row c g B;obtain⟨r,rfl⟩:=J i row g;have hj:j<(f i).2.length:=(by rw[<- (D i r).2.2.1];exact(AAJ.1 B).1);have C:(f i).2[j]? =some (f i).2[j]:=AAO hj;exact⟨_,C,(Uo (D i r).1).2 j _ C,(D i r).2.2.2 j c _ B C⟩);obtain⟨E,o⟩:∃E,rows[0]? =some E:=⟨rows[0]' ah,AAO _⟩;obtain⟨_,V⟩:=J 0 E o;obtain⟨L,M⟩:∃L,E[0]? =some L:=⟨E[0]'(by rw[V,y 0 (by omega)];exact uD),AAO _⟩;obtain⟨v0,_,Q,_⟩:=K 0 0 E L o M;obtain⟨p,U7⟩:=zQ Q;obtain⟨b,off,T⟩:=a;obtain rfl:T=none:=by unfold Addr.add at p;simp only[AAl]at p;split at p;exact p;cases T<;>simp_all);rw[Addr.add_lit,Addr.add_lit]at U7;have G:=Fz.sl (w:=w) (S:=Old w) false k rows b off cap (λi j=>((f i).2[j]?).getD undef) ak (by rw[I];exact hc.2.1) U7 (by
            intro row u;obtain⟨i,hi⟩:=List.mem_iff_getElem?.1 u;obtain⟨g,rfl⟩:=J i row hi;exact y i g) (by
            intro i j row c g B;obtain⟨v,r,C,_⟩:=K i j row c g B;rw[r];rw[Addr.add_lit,Addr.add_lit]at C;rw[show off+(i*k+j)=off+i*k+j from by omega];exact C) (by
            intro i j row c g B;obtain⟨v,r,_,Z⟩:=K i j row c g B;rw[r];exact Z)
           rw[I]at G;exact G
    . cases l
  . cases l
end
section
open Go.ChangeShapes Go.WideShapes Go.ChangeAt Go.RowKit
def CatX:List (List AV->Prop)->List AV->Prop|[],Ig=>Ig=[]|X::Xs,Ig=>∃a r,Ig=a++r/\X a/\CatX Xs r
def uS(P:jh):List Field->Nat->List (List AV->Prop)->Prop|[],_,[]=>True|f::fs,off,X::Xs=>f.offset=off/\Ot P f.type X/\uS P fs (off+P.cellsOf f.type) Xs|_,_,_=>False
def O0(P:jh):List Field->Nat->Nat|[],off=>off|f::fs,off=>O0 P fs (off+P.cellsOf f.type)
theorem mS{enc:TypeId×Value->a}(b:List Field):∀(off:Nat)(Xs:nc)(k:List (DataW a×List MemPlace)),uS P b off Xs->O0 P b off<=z.length->b.mapM (λf=>DataW.trod enc P w 0 (λ_=>true) true base f.type ((z.drop f.offset).take (P.cellsOf f.type)))=some k->(∀n∈DataW.weightsEach P (b.map (·.type)) (k.map (·.1)),n<=reachBytes)->∃p,CatX Xs p/\Cells w p ((z.drop off).take (O0 P b off-off)):=by induction b with|nil=>(intro off Xs k d i h j;cases Xs with|nil=>exact⟨[],rfl,by simp[O0,Cells.nil]⟩|cons=>exact d.elim)|cons f b ih=>intro off Xs k d i h j;cases Xs with|nil=>exact d.elim|cons X Xs=>obtain⟨u,s,d⟩:=d;rw[List.mapM_cons]at h;cases h1:DataW.trod enc P w 0 (λ_=>true) true base f.type ((z.drop f.offset).take (P.cellsOf f.type))with|none=>simp[h1]at h|some x=>cases h2:b.mapM (λf=>DataW.trod enc P w 0 (λ_=>true) true base f.type ((z.drop f.offset).take (P.cellsOf f.type)))with|none=>simp[h1,h2]at h|some ys=>(simp only[h1,h2,Option.pure_def,Option.bind_eq_bind,AAG,AAI]at h;subst h;simp only[AAd,DataW.weightsEach,AAX]at j;obtain⟨H,t,q⟩:=s a enc w base _ x.1 x.2 h1 (λn hn=>j n (.inl hn));obtain⟨r,v,m⟩:=ih (off+P.cellsOf f.type) Xs ys d (by simpa[O0]using i) h2 (λn hn=>j n (.inr hn));refine⟨H++r,⟨H,r,rfl,t,v⟩,?_⟩;have y:∀(l:List Field)(o:Nat),o<=O0 P l o:=by intro l;induction l with|nil=>intro o;exact AAj _|cons g l ih=>intro o;have:=ih (o+P.cellsOf g.type);simp only[O0];omega);have c:=y b (off+P.cellsOf f.type);have e:(z.drop off).take (O0 P (f::b) off-off)=(z.drop f.offset).take (P.cellsOf f.type)++(z.drop (off+P.cellsOf f.type)).take (O0 P b (off+P.cellsOf f.type)-(off+P.cellsOf f.type)):=(by rw[u,<- List.drop_drop];simp only[O0];rw[show O0 P b (off+P.cellsOf f.type)-off=P.cellsOf f.type+(O0 P b (off+P.cellsOf f.type)-(off+P.cellsOf f.type))from by omega,List.take_add]);rw[e];exact q.append m
theorem mT{b:Array Field}{Xs:nc}(h:P.underlying t=some (.struct b))(k:uS P b.toList 0 Xs)(g:O0 P b.toList 0=P.cellsOf t):Ot P t (CatX Xs):=by intro H enc w fuel j d o a m;cases fuel with|zero=>simp[DataW.trod]at a|succ fuel=>simp only[DataW.trod,h]at a;split at a;(rename_i e;cases hm:b.toList.mapM (λf=>DataW.trod enc P w 0 (λ_=>true) true fuel f.type ((j.drop f.offset).take (P.cellsOf f.type)))with|none=>simp[hm]at a|some xs=>simp only[hm,AAr,AAI,AAZ]at a;obtain⟨rfl,rfl⟩:=a;obtain⟨i,l,c⟩:=mS b.toList 0 Xs xs k (by rw[g,e];exact AAj _) hm (λn hn=>m n (by rw[DataW.weights,h];exact hn));refine⟨i,l,?_⟩;rw[g,<- e]at c;simpa using c);cases a
def iD(P:jh)(t:j7)(Ig:jj):AV:=if(match P.underlying t with|some (.struct _)=>true|some (.array _ _)=>true|_=>false)=true then .agg Ig else Ig.headD .dead
def ArgsX(P:jh):List TypeId->List (List AV->Prop)->List AV->Prop|[],[],as'=>as'=[]|t::ts,X::Xs,as'=>∃Ig r,as'=iD P t Ig::r/\X Ig/\ArgsX P ts Xs r|_,_,_=>False
def uR(P:jh):List TypeId->List (List AV->Prop)->Prop|[],[]=>True|t::ts,X::Xs=>Ot P t X/\uR P ts Xs|_,_=>False
theorem args_open{enc:TypeId×Value->a}(k:List TypeId):∀(Xs:nc)(vs:jw)(ds:List (DataW a)) (I:List MemPlace),uR P k Xs->DataW.TrodAll enc P w 0 (λ_=>true) true k vs ds I->(∀(j:Nat) t v,k[j]? =some t->vs[j]? =some v->Value.okWide P w .any base t v)->(∀n∈DataW.weightsEach P k ds,n<=reachBytes)->∃f:List AV,ArgsX P k Xs f/\f.length=vs.length/\∀(i:Nat) H v,f[i]? =some H->vs[i]? =some v->Fz w (Old w) H v:=by induction k with|nil=>(intro Xs vs ds I l D s B;obtain⟨rfl,rfl,rfl⟩:=trodAll_nil D;cases Xs with|nil=>exact⟨[],rfl,rfl,λi H v h=>by simp at h⟩|cons=>exact l.elim)|cons t k ih=>intro Xs vs ds I l D s B;cases Xs with|nil=>exact l.elim|cons X Xs=>obtain⟨U,l⟩:=l;obtain⟨v,J,d,C,p,q,rfl,rfl,rfl,⟨fuel,O⟩,Q⟩:=trodAll_cons D;simp only[DataW.weightsEach,AAX]at B;obtain⟨x,V,o⟩:=U a enc w fuel _ d p O (λn hn=>B n (.inl hn));obtain⟨r,E,F,G⟩:=ih Xs J C q l Q (λj W Z M K=>s (j+1) W Z (by simpa using M) (by simpa using K)) (λn hn=>B n (.inr hn));have c:=s 0 t v rfl rfl;refine⟨iD P t x::r,⟨x,r,rfl,V,E⟩,by simp[F],?_⟩;intro i H u m z;cases i with|succ i=>simp at m z;exact G i H u m z|zero=>simp only[AAz,AAI]at m z;subst m;subst z;unfold iD;by_cases b:(match P.underlying t with|some (.struct _)=>true|some (.array _ _)=>true|_=>false)=true;(rw[AAM b];obtain⟨y,rfl⟩:∃y,v=.agg y:=by unfold Value.okWide at c;split at c;exact⟨_,c.choose_spec.1⟩;exact⟨_,c.choose_spec.1⟩;rename_i R T;exfalso;split at b;rename_i N g;exact R N g;rename_i n e g;exact T n e g;cases b);have:=Fz.agg (w:=w) (S:=Old w) x y.toList (by rw[o.1];rfl) (λi H v m s=>o.2 i H v m s);simpa using this;(. (rw[AAL b];have L:v.cells.toList=[v]:=by unfold Value.okWide at c;split at c;rename_i g;simp[g]at b;rename_i g;simp[g]at b;(. cases v with|agg y=>(exfalso;unfold Cell.okWide at c;split at c<;>rename_i K<;>try (cases K;done));simp[Cell.ok]at c|_=>rfl));rw[L]at o;obtain⟨H,rfl⟩:∃H,x=[H]:=List.length_eq_one_iff.1 o.1;exact o.2 0 H v rfl rfl)
end
variable{J:jc}{F:ChangeSpec}{W:jm}{o pa pv:List MemPlace}{O:ke}
section
open Go.ChangeShapes Go.WideShapes Go.ChangeAt Go.RowKit
theorem Zv{S:jc}(c:jj):∀(vs:jw),vs.length=c.length->(∀(i:Nat) a v,c[i]? =some a->vs[i]? =some v->∃D:DV,D.er=a/\D.BJ=v/\Ok w S D (λ_=>False))->∃b:List DV,b.map DV.er=c/\b.map DV.BJ=vs/\∀D∈b,Ok w S D (λ_=>False):=by induction c with|nil=>(intro vs h _;cases vs with|nil=>exact⟨[],rfl,rfl,ak⟩|cons=>simp at h)|cons a c ih=>intro vs h e;cases vs with|nil=>simp at h|cons v vs=>(obtain⟨b,d1,f,g⟩:=ih vs (by simpa using h) (λi a v m n=>e (i+1) a v (by simpa using m) (by simpa using n));obtain⟨D,j,k,l⟩:=e 0 a v rfl rfl;refine⟨D::b,by simp[d1,j],by simp[f,k],?_⟩;intro X d;rcases AAg.1 d with rfl|d);exact l;exact g X d
theorem fz_tree(h:Fz w J x v):∃D:DV,D.er=x/\D.BJ=v/\Ok w J D (λ_=>False):=by induction h with|sc v hp=>exact⟨.lf (.sc v) v,ak,ak,.lf _ _ _ ⟨rfl,hp⟩ (λ_ h=>h)⟩|dead v=>exact⟨.lf .dead v,ak,ak,.lf _ _ _ trivial (λ_ h=>h)⟩|nil a k x c hx=>exact⟨.lf (.sl a k []) (.slice x 0 c),ak,ak,.lf _ _ _ (Fz.nil a k x c hx) (λ_ h=>h)⟩|sl a k rows b off c vs hx TQ hS hk hc hr ih=>exact⟨.lf (.sl a k rows) (.slice (some ⟨b,off,none⟩) rows.length c),ak,ak,.lf _ _ _ (Fz.sl a k rows b off c vs hx TQ hS hk hc hr) (λ_ h=>h)⟩|agg cs vs hs h ih=>obtain⟨d,d1,e,f⟩:=Zv cs vs hs ih;exact⟨.agg d,by simp[d1],by simp[e],CY.2 (C5 f)⟩|Bo cs vs hs h ih=>obtain⟨d,d1,e,f⟩:=Zv cs vs hs ih;exact⟨.Bo d,by simp[d1],by simp[e],Bn.2 (C5 f)⟩
section
variable{H:Type}{enc:TypeId×Value->H}{P:jh}
theorem fM{f:Func}{apart fresh h:Bool}{args:kg}{ds l:List (DataW H)}(m:DataW.Whole enc P f.params.toList F.vars apart W args.toList ds l o)(a:∀(b:Nat)(i:ke)(hd:Bool),DataW.TrodAll enc P w b i hd f.resultTypes.toList (v.resultList f.resultTypes.size) (F.fn H (ds++l)).results [])(q:∀i:Nat->Bool,(∀p∈o,i p.block)->DataW.TrodAll enc P w 0 i true f.params.toList args.toList (F.fn H (ds++l)).args pa)(e:∀i:Nat->Bool,(∀p∈o,i p.block)->DataW.TrodVars enc P w i F.vars (F.fn H (ds++l)).vars pv)(g:o=pa++pv)(k:Below W.heap.size W w)(x:∀(j:Nat)(t:j7)(r:jA),f.resultTypes[j]? =some t->(v.resultList f.resultTypes.size)[j]? =some r->Value.okWide P w .any 0 t r):F.post enc P f apart fresh c h W args v w:=by
 have n:∀p∈o,p.block<W.heap.size:=λp d=>m.lt p d;have hold:∀p∈o,(λb=>decide (b<W.heap.size)) p.block:=λp d=>by simpa using n p d
 refine⟨ds,l,o,[],pa,pv,m,a _ _ _,q _ hold,e _ hold,World.keptBut_mono (λp d=>⟨d,?_⟩) (k.frame (· ∈o)),λ_=>?_⟩;rw[g,AAX]at d;exact Or.inr d;obtain⟨_,_,_,_,_,z,hn⟩:=m;refine⟨x,_,_,([]++pa)++pv,⟨[]++pa,pv,trodAll_append (q _ (λ_ _=>rfl)) (a _ _ _),e _ (λ_ _=>rfl),rfl,?_,?_⟩,?_⟩;intro b off d;have u:MemPlace.cell b off∈o:=(by rw[g];simpa using d);rw[k.frozen (n _ u)];exact z b off u;intro y;have:=hn y;rw[g]at this;simpa using this;intro p d _;rw[g];simpa using d
theorem gH(n:laidOutB P)(c:List TypeId):∀{vs:jw}{ds:List (DataW H)} {b:List MemPlace},(∀t∈c,P.readableRec t/\t<P.types.size)->DataW.TrodAll enc P W 0 (λ_=>true) true c vs ds b->(∀p∈b,W.sameAt w p)->(∀p∈b,O p.block)->DataW.TrodAll enc P w 0 O true c vs ds b:=by induction c with|nil=>intro vs ds b _ f _ _;obtain⟨rfl,rfl,rfl⟩:=trodAll_nil f;exact rfl|cons t c ih=>intro vs ds b j f h i;obtain⟨v,o,d,l,p,q,rfl,rfl,rfl,m,g2⟩:=trodAll_cons f;have e:=j t ak;exact⟨p,q,WideElems.Trod_stays n e.1 e.2 m (λx a=>h x (by simp[a])) (λx a=>i x (by simp[a])),ih (λt e=>j t (by simp[e])) g2 (λx a=>h x (by simp[a])) (λx a=>i x (by simp[a])),rfl⟩
theorem mH{g:Func}{Xs:nc}{fresh:Bool}(hv:F.vars=[])(YN:g.resultTypes= #[tb])(G:P.underlying tb=some .bool)(hl:laidOutB P)(PN:∀t∈g.params.toList,P.readableRec t/\t<P.types.size)(hO:uR P g.params.toList Xs)(hS:∀B,ArgsX P g.params.toList Xs B->Says P k B (sb true))(N:∀ds:List (DataW H),ds.length=g.params.toList.length->F.fn H ds={results:=[.lit (.bool true)],args:=ds}){args:kg}{ds gs:List (DataW H)}(CG:∀(j:Nat) t v,g.params[j]? =some t->args[j]? =some v->Value.okWide P W .any base t v)(hW:DataW.Whole enc P g.params.toList F.vars false W args.toList ds gs o)(tW:(DataW.weightsEach P (g.params.toList++F.plain.varTypes P) (ds++gs)).all (· <=reachBytes))(Nb:GI W (Old W)):Calls P k args W λe O=>∃v,e=.returned v/\F.post enc P g false fresh m c W args v O:=by
 have z:=hW;obtain⟨p,q,V,hV,rfl,PT,hnd⟩:=hW;rw[hv]at hV;obtain⟨rfl,rfl⟩:=trodVars_none hV;simp only[ABc]at z tW;have y:ds.length=g.params.toList.length:=by
  have:∀(l:List TypeId){vs:jw}{ds:List (DataW H)} {ps:List MemPlace},DataW.TrodAll enc P W 0 (λ_=>true) true l vs ds ps->ds.length=l.length:=by intro l;induction l with|nil=>intro vs ds ps h;obtain⟨rfl,rfl,rfl⟩:=trodAll_nil h;rfl|cons t l ih=>intro vs ds ps h;obtain⟨v,vs1,d,ds1,p,q,rfl,rfl,rfl,g1,g2⟩:=trodAll_cons h;simp[ih g2]
  exact this _ V
 have I:∀n∈DataW.weightsEach P g.params.toList ds,n<=reachBytes:=by
  have key:∀(l J:List TypeId)(ds:List (DataW H)),ds.length=l.length->DataW.weightsEach P (l++J) ds=DataW.weightsEach P l ds:=by intro l;induction l with|nil=>intro J ds h;obtain rfl:ds=[]:=List.eq_nil_of_length_eq_zero h;cases J<;>rfl|cons t l ih=>intro J ds h;cases ds with|nil=>simp at h|cons d ds=>simp only[AA3,DataW.weightsEach];rw[ih J ds (by simpa using h)]
  rw[key _ _ _ y]at tW;simpa using tW
 obtain⟨B,hX,E,D⟩:=args_open (base:=base) g.params.toList Xs args.toList ds p hO V (λj t v T U=>CG j t v (by simpa using T) (by simpa using U)) I;have LN:∃u:List DV,u.map DV.er=B/\u.map DV.BJ=args.toList/\Kl W (Old W) u (λ_=>False):=by obtain⟨u,d1,Q,R⟩:=Zv (w:=W) (S:=Old W) B args.toList E.symm (λi a v T U=>fz_tree (D i a v T U));exact⟨u,d1,Q,C5 R⟩
 obtain⟨u,d1,Q,R⟩:=LN;have M:=hS B hX W (Old W) u (λ_=>False) Nb d1 (Bn.2 R) (λb L=>L);rw[Q]at M;have Sp:args.toList.toArray=args:=ak;rw[Sp]at M;refine M.mono ?_;rintro e O ⟨r,os,S',F',rfl,K,_,_,C8,C,_⟩;obtain⟨Fa,Fb,mD,_⟩:=Bn.1 C8;have X:r.BJ=.bool true:=by cases mD with|lf a v _ ha hF=>rw[FG]at K;subst K;simpa using ha.1|nil|own=>simp at K|agg|Bo=>simp at K
 have L:Below W.heap.size W O:=⟨C.os,C.tape,C.output,C.size,λf hk=>C.block f hk id⟩;rw[X];refine⟨_,rfl,fM (pa:=p) (pv:=[]) z ?_ ?_ ?_ ak L ?_⟩;intro b sp hd;rw[ABc,N ds y,YN];exact trodAll_cons_mk (shut_bool G _) trodAll_mk0;intro sp s;rw[ABc,N ds y];exact gH hl _ PN V (λx Z=>L.same (z.lt x Z)) (λx Z=>s x Z);intro sp s;rw[ABc,N ds y,hv];exact rfl;exact ok_one YN rfl (okWide_bool_mk G _)
end
end
end Go.Abs
