/- A calculus of abstract states of Go memory, and that it is sound. -/
import Derived.Test.YtdojkofgkcmagaaGreatDoorCoreC
import Derived.Shelf.GgClosure.Gives
import Derived.KernelRfl
import Derived.WalkKit
import Derived.ProofKit
import Derived.OpenShut
import Derived.WideKeyArgs
import Derived.SizedLaws
import Derived.DataReads
import Derived.Below
import Derived.ChangeSame
set_option linter.defProp false
set_option linter.unusedSimpArgs false
set_option linter.unusedVariables false
namespace Go.Abs
variable{t tb o:jo}{pos:Nat}
section
open Go.MapKept
variable{w w':ja}{S S':iu}{G:Gi}{δ:ji}{Fr:iy}{P:iz}
variable{n:Nat}{w0:ja}{S0 U0:iu}{a:Act}{σ:Sg}{μ:Mu}
def okSc(v:jn)(a:G4 v=true)(w:ja)(S:iu):Ok w S (.lf (.sc v) v) (λ_=>False):=.lf _ _ _ ⟨rfl,a⟩ (λ_ h=>h)
theorem okTup(l:jj)(b:∀v∈l,G4 v=true)(w:ja)(S:iu):Ok w S (.BZ (l.map λv=>.lf (.sc v) v)) (λ_=>False):=by refine BK.2 (CZ λD a=> ?_);obtain⟨v,c,rfl⟩:=ABh.1 a;exact okSc v (b v c) w S
theorem alTup(l:jj)(δ:ji):Dr δ (.BZ (l.map λv=>.lf (.sc v) v)):=by refine .BZ _ λi D a=> ?_;obtain⟨v,b,rfl⟩:=ABh.1 (AAg a);exact .lf _ _ trivial
theorem UK{b:ln}{arr:List MapEntry}(h:arr.map (λe=>(e.key,e.val))=b.map λx=>(Value.string x.1,x.2))(s:ABv)(i:Nat):
 (b.find? (λx=>x.1==s)=none/\Instr.findNow .string (.string s) arr i=some none)\/∃x j,b.find? (λx=>x.1==s)=some x/\Instr.findNow .string (.string s) arr i=some (some (j,x.2)):=by
 induction b generalizing arr i with
 |nil=>cases arr with
  |nil=>exact .inl ⟨rfl,rfl⟩
  |cons e r=>simp at h
 |cons x b ih=>
  cases arr with
  |nil=>simp at h
  |cons e r=>
   simp only[AAm,ABt,AAj]at h;obtain⟨⟨d,g⟩,k⟩:=h;by_cases a:(s==x.1)=true
   . have c:(x.1==s)=true:=(by rw[bytes_beq]at a |-;exact a.symm);exact .inr ⟨x,i,by simp[List.find?,c],by simp[Instr.findNow,d,Instr.sameNow,a,g]⟩
   . have c:(x.1==s)=false:=(by rw[<- Bool.not_eq_true,bytes_beq];rw[bytes_beq]at a;exactλe=>a e.symm);have f:(s==x.1)=false:=(by simpa using a);rcases ih k (i+1)with⟨k1,k2⟩|⟨y,j,k1,k2⟩
     . exact .inl ⟨by simp[List.find?,c,k1],by simp[Instr.findNow,d,Instr.sameNow,f,k2]⟩
     . exact .inr ⟨y,j,by simp[List.find?,c,k1],by simp[Instr.findNow,d,Instr.sameNow,f,k2]⟩
theorem run_look{arr:Array MapEntry}{c:Nat}{n:ln}{i:TypeInfo}(p:P.underlying t=some (.map tb o))(d:P.underlying tb=some .string)(r:P.info? o=some i)(u:i.zero=some (.bool false))(q:w.heap[pos]? =some (.map arr c))(v:arr.toList.map (λe=>(e.key,e.val))=n.map λx=>(Value.string x.1,x.2))(s:ABv):
 (Instr.lookup t (.map (some pos)) (.string s) false).run P w= .ok (Nc n s (.bool false)) w:=by
 have m:∀a,(Instr.checkKey a 10000 tb (.string s)).run P w= .ok () w:=λa=>MapKept.run_checkKey d (k:=.string s) (by simp[IsKey]) a 9999;rcases UK v s 0 with⟨g,h⟩|⟨x,j,g,h⟩
 . have f:=run_findKey (w:=w) d h;simp[Instr.lookup,run_underlying p,MapKept.run_getObj_map q,m,f,Nc,g,zeroValue,typeInfo,r,u]
 . have f:=run_findKey (w:=w) d h;simp[Instr.lookup,run_underlying p,MapKept.run_getObj_map q,m,f,Nc,g]
theorem run_upd{n:jo}{arr:Array MapEntry}{c:Nat}{g:ln}(o:P.underlying t=some (.map tb n))(h:P.underlying tb=some .string)(i:w.heap[pos]? =some (.map arr c))(p:arr.toList.map (λe=>(e.key,e.val))=g.map λx=>(Value.string x.1,x.2))(s:ABv)(v:jn)(f:g.all (λx=> !(x.1==s))=true):
 (Instr.mapUpdate t (.map (some pos)) (.string s) v).run P w= .ok () {w with heap:=w.heap.setIfInBounds pos (.map (arr.push {key:=.string s,val:=v,born:=c}) (c+1))}:=by
 have m:(Instr.checkKey false 10000 tb (.string s)).run P w= .ok () w:=MapKept.run_checkKey h (k:=.string s) (by simp[IsKey]) false 9999;rcases UK p s 0 with⟨a,l⟩|⟨x,j,a,l⟩
 . have q:=run_findKey (w:=w) h l;simp[Instr.mapUpdate,run_underlying o,MapKept.run_getObj_map i,m,q,MapKept.run_setObj_map _ i]
 . have r:=ABn a;have u:=List.find?_some a;rw[AAY]at f
   have:=f x r;simp only[u]at this;cases this
end
variable{R:Array Oper}{M:jq}{k:Nat}{j:Func}{args:i5}
section
variable{w w':ja}{S S':iu}{G:Gi}{δ:ji}{Fr:iy}{P:iz}
variable{n:Nat}{w0:ja}{S0 U0:iu}{a:Act}{σ:Sg}{μ:Mu}
theorem Kd.base(h:Kd G n w0 S0 U0 a w σ μ):∃(b:ja)(S1 U1:iu),X4 b S1 U1/\Rel G n b S1 U1 a w σ/\∀c w' σ',Rel G n b S1 U1 c w' σ'->Kd G n w0 S0 U0 c w' σ' μ:=by obtain⟨b,S1,U1,i,e,d,g⟩:=h;exact⟨b,S1,U1,e,g,λc w' σ' f=>⟨b,S1,U1,i,e,d,f⟩⟩
theorem run_mkm(t:jo)(w:ja):(Instr.makeMap t none).run P w= .ok (.map (some w.heap.size)) (w.alloc (.map #[] 0)):=rfl
theorem am_sound(Q:Exit->Act->World->Prop){o:Oper}(ho:R[k]? =some o){x:q7}{Z:List q7}(h:Kd G n w0 S0 U0 a w σ μ)(p:sJ P G n R o x=true)(e:P7 P G (x::Z) M σ μ):wpOp P R Q k (λH w'=>∃σ' l,Kd G n w0 S0 U0 H w' σ' l/\P7 P G Z M σ' l) a w:=by
 have V:o.guard.isNone=true->o.wp P a w (λH w'=>∃σ' l,Kd G n w0 S0 U0 H w' σ' l/\P7 P G Z M σ' l) Q->wpOp P R Q k (λH w'=>∃σ' l,Kd G n w0 S0 U0 H w' σ' l/\P7 P G Z M σ' l) a w:=by
  intro hg hwp;unfold wpOp;rw[ho];have hog:o.guard=none:=by simpa using hg
  simp only;rw[AAb (by simp[Region.wanted,hog])];exact .inl hwp
 cases x with
 |x io=>obtain⟨w1,S1,U1,hG,IG,OX⟩:=h.base;refine wpOp_mono ?_ (mR hG Q ho IG ⟨p,trivial⟩ e);rintro H w' ⟨σ',I,J⟩;exact⟨σ',μ,OX _ _ _ I,J⟩
 |mkm d=>
  simp only[sJ,AAT]at p;obtain⟨⟨z,g2⟩,f⟩:=p;refine V z ?_;split at f
  . rename_i t y;have q:(execOp a.eval o).run P w= .ok (.value (.map (some w.heap.size))) (w.alloc (.map #[] 0)):=(by simp only[execOp,y,Option.map_none,Sem.run_bind,run_mkm,Result.andThen_ok,Sem.run_pure]);unfold Oper.wp;rw[q,Oper.upon_value];have I:=h.turn (w':=w.alloc (.map #[] 0)) (b:=w.heap.size) (o':=.mp []) (ob':=.map #[] 0) (.inr rfl) rfl rfl rfl (by show w.heap.size<=(w.heap.push _).size;rw[Array.size_push];omega) (λc p _=>(MapKept.heap_alloc w _).2 c p) (MapKept.heap_alloc w _).1 ⟨#[],0,rfl,rfl⟩;obtain⟨σ',C,E⟩:=I.D4 (o:=o) g2 (D:=.lf (.sc (.map (some w.heap.size))) (.map (some w.heap.size))) (okSc _ rfl) (λ_=>.lf _ _ trivial) (by simpa using e w.heap.size h.fresh);exact⟨σ',_,by simpa using C,E⟩
  . cases f
 |lkp g d m k=>
  simp only[sJ,AAT]at p;obtain⟨⟨z,g2⟩,f⟩:=p;obtain⟨w1,S1,U1,hG,IG,OX⟩:=h.base;refine Qc IG g2 z Q ?_ (λH _ jM J=>⟨_,μ,OX _ _ _ jM,J⟩) (gM_gd e) ho;intro F;split at f
  . rename_i t m' k' y;simp only[AAT]at f;obtain⟨⟨N,L⟩,r⟩:=f;unfold lkpK at F;split at F
    . rename_i b s hm J;split at F
      . rename_i ops B;obtain⟨hp,F⟩:=F;obtain⟨ob,j,arr,c,rfl,W⟩:=h.obj B;unfold X8 at r;split at r
        . rename_i kt et U;simp only[AAT,Bool.not_true,Bool.false_or]at r;obtain⟨O,c5⟩:=r;have XD:P.underlying kt=some .string:=by split at O<;>first|assumption|cases O
          obtain⟨i,hi,K⟩:∃i,P.info? et=some i/\i.zero=some (.bool false):=by
           split at c5
           . rename_i K;cases hi:P.info? et with
             |none=>rw[hi]at K;cases K
             |some i=>rw[hi]at K;exact⟨i,rfl,K⟩
           . cases c5
          have q:(execOp a.eval o).run P w= .ok (.value (Nc ops s (.bool false))) w:=(by simp only[execOp,y,(h.FV N hm).1,(h.FV L J).1,Sem.run_bind,run_look U XD hi K j W s,Result.andThen_ok,Sem.run_pure]);unfold Oper.wp;rw[q,Oper.upon_value];obtain⟨σ',C,E⟩:=h.D4 (o:=o) g2 (D:=.lf (.sc (Nc ops s (.bool false))) (Nc ops s (.bool false))) (okSc _ hp) (λ_=>.lf _ _ trivial) (by simpa using F);exact⟨σ',μ,by simpa using C,E⟩
        . cases r
      . exact F.elim
    . exact F.elim
  . cases f
 |mup m k v=>
  simp only[sJ,AAT]at p;obtain⟨⟨z,g2⟩,f⟩:=p;refine V z ?_;split at f
  . rename_i t m' k' v' y;simp only[AAT]at f;obtain⟨⟨⟨N,L⟩,c2'⟩,r⟩:=f;simp only[P7]at e;unfold mupK at e;split at e
    . rename_i b s u hm J hu;split at e
      . rename_i ops B;obtain⟨LM,e⟩:=e;obtain⟨ob,j,arr,c,rfl,W⟩:=h.obj B;unfold X8 at r;split at r
        . rename_i kt et U;simp only[AAT]at r;have XD:P.underlying kt=some .string:=by have O:=r.1;split at O<;>first|assumption|cases O
          have q:(execOp a.eval o).run P w= .ok .skip {w with heap:=w.heap.setIfInBounds b (.map (arr.push {key:=.string s,val:=u,born:=c}) (c+1))}:=(by simp only[execOp,y,(h.FV N hm).1,(h.FV L J).1,(h.FV c2' hu).1,Sem.run_bind,run_upd U XD j W s u LM,Result.andThen_ok,Sem.run_pure]);unfold Oper.wp;rw[q,Oper.upon_skip];have hd:o.dst=none:=(by obtain⟨S,δ,Fr,hn,_⟩:=h.toRel;exact Ec g2 hn);rw[hd];refine⟨σ,_,h.turn (b:=b) (o':=.mp (rE ops s u)) (ob':=.map (arr.push {key:=.string s,val:=u,born:=c}) (c+1)) (.inl ⟨_,B⟩) rfl rfl rfl ak (λc' _ Me=>(MapKept.heap_set j).2 c' Me) (MapKept.heap_set j).1 ⟨_,_,rfl,?_⟩,e⟩;simp[rE,W]
        . cases r
      . exact e.elim
    . exact e.elim
  . cases f
 |rng d x=>
  simp only[sJ,AAT]at p;obtain⟨⟨z,g2⟩,f⟩:=p;refine V z ?_;split at f
  . rename_i t x' y;simp only[AAT]at f;obtain⟨N,L⟩:=f;have U:P.underlying t=some .string:=by split at L<;>first|assumption|cases L
    simp only[P7]at e;unfold rngK at e;split at e
    . rename_i s X;have q:(execOp a.eval o).run P w= .ok (.value (.pointer (some ⟨w.heap.size,0,none⟩))) (w.iter s 0):=(by simp only[execOp,y,(h.FV N X).1,Sem.run_bind,run_range_string w t s U,Result.andThen_ok,Sem.run_pure]);unfold Oper.wp;rw[q,Oper.upon_value];have I:=h.turn (w':=w.iter s 0) (b:=w.heap.size) (o':=.it s 0) (ob':=.stringIter s 0) (.inr rfl) rfl rfl rfl (by show w.heap.size<=(w.heap.push _).size;rw[Array.size_push];omega) (λc p _=>(MapKept.heap_alloc w _).2 c p) (MapKept.heap_alloc w _).1 rfl;obtain⟨σ',C,E⟩:=I.D4 (o:=o) g2 (D:=.lf (.sc (.pointer (some ⟨w.heap.size,0,none⟩))) (.pointer (some ⟨w.heap.size,0,none⟩))) (okSc _ rfl) (λ_=>.lf _ _ trivial) (by simpa using e w.heap.size h.fresh);exact⟨σ',_,by simpa using C,E⟩
    . exact e.elim
  . cases f
 |nxt d x=>
  simp only[sJ,AAT]at p;obtain⟨⟨z,g2⟩,f⟩:=p;refine V z ?_;split at f
  . rename_i x' y;simp only[P7]at e;unfold nxtK at e;split at e
    . rename_i b X;split at e
      . rename_i s pos T;obtain⟨ob,j,rfl⟩:=h.obj T;split at e
        . rename_i EP;have q:(execOp a.eval o).run P w= .ok (.value (.tuple #[.bool true,.int .i64 pos,.int .i32 (Utf8.decode s pos).1])) (w.iterAt b s (pos+(Utf8.decode s pos).2)):=(by simp only[execOp,y,(h.FV f X).1,Sem.run_bind,Lib.run_next_any_at w b s pos o.type j EP,Result.andThen_ok,Sem.run_pure]);unfold Oper.wp;rw[q,Oper.upon_value];have I:=h.turn (w':=w.iterAt b s (pos+(Utf8.decode s pos).2)) (b:=b) (o':=.it s (pos+(Utf8.decode s pos).2)) (ob':=.stringIter s (pos+(Utf8.decode s pos).2)) (.inl ⟨_,T⟩) rfl rfl rfl (by simp[World.iterAt]) (λc p Me=>(MapKept.heap_set j).2 c Me) (MapKept.heap_set j).1 rfl;obtain⟨σ',C,E⟩:=I.D4 (o:=o) g2 (D:=.BZ ([.bool true,.int .i64 pos,.int .i32 (Utf8.decode s pos).1].map λv=>.lf (.sc v) v)) (okTup _ (by simp[G4])) (alTup _) (by simpa using e);exact⟨σ',_,by simpa using C,E⟩
        . rename_i EP;have q:(execOp a.eval o).run P w= .ok (.value (.tuple #[.bool false])) w:=(by simp only[execOp,y,(h.FV f X).1,Sem.run_bind,Lib.run_next_end_at w b s pos o.type j EP,Result.andThen_ok,Sem.run_pure]);unfold Oper.wp;rw[q,Oper.upon_value];obtain⟨σ',C,E⟩:=h.D4 (o:=o) g2 (D:=.BZ ([.bool false].map λv=>.lf (.sc v) v)) (okTup _ (by simp[G4])) (alTup _) (by simpa using e);exact⟨σ',_,by simpa using C,E⟩
      . exact e.elim
    . exact e.elim
  . cases f
def eH(P:iz)(G:Gi)(n:Nat)(ops:Array Oper):List Oper->List q7->Bool
 |[],[]=>true
 |o::os,x::xs=>sJ P G n ops o x&&eH P G n ops os xs
 |_,_=>false
theorem yI{ops:Array Oper}{K:jq}(Q:Exit->Act->World->Prop)(l:∀a w σ μ,Kd G n w0 S0 U0 a w σ μ->K σ μ->Q .normal a w)(c:List q7):
 ∀(k:Nat){a:Act}{w:ja}{σ:Sg}{μ:Mu},Kd G n w0 S0 U0 a w σ μ->eH P G n ops (ops.toList.drop k) c=true->P7 P G c K σ μ->wpOps P ops Q (List.range' k (ops.size-k)) a w:=by
 induction c with
 |nil=>
  intro k a w σ μ h b f;have g:ops.toList.drop k=[]:=by cases hd:ops.toList.drop k with|nil=>rfl|cons o os=>rw[hd]at b;simp[eH]at b
  have i:ops.size<=k:=by simpa using g
  rw[show ops.size-k=0 from by omega];exact l a w σ μ h f
 |cons x c ih=>
  intro k a w σ μ h b f;cases hd:ops.toList.drop k with
  |nil=>rw[hd]at b;simp[eH]at b
  |cons o os=>rw[hd]at b;simp only[eH,AAT]at b;have g:k<ops.size:=(by have:(ops.toList.drop k).length=os.length+1:=(by rw[hd];rfl);simp at this;omega);have m:ops[k]? =some o:=(by have:(ops.toList.drop k)[0]? =some o:=(by rw[hd];rfl);simpa using this);have e:ops.toList.drop (k+1)=os:=(by have:(ops.toList.drop k).drop 1=os:=(by rw[hd];rfl);rw[List.drop_drop]at this;exact this);rw[show ops.size-k=(ops.size-(k+1))+1 from by omega,List.range'_succ,wpOps_cons];refine wpOp_mono ?_ (am_sound Q m h b.1 f);rintro q w' ⟨σ',p,j,d⟩;exact ih (k+1) j (by rw[e];exact b.2) d
inductive bR where
 |ic (c:IC)
 |cO (xs:List q7)
 |seq (a b:bR)
 |cond (c:Ar) (a b:bR)
 |block (id:Nat) (a:bR)
 |loop (a:bR)
def IV(P:iz)(G:Gi)(n:Nat):Code->bR->Bool
 |c,.ic c'=>G7 P G n c c'
 | .region _ ops false,.cO xs=>eH P G n ops ops.toList xs
 | .seq a b,.seq a' b'=>IV P G n a a'&&IV P G n b b'
 | .cond c a b,.cond c' a' b'=>Cc c c'&&IV P G n a a'&&IV P G n b b'
 | .block id a,.block id' a'=>id==id'&&IV P G n a a'
 | .loop a,.loop a'=>IV P G n a a'
 |_,_=>false
def Exit.aO(next:jq)(Q:Exit->Sg->Mu->Prop):Exit->Sg->Mu->Prop
 | .normal,σ,μ=>next σ μ
 |e,σ,μ=>Q e σ μ
def Exit.Vk(id:Nat)(Q:Exit->Sg->Mu->Prop):Exit->Sg->Mu->Prop
 | .exit i,σ,μ=>if i=id then Q .normal σ μ else Q (.exit i) σ μ
 |e,σ,μ=>Q e σ μ
def wJ(x:AV)(a b:jq)(σ:Sg)(μ:Mu):Prop:=match x with
 | .sc (.bool x)=>if x=true then a σ μ else b σ μ
 |_=>False
def Jp(P:iz)(G:Gi):bR->(Exit->Sg->Mu->Prop)->Sg->Mu->Prop
 | .ic c,Q,σ,μ=>IU P G c (λe σ'=>Q e σ' μ) σ
 | .cO xs,Q,σ,μ=>P7 P G xs (Q .normal) σ μ
 | .seq a b,Q,σ,μ=>Jp P G a (Exit.aO (Jp P G b Q) Q) σ μ
 | .cond c a b,Q,σ,μ=>wJ (ar σ c) (Jp P G a Q) (Jp P G b Q) σ μ
 | .block id a,Q,σ,μ=>Jp P G a (Exit.Vk id Q) σ μ
 | .loop a,Q,σ,μ=>∃I:Nat->Sg->Mu->Prop,(∃n,I n σ μ)/\∀n τ d,I n τ d->Jp P G a (Exit.aO (λτ' ν'=>∃n',n'<n/\I n' τ' ν') Q) τ d
def TiedM(G:Gi)(n:Nat)(w0:ja)(S0 U0:iu)(Q:Exit->Sg->Mu->Prop)(e:Exit)(a:Act)(w:ja):Prop:=∃σ μ,Kd G n w0 S0 U0 a w σ μ/\Q e σ μ
theorem rR(R:P.follows .mixedOrders=true)(c:Code):∀(ic:bR)(Q:Exit->Sg->Mu->Prop)(a:Act)(w:ja)(σ:Sg)(μ:Mu),IV P G n c ic=true->Kd G n w0 S0 U0 a w σ μ->Jp P G ic Q σ μ->c.wp P (TiedM G n w0 S0 U0 Q) a w:=by
 have g:∀(c:Code)(ic:IC)(Q:Exit->Sg->Mu->Prop)(a:Act)(w:ja)(σ:Sg)(μ:Mu),G7 P G n c ic=true->Kd G n w0 S0 U0 a w σ μ->IU P G ic (λe σ'=>Q e σ' μ) σ->c.wp P (TiedM G n w0 S0 U0 Q) a w:=by intro c ic Q a w σ μ f h j;obtain⟨W,S1,U1,M,E,F⟩:=h.base;refine wp_mono (eD M R (m:=0) (a0:=a) c ic _ a w σ f (QY c) (Rw.refl _ _) E j) ?_;rintro e r w' ⟨⟨σ',p,l⟩,_⟩;exact⟨σ',μ,F _ _ _ p,l⟩
 induction c with
 |region id ops d=>
  intro ic Q a w σ μ f h j;cases ic with
  |ic c'=>exact g _ c' Q a w σ μ (by simpa[IV]using f) h j
  |cO xs=>
   cases d with
   |true=>simp[IV]at f
   |false=>
    simp only[IV]at f;refine wp_region ?_
    have:=yI (P:=P) (G:=G) (ops:=ops) (K:=Q .normal) (TiedM G n w0 S0 U0 Q) (λa w σ μ h B=>⟨σ,μ,h,B⟩) xs 0 h (by simpa using f) j;rw[List.range_eq_range'];simpa using this
  |_=>simp[IV]at f
 |seq x y cF ihy=>
  intro ic Q a w σ μ f h j;cases ic with
  |ic c'=>exact g _ c' Q a w σ μ (by simpa[IV]using f) h j
  |seq x' y'=>
   simp only[IV,AAT]at f;refine wp_seq (wp_mono (cF x' _ a w σ μ f.1 h j) ?_);rintro e r w' ⟨σ',o,p,l⟩;cases e with
   |normal=>exact ihy y' Q r w' σ' o f.2 p l
   |_=>exact⟨σ',o,p,l⟩
  |_=>simp[IV]at f
 |cond c x y cF ihy=>
  intro ic Q a w σ μ f h j;cases ic with
  |ic c'=>exact g _ c' Q a w σ μ (by simpa[IV]using f) h j
  |cond c' x' y'=>
   simp only[IV,AAT]at f;obtain⟨⟨J,q⟩,L⟩:=f;simp only[Jp]at j;unfold wJ at j;split at j
   . rename_i b O;have C:a.eval c= .bool b:=(h.FV J O).1;split at j
     . rename_i z;subst z;exact wp_cond_true C (cF x' Q a w σ μ q h j)
     . rename_i v;obtain rfl:b=false:=(by simpa using v);exact wp_cond_false C (ihy y' Q a w σ μ L h j)
   . exact j.elim
  |_=>simp[IV]at f
 |block id x cF=>
  intro ic Q a w σ μ f h j;cases ic with
  |ic c'=>exact g _ c' Q a w σ μ (by simpa[IV]using f) h j
  |block id' x'=>
   simp only[IV,AAT,AAh]at f;obtain⟨rfl,q⟩:=f;refine wp_block (wp_mono (cF x' _ a w σ μ q h j) ?_);rintro e r w' ⟨σ',o,p,l⟩;cases e with
   |exit i=>
    simp only[Exit.inBlock];simp only[Exit.Vk]at l;split
    . rename_i hi;rw[AAb hi]at l;exact⟨σ',o,p,l⟩
    . rename_i hi;rw[AAa hi]at l;exact⟨σ',o,p,l⟩
   |_=>exact⟨σ',o,p,l⟩
  |_=>simp[IV]at f
 |loop x cF=>
  intro ic Q a w σ μ f h j;cases ic with
  |ic c'=>exact g _ c' Q a w σ μ (by simpa[IV]using f) h j
  |loop x'=>
   simp only[IV]at f;obtain⟨I,⟨T,H⟩,U⟩:=j;refine wp_loop_ghost (λk a w=>∃σ μ,Kd G n w0 S0 U0 a w σ μ/\I k σ μ) T ⟨σ,μ,h,H⟩ ?_;rintro k r w' ⟨τ,D,p,N⟩;refine wp_mono (cF x' _ r w' τ D f p (U k τ D N)) ?_;rintro e V X ⟨t,s,q,l⟩;cases e with
   |normal=>obtain⟨S,B,u⟩:=l;exact⟨S,B,t,s,q,u⟩
   |_=>exact⟨t,s,q,l⟩
  |_=>simp[IV]at f
 |_=>
  intro ic Q a w σ μ f h j;cases ic with
  |ic c'=>exact g _ c' Q a w σ μ (by simpa[IV]using f) h j
  |_=>simp[IV]at f
structure FIM where
 c:bR
 g:Gi
 r:List RV
def wF(P:iz)(fn:Func)(I:FIM):Bool:=
 (match fn.body with
 |some c=>IV P I.g fn.ntmps c I.c
 |none=>false)&&O3 P fn.results.toList I.r&&I.g.rt.all (λx=> !x.2.contains x.1)
theorem pQ{I:FIM}{n:AV}(hm:P.follows .mixedOrders=true)(H:P.funcs[pos]? =some j)(U:wF P j I=true)(hn:args.length<=j.ntmps)(O:args.all JA=true)(h:Jp P I.g I.c (λe σ _=>Ends I.g I.r n e σ) (start args) (λ_=>none)):Says P pos args n:=by
 intro w S ds F NM KX L T;subst KX;simp only[wF,AAT]at U;obtain⟨⟨B,Ny⟩,E⟩:=U;split at B
 . rename_i c u;obtain⟨q,y,hd,z,D⟩:l6 w S ds F:=(by cases L with|BZ _ q _ y hd z D=>exact⟨q,y,hd,z,D⟩);have Q:∀(i:Nat) d,ds[i]? =some d->JA d.er=true:=λi d hi=>(by simp only[AAY]at O;exact O _ (ABY (AAg hi)));refine calls_of_wp H u ?_
   let δ:Nat->DV:=λs=>ds.getD s (.lf .un undef)
   have k:∀s,(∃d,ds[s]? =some d/\δ s=d)\/(ds[s]? =none/\δ s= .lf .un undef):=by
    intro s;cases a:ds[s]? with
    |some d=>exact .inl ⟨d,rfl,by simp[δ,a]⟩
    |none=>exact .inr ⟨rfl,by simp[δ,a]⟩
   have X:St I.g w S δ q:=by
    refine⟨λs=> ?_,λs t x=>hd s t x,λs=> ?_,λs=> ?_,xT E⟩
    . rcases k s with⟨d,a,e⟩|⟨a,e⟩
      . rw[e];exact y s d a
      . rw[e];exact .lf _ _ _ rfl λx p=>by obtain⟨d,hd⟩:=z s x p;rw[a]at hd;cases hd
    . rcases k s with⟨d,a,e⟩|⟨a,e⟩
      . rw[e];exact Yg (y s d a).Lh (Q s d a)
      . rw[e];exact .lf _ _ trivial
    . rcases k s with⟨d,a,e⟩|⟨a,e⟩
      . rw[e];exact Vi (Q s d a)
      . rw[e];simp
   have K:(λs=>(δ s).er)=start (ds.map DV.er):=by
    funext s;unfold start;rcases k s with⟨d,a,e⟩|⟨a,e⟩
    . simp[e,a]
    . simp[e,a]
   have hn':ds.length<=j.ntmps:=(by simpa using hn);have IG:Rel I.g j.ntmps w S F {tmps:=(ds.map DV.A0).toArray++Array.replicate (j.ntmps-(ds.map DV.A0).toArray.size) undef,defers:=[]} w (start (ds.map DV.er)):=(by refine⟨S,δ,q,an,rfl,λs=>Y3 ds j.ntmps s,K,X,Nx.less λx ⟨s,p⟩=>(D x).2 ⟨s,p⟩,T⟩);have m:=Kd.start ⟨NM,λb u=>⟨λH=>L.FQ b H u,T b u⟩⟩ IG;refine wp_mono (rR hm c I.c _ _ w _ _ B m h) ?_;rintro e a' o ⟨σ,μ,J,V⟩;obtain⟨S1,δ1,F1,hn1,M,TV,rfl,FZ,l,EP⟩:=J.toRel;have G:=vW V;obtain⟨_,vs,τ,ZF,UX⟩:=V;obtain⟨Z,FD,g1,g2,g3,g4,_⟩:=KD j.results.toList FZ TV Ny ZF;have hO:KT o S1 (ds.map λd=>DV.lf .dead d.A0) (λ_=>False):=(by refine CZ λd hd=> ?_;obtain⟨x,_,rfl⟩:=ABh.1 hd;exact .lf _ _ _ trivial (λ_ h=>h));have C:∃v,(results j a'.tmps).run P o= .ok v o/\∃(r:DV)(os:jl)(S' N:iu),Ending.returned v= .returned r.A0/\r.er=n/\os.map DV.er=((ds.map DV.er).map λ_=>AV.dead)/\os.map DV.A0=ds.map DV.A0/\
    Ok o S' (.BZ (r::os)) N/\Ext w o F/\(∀b,S b->S' b)/\(∀b,S' b->S b\/F b\/w.heap.size<=b)/\(∀b,S' b->b<o.heap.size)/\(∀x,N x->F x\/w.heap.size<=x):=
    ⟨_,VQ g2,QE Z,ds.map λd=>DV.lf .dead d.A0,S1,FD,rfl,by rw[Us,g1,UX],ak,ak,BK.2 ⟨FD,λ_=>False,PU g3,hO,λ_ _ h=>h,λx=>ak⟩,⟨l.os,l.tape,l.output,l.size,l.block⟩,l.sub,l.sup,EP,λx p=>l.own x (g4 x p)⟩
   obtain⟨v,W,R⟩:=C;rcases G with rfl|rfl
   . exact⟨M,v,W,R⟩
   . exact⟨M,v,W,R⟩
 . cases B
end
variable{l:ABv}{ic:bR}{σ:Sg}
section
variable{P:iz}{G:Gi}
def awpM_ic(c:IC)(Q:Exit->Sg->Mu->Prop)(σ:Sg)(a:Mu):Jp P G (.ic c) Q σ a=IU P G c (λe σ'=>Q e σ' a) σ:=(rfl)
def yY(a:List q7)(Q:Exit->Sg->Mu->Prop)(σ:Sg)(b:Mu):Jp P G (.cO a) Q σ b=P7 P G a (Q .normal) σ b:=(rfl)
def mO(a b:bR)(Q:Exit->Sg->Mu->Prop)(σ:Sg)(c:Mu):Jp P G (.seq a b) Q σ c=Jp P G a (Exit.aO (Jp P G b Q) Q) σ c:=(rfl)
def Yi(c:Ar)(a b:bR)(Q:Exit->Sg->Mu->Prop)(σ:Sg)(d:Mu):Jp P G (.cond c a b) Q σ d=wJ (ar σ c) (Jp P G a Q) (Jp P G b Q) σ d:=(rfl)
def rP(b:Nat)(a:bR)(Q:Exit->Sg->Mu->Prop)(σ:Sg)(c:Mu):Jp P G (.block b a) Q σ c=Jp P G a (Exit.Vk b Q) σ c:=(rfl)
def pV(next:jq)(Q:Exit->Sg->Mu->Prop)(σ:Sg)(a:Mu):Exit.aO next Q .normal σ a=next σ a:=(rfl)
def seqM_exit(next:jq)(Q:Exit->Sg->Mu->Prop)(a:Nat)(σ:Sg)(b:Mu):Exit.aO next Q (.exit a) σ b=Q (.exit a) σ b:=(rfl)
def seqM_ret(next:jq)(Q:Exit->Sg->Mu->Prop)(σ:Sg)(a:Mu):Exit.aO next Q .ret σ a=Q .ret σ a:=(rfl)
def bX(b:Nat)(Q:Exit->Sg->Mu->Prop)(σ:Sg)(a:Mu):Exit.Vk b Q .normal σ a=Q .normal σ a:=(rfl)
def WY(b i:Nat)(Q:Exit->Sg->Mu->Prop)(σ:Sg)(a:Mu):Exit.Vk b Q (.exit i) σ a=if i=b then Q .normal σ a else Q (.exit i) σ a:=(rfl)
def rV(b:Nat)(Q:Exit->Sg->Mu->Prop)(σ:Sg)(a:Mu):Exit.Vk b Q .ret σ a=Q .ret σ a:=(rfl)
def ams_nil(K:jq)(σ:Sg)(a:Mu):P7 P G [] K σ a=K σ a:=(rfl)
def ams_x(o:mC)(l:List q7)(K:jq)(σ:Sg)(a:Mu):P7 P G (.x o::l) K σ a=ML P G [o] (λσ'=>P7 P G l K σ' a) σ:=(rfl)
def ams_mkm(d:D3)(l:List q7)(K:jq)(σ:Sg)(a:Mu):P7 P G (.mkm d::l) K σ a=∀b,a b=none->C2 (some d) (.sc (.map (some b))) (λσ'=>P7 P G l K σ' (Dn a b (some (.mp [])))) σ:=(rfl)
def ams_lkp(g:jc)(d:D3)(m k:Ar)(l:List q7)(K:jq)(σ:Sg)(a:Mu):P7 P G (.lkp g d m k::l) K σ a=gM g d (λσ=>lkpK (ar σ m) (ar σ k) a d (λσ'=>P7 P G l K σ' a) σ) (λσ'=>P7 P G l K σ' a) σ:=(rfl)
def ams_mup(m k v:Ar)(l:List q7)(K:jq)(σ:Sg)(a:Mu):P7 P G (.mup m k v::l) K σ a=mupK (ar σ m) (ar σ k) (ar σ v) a (λb=>P7 P G l K σ b):=(rfl)
def ams_rng(d:D3)(x:Ar)(l:List q7)(K:jq)(σ:Sg)(a:Mu):P7 P G (.rng d x::l) K σ a=rngK (ar σ x) d (P7 P G l K) σ a:=(rfl)
def ams_nxt(d:D3)(x:Ar)(l:List q7)(K:jq)(σ:Sg)(a:Mu):P7 P G (.nxt d x::l) K σ a=nxtK (ar σ x) d (P7 P G l K) σ a:=(rfl)
def gM_some(s:Nat)(a:Bool)(d:D3)(A K:iv)(σ:Sg):gM (some (s,a)) d A K σ=gK (σ s) a A (λσ=>K (Dn (Jl d.kl d.d σ) d.d .un)) σ:=(rfl)
def lkpV(x:ABu MO)(s:ABv)(d:D3)(K:iv)(σ:Sg):Prop:=match x with
 |some (.mp es)=>G4 (Nc es s (.bool false))=true/\C2 (some d) (.sc (Nc es s (.bool false))) K σ
 |_=>False
def lkpK_at(b:Nat)(s:ABv)(a:Mu)(d:D3)(K:iv)(σ:Sg):lkpK (.sc (.map (some b))) (.sc (.string s)) a d K σ=lkpV (a b) s d K σ:=(rfl)
def lkpV_mp(a:ln)(s:ABv)(d:D3)(K:iv)(σ:Sg):lkpV (some (.mp a)) s d K σ=(G4 (Nc a s (.bool false))=true/\C2 (some d) (.sc (Nc a s (.bool false))) K σ):=(rfl)
def mupV(x:ABu MO)(b:Nat)(s:ABv)(u:jn)(μ:Mu)(K:Mu->Prop):Prop:=match x with
 |some (.mp es)=>es.all (λx=> !(x.1==s))=true/\K (Dn μ b (some (.mp (rE es s u))))
 |_=>False
def mupK_at(b:Nat)(s:ABv)(u:jn)(a:Mu)(K:Mu->Prop):mupK (.sc (.map (some b))) (.sc (.string s)) (.sc u) a K=mupV (a b) b s u a K:=(rfl)
def mupV_mp(a:ln)(b:Nat)(s:ABv)(u:jn)(c:Mu)(K:Mu->Prop):mupV (some (.mp a)) b s u c K=(a.all (λx=> !(x.1==s))=true/\K (Dn c b (some (.mp (rE a s u))))):=(rfl)
def rngK_s(s:ABv)(d:D3)(K:jq)(σ:Sg)(a:Mu):rngK (.sc (.string s)) d K σ a=∀b,a b=none->C2 (some d) (.sc (.pointer (some ⟨b,0,none⟩))) (λσ'=>K σ' (Dn a b (some (.it s 0)))) σ:=(rfl)
def nxtV(x:ABu MO)(b:Nat)(d:D3)(K:jq)(σ:Sg)(μ:Mu):Prop:=match x with
 |some (.it s pos)=>if pos<s.size then C2 (some d) (.BZ [.sc (.bool true),.sc (.int .i64 pos),.sc (.int .i32 (Utf8.decode s pos).1)]) (λσ'=>K σ' (Dn μ b (some (.it s (pos+(Utf8.decode s pos).2))))) σ
  else C2 (some d) (.BZ [.sc (.bool false)]) (λσ'=>K σ' μ) σ
 |_=>False
def nxtK_at(b:Nat)(d:D3)(K:jq)(σ:Sg)(a:Mu):nxtK (.sc (.pointer (some ⟨b,0,none⟩))) d K σ a=nxtV (a b) b d K σ a:=(rfl)
theorem Hs(b:Nat)(d:D3)(K:jq)(σ:Sg)(a:Mu)(h:pos<l.size):nxtV (some (.it l pos)) b d K σ a=C2 (some d) (.BZ [.sc (.bool true),.sc (.int .i64 pos),.sc (.int .i32 (Utf8.decode l pos).1)]) (λσ'=>K σ' (Dn a b (some (.it l (pos+(Utf8.decode l pos).2))))) σ:=by simp[nxtV,h]
theorem Gp(b:Nat)(d:D3)(K:jq)(σ:Sg)(a:Mu)(h:¬pos<l.size):nxtV (some (.it l pos)) b d K σ a=C2 (some d) (.BZ [.sc (.bool false)]) (λσ'=>K σ' a) σ:=by simp[nxtV,h]
def yW{Q:Exit->Sg->Mu->Prop}{f:Mu}(I:m9)(n:Nat)(h:I n σ f)(b:∀n τ g,I n τ g->Jp P G ic (Exit.aO (λd c=>∃e,e<n/\I e d c) Q) τ g):Jp P G (.loop ic) Q σ f:=⟨I,⟨n,h⟩,b⟩
attribute [go_sem] awpM_ic yY mO Yi rP pV seqM_exit seqM_ret bX WY rV ams_nil ams_x ams_mkm ams_lkp ams_mup ams_rng ams_nxt gM_some lkpK_at lkpV_mp mupK_at mupV_mp rngK_s nxtK_at
end
section
open Go.Proofs Go.Sort Go.RowKit
variable{P:iz}
theorem iM{g:Nat}{q:Int->Int->Bool}(B:∀(lb:jt)(p:Int->Bool)(s off cap:Nat)(d:Array Int)(w:ja),PredAt P g lb (Value.int .i64) p w->PredOver P g lb (Value.int .i64) p s off d.size w->Holds (Value.int .i64) w s off d->d.size<=9223372036854775807->d.size<=cap->
  Calls P pos #[.slice (some ⟨s,off,none⟩) d.size cap,.func (.func g) #[] lb] w λe w'=>e= .returned (.slice (some ⟨s,off,none⟩) (d.toList.filter λx=> !p x).length cap)/\∃q,w'=putRow (Value.int .i64) (Sort.ahead w q) s off ((d.toList.filter λx=> !p x)++List.replicate (d.size-(d.toList.filter λx=> !p x).length) (0:Int)).toArray)(l:∀(b off:Nat)(n x:Int)(W:ja),W.cell? ⟨b,off,none⟩=some (.int .i64 n)->FnGives P g #[.pointer (some ⟨b,off,none⟩)] #[.int .i64 x] (.bool (q n x)) W)(zs:iq)(n:Int)(Me:zs≠[])(hl:zs.length<4611686018427387904):Says P pos [.own false 1 (ints zs),.YA g [[si n]]] (.own false 1 (ints (zs.filter λx=> !q n x))):=by
 intro w S ds F _ H M R;obtain⟨d,e,rfl⟩:∃d e,ds=[d,e]:=by
  have D:ds.length=2:=by simpa using congrArg List.length H
  clear H M
  match ds,D with
  |[d,e],_=>exact⟨d,e,rfl⟩
 simp only[AAm,AA2,ABt,and_true]at H;obtain⟨hd,C⟩:=H;obtain⟨F1,F2,h1,⟨F3,F4,h3,h4,_,h6⟩,Dd,h5⟩:=BK.1 M;obtain⟨v,rfl⟩:∃v,e= .lf (.YA g [[si n]]) v:=by
  cases e with
  |lf a v=>rw[Eb]at C;exact⟨v,by rw[C]⟩
  |own=>simp at C
  |agg=>simp at C
  |BZ=>simp at C
 cases h3 with
 |lf _ _ _ qM hF3=>
 obtain⟨vs,rfl,L,J⟩:=qM;obtain⟨u,rfl⟩:∃u,vs=[u]:=by
  match vs,L with
  |[u],_=>exact⟨u,rfl⟩
 obtain⟨j,o,rfl,k,Z⟩:=J 0 [si n] u rfl rfl;obtain⟨u',G,Ou⟩:=Z 0 (si n) rfl;cases Ou;have X:=R j k;rcases Zf h1 hd with⟨I,rfl,LM⟩|⟨b,c,arr,E,I,T,hc,SE,N,hz,O⟩
 . exact absurd rfl Me
 . have t:j≠b:=λe=>N (e▸k);have Q:∀x,F x↔F1 x:=λx=>by
    rw[h5 x];refine⟨λh=>h.elim id λh=> ?_,.inl⟩;rcases(h6 x).1 h with h|h
    . exact absurd h (hF3 x)
    . exact absurd h (h4 x)
   simp only[AAm,AA2,I,Kn];have hp:PredAt P g #[.pointer (some ⟨j,o,none⟩)] (Value.int .i64) (q n) w:=λW x hB=>l j o n x W (by rw[hB.cell (p:=⟨j,o,none⟩) X];exact G);have K:PredOver P g #[.pointer (some ⟨j,o,none⟩)] (Value.int .i64) (q n) b 0 zs.toArray.size w:=λm os dk x hdk=>l j o n x _ (by rw[World.cell?_of_block (w:=w) (a:=⟨j,o,none⟩) (by show(sortWorld _ w b 0 m dk os).heap[j]? =w.heap[j]?;unfold sortWorld;rw[heap_grow_old _ _ (by simpa[putRow,mapBlock,Sort.ahead]using X)];simp[putRow,mapBlock,Sort.ahead,Array.getElem?_modify,Ne.symm t])];exact G);refine(B #[.pointer (some ⟨j,o,none⟩)] (q n) b 0 c zs.toArray w hp K (Ta T hz) (by simpa using by omega) (by simpa using SE)).mono ?_;rintro e w' ⟨rfl,m,rfl⟩;simp only[List.size_toArray]at*;have hle:(zs.filter λx=> !q n x).length<=zs.length:=List.length_filter_le ..;have HT:((zs.filter λx=> !q n x)++List.replicate (zs.length-(zs.filter λx=> !q n x).length) (0:Int)).length=zs.length:=an;have U:=Y9 (n:=m) (os:= #[]) ((zs.filter λx=> !q n x)++List.replicate (zs.length-(zs.filter λx=> !q n x).length) 0).toArray T;have r:=iY (w:=w) (n:=m) (os:= #[]) (g:=b) (F:=F) ((zs.filter λx=> !q n x)++List.replicate (zs.length-(zs.filter λx=> !q n x).length) 0).toArray ((Q b).2 ((O b).2 rfl));rw[grow_empty]at U r;obtain⟨d',k1,k2,k3⟩:=YH (S:=S) (c:=c) (zs:=zs.filter λx=> !q n x) U (by simp[putCells,hc]) ah N (λi z hi=>uP ((zs.filter λx=> !q n x)++List.replicate (zs.length-(zs.filter λx=> !q n x).length) 0) (by rw[HT];omega) i z (by rw[AA0 (AAV.1 hi).1];exact hi));refine⟨d',[.lf .dead d.A0,.lf .dead (.func (.func g) #[] #[.pointer (some ⟨j,o,none⟩)])],S,λx=>x=b,by rw[k2],k1,ak,by simp[I],?_,r,λ_ h=>h,λ_ h=>.inl h,λx r=> ?_,λx r=>.inl ((Q x).2 ((O x).2 r))⟩
   . refine BK.2 ⟨_,λ_=>False,k3,CZ λy V=> ?_,λ_ _ h=>h,λx=>ak⟩;simp only[AAr,ABL,ABK]at V;rcases V with rfl|rfl<;>exact .lf _ _ _ trivial (λ_ h=>h)
   . have:=R x r;simpa[putRow,mapBlock,Sort.ahead]using this
end
variable{a b:Type}{i:Int}{p C:Prop}{c m:Bool}{K N B q:iv}{Q:Exit->Sg->Prop}{τ:Sg}{Z:lw}{x:AV}{E:jq}{D:bR}
section
variable{P:iz}{G:Gi}
def zS(a b:IC):IC:=.seq a b
def BT:Nat:=18446744073709551616
abbrev Bq(s:ABv):AV:=.sc (.string s)
abbrev A6(n:Int):Int:=IntKind.i64.wrap n
abbrev w8(n:Int):Int:=IntKind.u8.wrap n
def gt(l:List a)(i:Int):ABu a:=if 0<=i then l[i.toNat]? else none
def sgt(s:ABv)(i:Int):ABu UInt8:=if 0<=i then s[i.toNat]? else none
theorem gt_bind{l:List b}{f:b->ABu a}{r:a}(h:(gt l i).bind f=some r):∃x,l[i.toNat]? =some x/\0<=i/\i<(l.length:Int)/\i.toNat<l.length/\f x=some r:=by
 unfold gt at h;by_cases c:0<=i
 . rw[AAb c]at h;cases hx:l[i.toNat]? with
   |none=>simp[hx]at h
   |some x=>have:=(AAV.1 hx).1;exact⟨x,rfl,c,ah,this,by simpa[hx]using h⟩
 . simp[c]at h
theorem sgt_bind{f:UInt8->ABu b}{r:b}(h:(sgt l i).bind f=some r):∃x,l[i.toNat]? =some x/\0<=i/\f x=some r:=by
 unfold sgt at h;by_cases a:0<=i
 . rw[AAb a]at h;cases hx:l[i.toNat]? with
   |none=>simp[hx]at h
   |some x=>exact⟨x,rfl,a,by simpa[hx]using h⟩
 . simp[a]at h
theorem gB{l:List a}{f:a->ABu b}{r:b}(h:(gt l i).bind f=some r):∃x,(l[i.toNat]? =some x/\0<=i/\i<(l.length:Int)/\i.toNat<l.length)/\f x=some r:=by obtain⟨x,g,j,c,d,e⟩:=gt_bind h;exact⟨x,⟨g,j,c,d⟩,e⟩
theorem sgB{f:UInt8->ABu a}{r:a}(h:(sgt l i).bind f=some r):∃x,(l[i.toNat]? =some x/\0<=i)/\f x=some r:=by obtain⟨x,c,b,e⟩:=sgt_bind h;exact⟨x,⟨c,b⟩,e⟩
theorem bind_some{a b:Type}{o:ABu a}{f:a->ABu b}{r:b}(h:o.bind f=some r):∃x,o=some x/\f x=some r:=by
 cases o with
 |none=>simp at h
 |some x=>exact⟨x,rfl,h⟩
theorem KA[Decidable p]{c:ABu a}{r:a}(h:(if p then c else none)=some r):p/\c=some r:=by
 by_cases b:p
 . rw[AAb b]at h;exact⟨b,h⟩
 . rw[AAa b]at h;cases h
def bS{o:ABu a}{f:a->ABu b}{r:b}(h:o.bind f=some r):∃x,o=some x/\f x=some r:=bind_some h
def cS[Decidable p]{a:ABu b}{r:b}(h:(if p then a else none)=some r):p/\a=some r:=KA h
theorem ifT{d b r:a}(e:c=true)(h:(if c=true then d else b)=r):d=r:=by rw[AAb e]at h;exact h
theorem ifF{d b r:a}(e:c=false)(h:(if c=true then d else b)=r):b=r:=by rw[AAa (by rw[e];decide)]at h;exact h
def Et{r:a}(h:(none:ABu a)=some r):C:=nomatch h
theorem bool_sp(c:Bool):c=true\/c=false:=by cases c<;>simp
theorem acase2{e b:ABu a}{x:a}(h:(if(i==0)=true then e else if(i==1)=true then b else none)=some x):(i=0/\e=some x)\/(i=1/\b=some x):=by
 by_cases c:i=0
 . subst c;exact .inl ⟨rfl,by simpa using h⟩
 . by_cases d:i=1
   . subst d;exact .inr ⟨rfl,by simpa using h⟩
   . simp[c,d]at h
theorem condK_sp(d:c=true->K σ)(e:c=false->N σ):UG (.sc (.bool c)) K N σ:=by
 cases c with
 |true=>rw[wI];exact d rfl
 |false=>rw[wH];exact e rfl
theorem gK_sp(e:c=true->gK (.sc (.bool true)) m K N σ)(f:c=false->gK (.sc (.bool false)) m K N σ):gK (.sc (.bool c)) m K N σ:=by
 cases c with
 |true=>exact e rfl
 |false=>exact f rfl
def cI{x y z:a}(h:(if c=true then x else y)=z)(d:c=true->x=z->K σ)(f:c=false->y=z->N σ):UG (.sc (.bool c)) K N σ:=
 condK_sp (λe=>d e (ifT e h)) λe=>f e (ifF e h)
def gI{x y z:a}(h:(if c=true then x else y)=z)(f:c=true->x=z->gK (.sc (.bool true)) m K N σ)(g:c=false->y=z->gK (.sc (.bool false)) m K N σ):gK (.sc (.bool c)) m K N σ:=
 gK_sp (λe=>f e (ifT e h)) λe=>g e (ifF e h)
theorem awp_cut{a b:IC}(c:IU P G a (Exit.Sf K Q) σ)(d:∀τ,K τ->IU P G b Q τ):IU P G (zS a b) Q σ:=by
 unfold zS;rw[wB];refine mQ ?_ c;intro e τ h;cases e with
 |normal=>exact d τ h
 |_=>exact h
def Imp(A B:iv):Prop:=∀τ,A τ->B τ
theorem gBk{l:List a}{f:a->ABu b}{r:b}(h:(gt l i).bind f=some r)(k:∀x,((∀n,i.toNat=n->l[n]? =some x)/\(∀n,i.toNat=n->n<l.length)/\0<=i/\i<(l.length:Int))->f x=some r->C):C:=by obtain⟨x,⟨d,g,j,m⟩,c⟩:=gB h;exact k x ⟨λn e=>e▸d,λn e=>e▸m,g,j⟩ c
theorem gBe{l:List a}{f:a->ABu b}{r:b}{x:a}(h:(gt l i).bind f=some r)(g:(∀n,i.toNat=n->l[n]? =some x)/\(∀n,i.toNat=n->n<l.length)/\0<=i/\i<(l.length:Int))(k:f x=some r->C):C:=by
 have e:gt l i=some x:=by unfold gt;rw[AAb g.2.2.1];exact g.1 _ rfl
 rw[e]at h;exact k h
theorem gBm(e:a->List AV){d:a}{l:List a}{f:a->ABu b}{r:b}(h:(gt (d::l) i).bind f=some r)(k:∀x,((∀n rows,i.toNat=n->(d::l).map e=rows->rows[n]? =some (e x))/\(∀n m,i.toNat=n->(d::l).length=m->n<m)/\0<=i/\∀m:Nat,(d::l).length=m->i<(m:Int))->f x=some r->C):C:=by
 obtain⟨x,⟨o,p,q,s⟩,j⟩:=gB h;exact k x ⟨λn rows c g=>by rw[<- c,<- g,AAf,o];rfl,λn m c g=>c▸g▸s,p,λm c=>c▸q⟩ j
theorem bSk{o:ABu a}{f:a->ABu b}{r:b}(h:o.bind f=some r)(k:∀x,o=some x->f x=some r->C):C:=by obtain⟨x,c,d⟩:=bS h;exact k x c d
def bSs{x:a}{f:a->ABu b}{r:b}(h:(some x).bind f=some r)(k:f x=some r->C):C:=k h
theorem cSk[Decidable p]{c:ABu a}{r:a}(h:(if p then c else none)=some r)(k:p->c=some r->C):C:=by obtain⟨c,b⟩:=cS h;exact k c b
theorem bI{x y z:a}(h:(if c=true then x else y)=z)(d:c=true->x=z->C)(b:c=false->y=z->C):C:=by
 cases c with
 |true=>exact d rfl (ifT rfl h)
 |false=>exact b rfl (ifF rfl h)
def cutH{a b:IC}(c:iv)(h:∀M:Sg->Prop,Imp c M->IU P G a (Exit.Sf M Q) σ/\∀τ,c τ->IU P G b Q τ):IU P G (zS a b) Q σ:=
 awp_cut (h c λ_ h=>h).1 (h c λ_ h=>h).2
def O6(n:Nat)(a b:IC):IC:=.seq a b
def cutNH(n:Nat){a b:IC}(c:iv)(h:∀M:Sg->Prop,Imp c M->IU P G a (Exit.Sf M Q) σ/\∀τ,c τ->IU P G b Q τ):IU P G (O6 n a b) Q σ:=cutH c h
def zB{a:IC}(I:lw)(n:Nat)(h:I n σ)(b:∀n τ (N:iv),I n τ->(∀m,m<n->∀c,I m c->N c)->IU P G a (Exit.Sf N Q) τ):IU P G (.loop a) Q σ:=
 awp_loop I n h λn τ e=>b n τ _ e λm f c d=>⟨m,f,d⟩
def Back(n:Nat)(I:lw)(N:iv):Prop:=∀m,m<n->∀τ',I m τ'->N τ'
def impI{A:iv}(m:Imp A B)(h:A τ):B τ:=m τ h
def backI(k:Back (pos+1) Z N)(h:Z pos τ):N τ:=k pos (Nat.lt_succ_self pos) τ h
def oJ{a:IC}(I:lw)(h:I BT σ)(b:∀n τ (N:iv),I n τ->Back n I N->IU P G a (Exit.Sf N Q) τ):IU P G (.loop a) Q σ:=zB I BT h b
theorem gK_mono(i:∀σ,K σ->B σ)(g:∀σ,N σ->q σ)(h:gK x c K N σ):gK x c B q σ:=by
 unfold gK at*;split at h
 . split at h
   . rename_i d;simp only[d,AAy];exact i _ h
   . rename_i d;simp only[d,AAk];exact g _ h
 . exact g _ h
 . exact h.elim
theorem gM_mono{g:jc}{d:D3}{A:iv}(c:∀σ,A σ->N σ)(f:∀σ,K σ->B σ)(h:gM g d A K σ):gM g d N B σ:=by
 cases g with
 |none=>exact c _ h
 |some x=>obtain⟨s,e⟩:=x;exact gK_mono c (λσ i=>f _ i) h
theorem Km(h:∀σ c,M σ c->E σ c):∀{l:List q7}{σ:Sg}{c:Mu},P7 P G l M σ c->P7 P G l E σ c
 |[],_,_,ht=>h _ _ ht
 | .x _::_,_,_,ht=>Ko (λ_ a=>Km h a) ht
 | .mkm _::_,_,_,ht=>λb e=>HZ (λ_ a=>Km h a) (ht b e)
 | .lkp g d m k::l,σ,c,ht=>by
  simp only[P7]at ht |-;refine gM_mono (λσ a=> ?_) (λσ a=>Km h a) ht;unfold lkpK at a |-;split at a
  . split at a
    . exact⟨a.1,HZ (λ_ j=>Km h j) a.2⟩
    . exact a.elim
  . exact a.elim
 | .mup m k v::l,σ,c,ht=>by
  simp only[P7]at ht |-;unfold mupK at ht |-;split at ht
  . split at ht
    . exact⟨ht.1,Km h ht.2⟩
    . exact ht.elim
  . exact ht.elim
 | .rng d x::l,σ,c,ht=>by
  simp only[P7]at ht |-;unfold rngK at ht |-;split at ht
  . exactλb e=>HZ (λ_ a=>Km h a) (ht b e)
  . exact ht.elim
 | .nxt d x::l,σ,c,ht=>by
  simp only[P7]at ht |-;unfold nxtK at ht |-;split at ht
  . split at ht
    . split at ht
      . rename_i f;simp only[f,AAy];exact HZ (λ_ a=>Km h a) ht
      . rename_i f;simp only[f,AAk];exact HZ (λ_ a=>Km h a) ht
    . exact ht.elim
  . exact ht.elim
theorem yX:∀{Q j:Exit->Sg->Mu->Prop}{σ:Sg}{g:Mu},(∀e σ g,Q e σ g->j e σ g)->Jp P G ic Q σ g->Jp P G ic j σ g:=by
 induction ic with
 |ic c=>exactλh d=>mQ (λe σ k=>h e σ _ k) d
 |cO xs=>exactλh d=>Km (h .normal) d
 |seq a b Qf tZ=>
  intro Q j σ g h d;refine Qf (λe σ' l f=> ?_) d;cases e with
  |normal=>exact tZ h f
  |_=>exact h _ _ _ f
 |cond c a b Qf tZ=>
  intro Q j σ g h d;rw[Yi]at d |-;unfold wJ at d |-;split at d
  . split at d
    . rename_i k;simp only[k,AAy];exact Qf h d
    . rename_i k;simp only[k,AAk];exact tZ h d
  . exact d.elim
 |block id a Qf=>
  intro Q j σ g h d;refine Qf (λe σ' l f=> ?_) d;cases e with
  |exit i=>
   rw[WY]at f |-;split
   . rename_i hi;rw[AAb hi]at f;exact h _ _ _ f
   . rename_i hi;rw[AAa hi]at f;exact h _ _ _ f
  |_=>exact h _ _ _ f
 |loop a Qf=>
  intro Q j σ g h d;obtain⟨I,m,p⟩:=d;refine⟨I,m,λn τ q o=>Qf (λe σ' l f=> ?_) (p n τ q o)⟩;cases e with
  |normal=>exact f
  |_=>exact h _ _ _ f
def nC(a b:bR):bR:=.seq a b
theorem awpM_cut{Q:Exit->Sg->Mu->Prop}{d:Mu}(f:Jp P G ic (Exit.aO M Q) σ d)(g:∀τ c,M τ c->Jp P G D Q τ c):Jp P G (nC ic D) Q σ d:=by
 unfold nC;rw[mO];refine yX ?_ f;intro e τ c h;cases e with
 |normal=>exact g τ c h
 |_=>exact h
def ImpM(A B:jq):Prop:=∀τ d,A τ d->B τ d
def nF{Q:Exit->Sg->Mu->Prop}(c:jq){d:Mu}(h:∀M:Sg->Mu->Prop,ImpM c M->Jp P G ic (Exit.aO M Q) σ d/\∀τ e,c τ e->Jp P G D Q τ e):Jp P G (nC ic D) Q σ d:=
 awpM_cut (h c λ_ _ h=>h).1 (h c λ_ _ h=>h).2
def rQ{Q:Exit->Sg->Mu->Prop}{g:Mu}(I:m9)(n:Nat)(h:I n σ g)(b:∀n τ f (N:jq),I n τ f->(∀m,m<n->∀d c,I m d c->N d c)->Jp P G ic (Exit.aO N Q) τ f):Jp P G (.loop ic) Q σ g:=
 yW I n h λn τ f i=>b n τ f _ i λm j d c e=>⟨m,j,e⟩
def BackM(n:Nat)(I:m9)(N:jq):Prop:=∀m,m<n->∀τ' ν',I m τ' ν'->N τ' ν'
def loopMH{Q:Exit->Sg->Mu->Prop}{c:Mu}(I:m9)(h:I BT σ c)(b:∀n τ d (N:jq),I n τ d->BackM n I N->Jp P G ic (Exit.aO N Q) τ d):Jp P G (.loop ic) Q σ c:=rQ I BT h b
def tv(s:ABv):ABv×Value:=(s,.bool true)
theorem look_set(l:jf)(s:ABv):Nc (l.map tv) s (.bool false)= .bool (l.any λx=>x==s):=by
 induction l with
 |nil=>rfl
 |cons x l ih=>
  unfold Nc at ih |-;rw[AAm,List.find?_cons,List.any_cons];cases hx:(tv x).1==s with
  |true=>simp[show(x==s)=true from hx,tv]
  |false=>simp only[show(x==s)=false from hx,Bool.false_or];exact ih
theorem all_set(l:jf)(s:ABv):((l.map tv).all λx=> !(x.1==s))= !(l.any λx=>x==s):=by
 induction l with
 |nil=>rfl
 |cons x l ih=>rw[AAm,ABF,List.any_cons,ih];simp[tv]
theorem add_set(l:jf)(s:ABv):rE (l.map tv) s (.bool true)=(l++[s]).map tv:=by simp[rE,tv]
theorem oO(b:Bool):G4 (.bool b)=true:=rfl
attribute [go_sem] look_set all_set add_set oO
def map_len(f:a->b)(l:List a):(l.map f).length=l.length:=AA6 ..
def map_get(f:a->b)(l:List a)(i:Nat):(l.map f)[i]? =(l[i]?).map f:=AAf ..
def map_app(f:a->b)(l m:List a):l.map f++m.map f=(l++m).map f:=(AA5 ..).symm
def map_tk(f:a->b)(l:List a)(n:Nat):(l.map f).take n=(l.take n).map f:=(List.map_take ..).symm
def map_dr(f:a->b)(l:List a)(n:Nat):(l.map f).drop n=(l.drop n).map f:=(List.map_drop ..).symm
theorem dt1{l:List a}{x:a}(h:l[pos]? =some x):(l.drop pos).take 1=[x]:=by obtain⟨hi,rfl⟩:=AAV.1 h;rw[ABQ hi];rfl
theorem sc_str(l:jf):(l.map Value.string).map AV.sc=l.map Bq:=by rw[List.map_map];rfl
theorem cast22:((22:Nat):Int)=22:=rfl
attribute [go_sem] dt1 sc_str cast22 Nat.mul_one List.getElem?_set_self List.set_set List.length_set Nat.zero_le Option.isSome_none Option.isSome_some Option.isNone_none map_len map_get map_app map_tk map_dr
theorem map_same(f:a->b)(l:List a)(i:Nat)(x:a)(h:l[i]? =some x):(List.map f (l.set i x)=List.map f l)=True:=by obtain⟨hi,rfl⟩:=AAV.1 h;simp
attribute [go_sem] map_same
theorem one_nil:one []= .BZ []:=rfl
attribute [go_sem] one_nil
theorem tn1:Int.toNat 1=1:=rfl
theorem tn2:Int.toNat 2=2:=rfl
theorem tn3:Int.toNat 3=3:=rfl
attribute [go_sem] tn1 tn2 tn3 Nat.reduceAdd
theorem map_ce(e:a->List AV)(l:List a)(h:∀x,(e x).all GN=true):((l.map e).all λx=>x.all GN)=true:=by rw[ABR];exact AAY.2 λx _=>h x
theorem map_pl(e:a->List AV)(l:List a)(h:∀x,(e x).all IM=true):((l.map e).all λx=>x.all IM)=true:=by rw[ABR];exact AAY.2 λx _=>h x
theorem map_fr(e:a->List AV)(l:List a)(h:∀x,QZ (e x)=true):TR (l.map e)=true:=by induction l with|nil=>rfl|cons x l ih=>simp[TR,h x,ih]
theorem plain_frz(h:args.all IM=true):cA args=args:=by
 induction args with
 |nil=>rfl
 |cons a args ih=>simp only[ABF,AAT]at h;rw[cA,ih h.2];cases a<;>simp_all [IM,KI]
theorem map_fz(e:a->List AV)(l:List a)(h:∀x,(e x).all IM=true):Mt (l.map e)=l.map e:=by
 induction l with
 |nil=>rfl
 |cons x l ih=>simp[Mt,plain_frz (h x),ih]
theorem map_fm(e:a->List AV)(l:List a)(h:∀x,(e x).all IM=true):(l.map e).map (λx=>x.map KI)=l.map e:=by rw[<- UN];exact map_fz e l h
attribute [go_sem] implies_true map_ce map_pl map_fr map_fz map_fm
def i0(d:Nat)(op:bH):BD:=⟨some ⟨d,[],[]⟩,op,none⟩
def i1(d r:Nat)(op:bH):BD:=⟨some ⟨d,[],[r]⟩,op,none⟩
def j0(d:Nat)(op:bH)(g:Nat)(b:Bool):BD:=⟨some ⟨d,[],[]⟩,op,some (g,b)⟩
def j1(d r:Nat)(op:bH)(g:Nat)(b:Bool):BD:=⟨some ⟨d,[],[r]⟩,op,some (g,b)⟩
def iC(d s:Nat):BD:=⟨some ⟨d,[],[]⟩,.cp (.t s),none⟩
def iL(d s:Nat):BD:=⟨some ⟨d,[],[]⟩,.ld false 1 (.t s),none⟩
def Vg(d r s:Nat):BD:=⟨some ⟨d,[],[r]⟩,.ld false 1 (.t s),none⟩
def iF(d o s:Nat):BD:=⟨some ⟨d,[],[]⟩,.Wc o (.t s),none⟩
def Kf(d r o s:Nat):BD:=⟨some ⟨d,[],[r]⟩,.Wc o (.t s),none⟩
def iI(d k s i:Nat):BD:=⟨some ⟨d,[],[]⟩,.ZG k (.t s) (.t i),none⟩
def tY(d r k s i:Nat):BD:=⟨some ⟨d,[],[r]⟩,.ZG k (.t s) (.t i),none⟩
def iS(n a b:Nat):BD:=⟨none,.st n (.t a) (.t b),none⟩
def jL(d s g:Nat)(b:Bool):BD:=⟨some ⟨d,[],[]⟩,.ld false 1 (.t s),some (g,b)⟩
def jFr(d r o s g:Nat)(b:Bool):BD:=⟨some ⟨d,[],[r]⟩,.Wc o (.t s),some (g,b)⟩
def iOr(d a b:Nat):BD:=⟨some ⟨d,[],[]⟩,.pick (.t a) (.c (.sc (.bool true))) (.t b),none⟩
def iAn(d a b:Nat):BD:=⟨some ⟨d,[],[]⟩,.pick (.t a) (.t b) (.c (.sc (.bool false))),none⟩
def iU(d:Nat)(n:Int):BD:=⟨some ⟨d,[],[]⟩,.cp (.c (.sc (.int .i64 n))),none⟩
def iZ(d s:Nat):BD:=⟨some ⟨d,[],[]⟩,.len (.t s),none⟩
def iA(d k s:Nat):BD:=⟨some ⟨d,[],[]⟩,.ld true k (.t s),none⟩
def jC(d s g:Nat)(b:Bool):BD:=⟨some ⟨d,[],[]⟩,.cp (.t s),some (g,b)⟩
def jN(d s g:Nat)(b:Bool):BD:=⟨some ⟨d,[],[]⟩,.un .not (.t s),some (g,b)⟩
def jP(d:Nat)(op:BinOp)(x:Nat)(n:Int)(g:Nat)(b:Bool):BD:=⟨some ⟨d,[],[]⟩,.bin op (.t x) (.c (.sc (.int .i64 n))),some (g,b)⟩
def cX(c id:Nat):IC:=.cond (.t c) .skip (.exit id)
def iQ(d s:Nat)(n:Int):BD:=⟨some ⟨d,[],[]⟩,.bin .eql (.t s) (.c (.sc (.int .i64 n))),none⟩
def iO(d:Nat)(op:BinOp)(a b:Nat):BD:=⟨some ⟨d,[],[]⟩,.bin op (.t a) (.t b),none⟩
def iP(d:Nat)(op:BinOp)(a:Nat)(n:Int):BD:=⟨some ⟨d,[],[]⟩,.bin op (.t a) (.c (.sc (.int .i64 n))),none⟩
def iK(d:Nat)(n:Int):BD:=⟨some ⟨d,[],[]⟩,.mv (.c (.sc (.int .i64 n))),none⟩
def iB(d:Nat)(b:Bool):BD:=⟨some ⟨d,[],[]⟩,.mv (.c (.sc (.bool b))),none⟩
def bA(k:Nat)(cs:i5):AV:=.own true k [cs]
attribute [go_sem] iOr iAn iU iZ iA jC jN jP cX iQ iO iP iK iB bA i0 i1 j0 j1 iC iL Vg iF Kf iI tY iS jL jFr
end
variable{r:Prop}
section
variable{P:iz}{G:Gi}
def exI{a:Sort _}{p:a->Prop}(h:∃x,p x)(k:∀x,p x->C):C:=h.elim k
def anI(h:p/\r)(k:p->r->C):C:=k h.1 h.2
def CutT(n:Nat)(M0:iv):Prop:=∀(P:iz)(G:Gi)(a b:IC)(Q:Exit->Sg->Prop)(σ:Sg),(∀M:Sg->Prop,Imp M0 M->IU P G a (Exit.Sf M Q) σ/\∀τ,M0 τ->IU P G b Q τ)->IU P G (O6 n a b) Q σ
def Bo(n:Nat)(a:iv):CutT n a:=λ_ _ _ _ _ _ h=>cutNH n a h
def ip(n:Nat)(I:Nat->Nat->Nat->Nat->Sg->Prop):=λa b c d=>Bo n (I a b c d)
def CutT.use(c:CutT pos K){a b:IC}(h:∀M:Sg->Prop,Imp K M->IU P G a (Exit.Sf M Q) σ/\∀τ,K τ->IU P G b Q τ):IU P G (O6 pos a b) Q σ:=c _ _ _ _ _ _ h
def YT(I:lw):Prop:=∀(P:iz)(G:Gi)(a:IC)(Q:Exit->Sg->Prop)(σ:Sg),I BT σ->(∀n τ (N:iv),I n τ->Back n I N->IU P G a (Exit.Sf N Q) τ)->IU P G (.loop a) Q σ
def Av(I:lw):YT I:=λ_ _ _ _ _ h r=>oJ I h r
def im(I:Nat->Nat->Nat->Nat->Nat->Sg->Prop):=λa b c d=>Av (I a b c d)
def YT.use(c:YT Z){a:IC}(h:Z BT σ)(r:∀n τ (N:iv),Z n τ->Back n Z N->IU P G a (Exit.Sf N Q) τ):IU P G (.loop a) Q σ:=c _ _ _ _ _ h r
def ac2{c b:ABu a}{x:a}(h:(if(i==0)=true then c else if(i==1)=true then b else none)=some x)(d:i=0->c=some x->C)(e:i=1->b=some x->C):C:=(acase2 h).elim (λh=>d h.1 h.2) λh=>e h.1 h.2
theorem cal{p:Prop}(q:p:=by first| ((with_reducible have g:=a1 g);exact g)| ((with_reducible have g:=a2 g);exact g)| ((with_reducible have g:=a3 g);exact g)| ((with_reducible have g:=a4 g);exact g)| ((with_reducible have g:=a5 g);exact g)| ((with_reducible have g:=a6 g);exact g)| ((with_reducible have g:=a7 g);exact g)| ((with_reducible have g:=a8 g);exact g)| ((with_reducible have g:=a9 g);exact g)| ((with_reducible have g:=a10 g);exact g)| ((with_reducible have g:=a11 g);exact g)| ((with_reducible have g:=a12 g);exact g)| ((with_reducible have g:=a13 g);exact g)| ((with_reducible have g:=a14 g);exact g)| ((with_reducible have g:=a15 g);exact g)| ((with_reducible have g:=a16 g);exact g)| ((with_reducible have g:=a17 g);exact g)| ((with_reducible have g:=a18 g);exact g)| ((with_reducible have g:=a19 g);exact g)| ((with_reducible have g:=a20 g);exact g)| ((with_reducible have g:=a21 g);exact g)| ((with_reducible have g:=a22 g);exact g)| ((with_reducible have g:=a23 g);exact g)| ((with_reducible have g:=a24 g);exact g)| ((with_reducible have g:=a25 g);exact g)| ((with_reducible have g:=a26 g);exact g)| ((with_reducible have g:=a27 g);exact g)| ((with_reducible have g:=a28 g);exact g)| ((with_reducible have g:=a29 g);exact g)| ((with_reducible have g:=a30 g);exact g)):p:=q
theorem cas{p:Prop}(q:p:=by
  first
    | (repeat with_reducible apply Exists.intro
       with_reducible refine⟨?_,h⟩)
    | (have hq:=h
       subst_vars
       repeat with_reducible apply Exists.intro
       with_reducible refine⟨?_,hq⟩)
  first
    | (simp +decide only[go_sem, *]
       done)
    | ((try simp +decide only[go_sem, *])
       (repeat' with_reducible apply And.intro)<;>first
         |with_reducible rfl
         | (simp only[AA5,AAm,AA2,go_sem]
            done))):p:=q
theorem zer{p:Prop}(q:p:=by
 repeat (with_reducible first|refine exI h ?_|refine anI h ?_);clear h;intro _ h
 exact Et h):p:=q
theorem sgBk{f:UInt8->ABu b}{r:b}(h:(sgt l i).bind f=some r)(k:∀x,((∀n,i.toNat=n->l[n]? =some x)/\0<=i)->f x=some r->C):C:=by obtain⟨x,a,h⟩:=sgB h;exact k x ⟨λn e=>e▸a.1,a.2⟩ h
theorem ac4{f b c d:ABu a}{x:a}(h:(if(i==0)=true then f else if(i==1)=true then b else if(i==2)=true then c else if(i==3)=true then d else none)=some x)(g:i=0->f=some x->C)(j:i=1->b=some x->C)(k:i=2->c=some x->C)(l:i=3->d=some x->C):C:=by
 split at h
 . rename_i e;exact g (by simpa using e) h
 . split at h
   . rename_i e;exact j (by simpa using e) h
   . split at h
     . rename_i e;exact k (by simpa using e) h
     . split at h
       . rename_i e;exact l (by simpa using e) h
       . cases h
theorem walk{p:Prop}(q:p:=by
  try
    unfold Run;intro C R I e1 e2 e3
    conv at e3=>lhs;cbv
    repeat
      conv at e3=>
        pattern R _ _
        rw[e2]
        cbv
    subst e3;subst e1;dsimp only
  have n1:=0;have n2:=0;have n3:=0;have n4:=0
  repeat' first
    |with_reducible exact Et h
    | (with_reducible refine exI h ?_
       clear h;intro _ h)
    | (with_reducible refine anI h ?_
       clear h;intro _ h)
    |with_reducible refine wN.intro ?_ ?_
    |with_reducible refine gBm eS h λ_ _ h=> ?_
    |with_reducible refine gBm eI h λ_ _ h=> ?_
    |with_reducible refine gBe h bn λh=> ?_
    |with_reducible refine gBk h λ_ _ h=> ?_
    |with_reducible refine sgBk h λ_ _ h=> ?_
    | (with_reducible refine cSk h λg h=> ?_
       try simp only[AA9]at g)
    | (with_reducible refine ac4 h ?_ ?_ ?_ ?_
       all_goals
         clear h;intro e h;cases e)
    | (with_reducible refine ac2 h ?_ ?_
       all_goals
         clear h;intro e h;cases e)
    | (with_reducible refine bSs h λh=> ?_
       try simp +decide only[go_sem, *]
       refine⟨_,by first|exact a1 bn|exact a2 bn|exact a3 bn|exact a4 bn|exact a5 bn|exact a6 bn|exact a7 bn|exact a8 bn|exact a9 bn|exact a10 bn|exact a11 bn|exact a12 bn|exact a13 bn|exact a14 bn|exact a15 bn|exact a16 bn|exact a17 bn|exact a18 bn|exact a19 bn|exact a20 bn|exact a21 bn|exact a22 bn|exact a23 bn|exact a24 bn|exact a25 bn|exact a26 bn|exact a27 bn|exact a28 bn|exact a29 bn|exact a30 bn,?_⟩)
    | (with_reducible refine bSk h λ_ g h=> ?_
       try simp +decide only[go_sem, *]
       first
         |refine⟨_,cal,?_⟩
         | (refine yD.intro cal rfl ?_ ?_ ?_
            . rfl
            . first|rfl|simp +decide only[go_sem, *])
         |refine LbE.intro cal (by first|rfl|simp +decide only[go_sem, *]) ?_)
    | (with_reducible cases h
       first
         | (simp +decide only[go_sem, *]
            done)
         | (simp +decide only[AA5,AAm,AA2,go_sem, *]
            done))
    |simp only[eq_self,AAy,AAk,AAd]at h
    |simp +decide only[go_sem, *]
    | (with_reducible refine impI bn ?_
       exact cas)
    | (with_reducible refine CutT.use (by first|exact c1 n1 n2 n3 n4|exact c2 n1 n2 n3 n4|exact c3 n1 n2 n3 n4|exact c4 n1 n2 n3 n4|exact c5 n1 n2 n3 n4|exact c6 n1 n2 n3 n4|exact c7 n1 n2 n3 n4|exact c8 n1 n2 n3 n4|exact c9 n1 n2 n3 n4|exact c10 n1 n2 n3 n4|exact c11 n1 n2 n3 n4|exact c12 n1 n2 n3 n4|exact c13 n1 n2 n3 n4|exact c14 n1 n2 n3 n4|exact c15 n1 n2 n3 n4|exact c16 n1 n2 n3 n4|exact c17 n1 n2 n3 n4|exact c18 n1 n2 n3 n4|exact c19 n1 n2 n3 n4|exact c20 n1 n2 n3 n4|exact c21 n1 n2 n3 n4|exact c22 n1 n2 n3 n4|exact c23 n1 n2 n3 n4|exact c24 n1 n2 n3 n4|exact c25 n1 n2 n3 n4|exact c26 n1 n2 n3 n4|exact c27 n1 n2 n3 n4|exact c28 n1 n2 n3 n4|exact c29 n1 n2 n3 n4|exact c30 n1 n2 n3 n4) λM m=>⟨?_,?_⟩
       rotate_left;clear h;intro τ h;rotate_left)
    | (with_reducible refine YT.use (l1 n1 n2 n3 n4) ?_ ?_
       . exact cas
       clear h;rintro(_|n1) τ N h k
       . exact zer)
    | (with_reducible refine YT.use (l2 n1 n2 n3 n4) ?_ ?_
       . exact cas
       clear h;rintro(_|n2) τ N h k
       . exact zer)
    | (with_reducible refine YT.use (l3 n1 n2 n3 n4) ?_ ?_
       . exact cas
       clear h;rintro(_|n3) τ N h k
       . exact zer)
    | (with_reducible refine YT.use (l4 n1 n2 n3 n4) ?_ ?_
       . exact cas
       clear h;rintro(_|n4) τ N h k
       . exact zer)
    | (with_reducible refine backI bn ?_
       first
         |exact cas
         | (repeat with_reducible apply Exists.intro
            with_reducible refine⟨?_,h⟩))
    |simp only[*,eq_self,AAy,AAk,AAd,decide_true,decide_false]at h
    | (with_reducible refine bI h ?_ ?_
       all_goals
         clear h;intro _ h)
    |intro _ _
    |unfold L1 at h
    |unfold L2 at h
    |unfold L3 at h
    |unfold L4 at h
    |unfold J1 at h
    |unfold J2 at h
    |unfold J3 at h
    |unfold J4 at h
    |unfold J5 at h
    |unfold J6 at h
    |unfold J7 at h
    |unfold J8 at h
    |unfold J9 at h
    |unfold QP at h
    |unfold bT at h
    |unfold vY at h
    |unfold J13 at h
    |unfold J14 at h
    |unfold J15 at h
    |unfold J16 at h
    |unfold J17 at h
    |unfold J18 at h
    |unfold J19 at h
    |unfold J20 at h
    |unfold J21 at h
    |unfold J22 at h
    |unfold J23 at h
    |unfold J24 at h
    |unfold J25 at h
    |unfold J26 at h
    |unfold J27 at h
    |unfold J28 at h
    |unfold J29 at h
    |unfold J30 at h
    |rw[AW]at h
    |rw[CC]at h
    |rw[Gc]at h
    |rw[L4r]at h
    |contradiction
    |with_reducible rfl):p:=q
end
section
inductive A where
 |f (o s:Nat)|F (o s:Nat)|H (r o s:Nat)|h (r o s:Nat)|m (r o s:Nat)|u (o s:Nat)|U (o s:Nat)|L (s:Nat)|l (r s:Nat)|C (s:Nat)
 |Q (s:Nat) (k:Int)|q (s:Nat) (k:Int) (d:Nat)|P (op:BinOp) (s:Nat) (k:Int)|O (op:BinOp) (a b:Nat)|M (d s:Nat)|K (d:Nat) (k:Int)|B (d:Nat) (b:Bool)
 |S (k a b:Nat)|T (a:Nat) (k:Int)|I (k s i:Nat)|J (r k s i:Nat)|A (k s:Nat)|Z (s:Nat)|V (a b:Nat)|W (a b:Nat)|N (s:Nat)|Y (k:Int)
 |p (s o:Nat)|r (s o:Nat)|D (s:Nat)|c (f:Nat) (l:List Nat) (m:Nat)|G (a:Nat) (b:Bool)|e|w (n:Nat)|o (op:bH)|y (r:Nat) (op:bH)|x (op:BD)|b (d:Nat) (kl:List Nat) (op:bH)
def tN:List Nat->List Ar
 |[]=>[]
 |s::l=>.t s::tN l
def OM:ABu (Nat×Bool)->Nat->List A->List BD
 |_,_,[]=>[]
 |g,n,.f o s::l=>⟨some ⟨n,[],[s]⟩,.Wc o (.t s),g⟩::⟨some ⟨n+1,[],[]⟩,.ld false 1 (.t n),g⟩::OM g (n+2) l
 |g,n,.F o s::l=>⟨some ⟨n,[],[s]⟩,.Wc o (.t s),g⟩::OM g (n+1) l
 |g,n,.H r o s::l=>⟨some ⟨n,[],[r]⟩,.Wc o (.t s),g⟩::OM g (n+1) l
 |g,n,.h r o s::l=>⟨some ⟨n,[],[r]⟩,.Wc o (.t s),g⟩::⟨some ⟨n+1,[],[]⟩,.ld false 1 (.t n),g⟩::OM g (n+2) l
 |g,n,.m r o s::l=>⟨some ⟨n,[],[r]⟩,.Wc o (.t s),g⟩::⟨some ⟨n+1,[],[r]⟩,.ld false 1 (.t n),g⟩::OM g (n+2) l
 |g,n,.u o s::l=>⟨some ⟨n,[],[]⟩,.Wc o (.t s),g⟩::OM g (n+1) l
 |g,n,.U o s::l=>⟨some ⟨n,[],[]⟩,.Wc o (.t s),g⟩::⟨some ⟨n+1,[],[]⟩,.ld false 1 (.t n),g⟩::OM g (n+2) l
 |g,n,.L s::l=>⟨some ⟨n,[],[]⟩,.ld false 1 (.t s),g⟩::OM g (n+1) l
 |g,n,.l r s::l=>⟨some ⟨n,[],[r]⟩,.ld false 1 (.t s),g⟩::OM g (n+1) l
 |g,n,.C s::l=>⟨some ⟨n,[],[]⟩,.cp (.t s),g⟩::OM g (n+1) l
 |g,n,.Q s k::l=>⟨some ⟨n,[],[]⟩,.bin .eql (.t s) (.c (.sc (.int .i64 k))),g⟩::OM g (n+1) l
 |g,n,.q s k d::l=>⟨some ⟨n,[],[]⟩,.bin .eql (.t s) (.c (.sc (.int .i64 k))),g⟩::⟨some ⟨d,[],[]⟩,.mv (.t n),g⟩::OM g (n+1) l
 |g,n,.P op s k::l=>⟨some ⟨n,[],[]⟩,.bin op (.t s) (.c (.sc (.int .i64 k))),g⟩::OM g (n+1) l
 |g,n,.O op a b::l=>⟨some ⟨n,[],[]⟩,.bin op (.t a) (.t b),g⟩::OM g (n+1) l
 |g,n,.M d s::l=>⟨some ⟨d,[],[]⟩,.mv (.t s),g⟩::OM g n l
 |g,n,.K d k::l=>⟨some ⟨d,[],[]⟩,.mv (.c (.sc (.int .i64 k))),g⟩::OM g n l
 |g,n,.B d b::l=>⟨some ⟨d,[],[]⟩,.mv (.c (.sc (.bool b))),g⟩::OM g n l
 |g,n,.S k a b::l=>⟨none,.st k (.t a) (.t b),g⟩::OM g n l
 |g,n,.T a k::l=>⟨none,.st 1 (.t a) (.c (.sc (.int .i64 k))),g⟩::OM g n l
 |g,n,.I k s i::l=>⟨some ⟨n,[],[]⟩,.ZG k (.t s) (.t i),g⟩::OM g (n+1) l
 |g,n,.J r k s i::l=>⟨some ⟨n,[],[r]⟩,.ZG k (.t s) (.t i),g⟩::OM g (n+1) l
 |g,n,.A k s::l=>⟨some ⟨n,[],[]⟩,.ld true k (.t s),g⟩::OM g (n+1) l
 |g,n,.Z s::l=>⟨some ⟨n,[],[]⟩,.len (.t s),g⟩::OM g (n+1) l
 |g,n,.V a b::l=>⟨some ⟨n,[],[]⟩,.pick (.t a) (.c (.sc (.bool true))) (.t b),g⟩::OM g (n+1) l
 |g,n,.W a b::l=>⟨some ⟨n,[],[]⟩,.pick (.t a) (.t b) (.c (.sc (.bool false))),g⟩::OM g (n+1) l
 |g,n,.N s::l=>⟨some ⟨n,[],[]⟩,.un .not (.t s),g⟩::OM g (n+1) l
 |g,n,.Y k::l=>⟨some ⟨n,[],[]⟩,.cp (.c (.sc (.int .i64 k))),g⟩::OM g (n+1) l
 |g,n,.p s o::l=>⟨some ⟨n,[],[s]⟩,.cp (.t s),g⟩::⟨some ⟨n+1,[],[s]⟩,.I6 (.t n),g⟩::⟨some ⟨n+2,[],[s]⟩,.Wc o (.t (n+1)),g⟩::⟨some ⟨n+3,[],[]⟩,.ld false 1 (.t (n+2)),g⟩::OM g (n+4) l
 |g,n,.r s o::l=>⟨some ⟨n,[],[s]⟩,.cp (.t s),g⟩::⟨some ⟨n+1,[],[s]⟩,.I6 (.t n),g⟩::⟨some ⟨n+2,[],[s]⟩,.Wc o (.t (n+1)),g⟩::⟨some ⟨n+3,[],[s]⟩,.ld false 1 (.t (n+2)),g⟩::OM g (n+4) l
 |g,n,.D s::l=>⟨some ⟨n,[],[s]⟩,.cp (.t s),g⟩::⟨some ⟨n+1,[],[s]⟩,.I6 (.t n),g⟩::OM g (n+2) l
 |g,n,.c f a m::l=>⟨some ⟨n,[],[]⟩,.call f (tN a) m,g⟩::OM g (n+1) l
 |_,n,.G a b::l=>OM (some (a,b)) n l
 |_,n,.e::l=>OM none n l
 |g,_,.w n::l=>OM g n l
 |g,n,.o op::l=>⟨some ⟨n,[],[]⟩,op,g⟩::OM g (n+1) l
 |g,n,.y r op::l=>⟨some ⟨n,[],[r]⟩,op,g⟩::OM g (n+1) l
 |g,n,.x op::l=>op::OM g n l
 |g,n,.b d k op::l=>⟨some ⟨d,k,[]⟩,op,g⟩::OM g n l
def Ra(n:Nat)(l:List A)(b:IC):IC:=.seq (.dH (OM none n l)) b
def Rb(n:Nat)(l:List A):IC:=.seq (.dH (OM none n l)) .ret
def Rc(n:Nat)(l:List A):IC:=.dH (OM none n l)
def Cn(c:Nat)(a b:IC):IC:=.cond (.t c) a b
def Ci(c:Nat)(a:IC):IC:=.cond (.t c) a .skip
def Sq(a b:IC):IC:=.seq a b
def Bk(n:Nat)(a:IC):IC:=.block n a
def Bl(n:Nat)(a:IC):IC:=.block n (.loop a)
attribute [go_sem] tN OM Ra Rb Rc Cn Ci Sq Bk Bl
abbrev vS{d:Type}(k:Nat)(e:d->List AV)(l:List d):AV:=.sl false k (l.map e)
abbrev vO{d:Type}(k:Nat)(e:d->List AV)(l:List d):AV:=.own false k (l.map e)
attribute [go_sem] vS vO
section
variable{P:iz}{f:Nat}{fn:Func}{I:FI}{args:i5}{res:AV}{outs:i5}
theorem wO(hm:P.follows .mixedOrders=true)(hf:P.funcs[f]? =some fn)(h:IU P I.g I.c (Ends I.g I.r res) (start args))(hc:OT P fn I=true:=by kernel_rfl)(hn:args.length<=fn.ntmps:=by exact AAc (by kernel_rfl))(ha:args.all JA=true:=by rfl):Says P f args res:=Rt hm hf hc hn ha h
theorem wL(hm:P.follows .mixedOrders=true)(hf:P.funcs[f]? =some fn)(h:IU P I.g I.c (WT I.g I.r res outs) (start args))(hc:OT P fn I=true:=by kernel_rfl)(hD:iE fn args.length=true:=by kernel_rfl)(hn:args.length<=fn.ntmps:=by exact AAc (by kernel_rfl))(ha:args.all JA=true:=by rfl)(hl:outs.length=args.length:=by rfl):BB P f args res outs:=pS hm hf hc hD hn ha hl h
theorem wP(hm:P.follows .mixedOrders=true)(hf:P.funcs[f]? =some fn)(h:IU P I.g I.c (lY I.g I.r res outs) (start args))(hc:OT P fn I=true:=by kernel_rfl)(hD:iE fn args.length=true:=by kernel_rfl)(hn:args.length<=fn.ntmps:=by exact AAc (by kernel_rfl))(ha:args.all JA=true:=by rfl)(hl:outs.length=args.length:=by rfl):BB P f args res outs:=fU hm hf hc hD hn ha hl h
end
end
variable{P:iz}{u:AV}
section
inductive Yk where
 |b|t|i (k:IntKind)|s (l q:List Nat)|l (k b:Nat) (z:List AV)|a (n k:Nat) (g:Bool)|o
structure Y where
 z:List AV
 k:Yk
def lk(d:a):List (Nat×a)->Nat->a
 |[],_=>d
 | (k,x)::l,n=>if k=n then x else lk d l n
structure Hn where
 T:List (Nat×Y)
 C:List (Nat×Nat)
 L:List (Nat×Nat×ABu Nat)
 K:List (Nat×List Nat)
 Q:List (Nat×Nat)
 Z:List (Nat×Bool×Nat×List Step)
 F:List Nat
 E:List (Nat×IC)
def Hn.y(H:Hn)(t:Nat):Y:=lk ⟨[.sc (.int .i64 0)],.o⟩ H.T t
def Hn.n(H:Hn)(t:Nat):Nat:=(H.y t).z.length
def Hn.g(H:Hn)(t:Nat):Bool:=match(H.y t).k with
 | .s .. =>true
 | .a .. =>true
 |_=>false
def Hn.e(H:Hn)(t:Nat):Nat:=match(H.y t).k with
 | .l k .. =>k
 | .a _ k _=>k
 |_=>1
def fOf:Nat->List Nat->Nat->Nat×Nat×Bool
 |o,0::_,0=>(o,1,false)
 |o,n::_,0=>(o,n,true)
 |o,0::l,i+1=>fOf (o+1) l i
 |o,n::l,i+1=>fOf (o+n) l i
 |o,[],_=>(o,1,false)
def Hn.f(H:Hn)(t i:Nat):Nat×Nat×Bool:=match(H.y t).k with
 | .s l _=>fOf 0 l i
 | .a _ k g=>(i*k,k,g)
 |_=>(0,1,false)
def Hn.zv(H:Hn)(t:Nat):AV:=if H.g t then .agg (H.y t).z else(H.y t).z.headD .un
def inA(d:Nat):List Nat->Bool
 |[]=>false
 |x::l=>match compare x d with
  | .lt=>inA d l
  | .eq=>true
  | .gt=>false
def rsK(d:Nat):List (Nat×List Nat)->List Nat
 |[]=>[]
 | (r,x)::l=>if inA d x then r::rsK d l else rsK d l
def Hn.rs(H:Hn)(d:Nat):List Nat:=rsK d H.K
def Hn.d(H:Hn)(d:Nat):D3:=⟨d,lk [] H.K d,H.rs d⟩
def insA(x:Nat):List Nat->List Nat
 |[]=>[x]
 |y::l=>match compare x y with
  | .lt=>x::y::l
  | .eq=>y::l
  | .gt=>y::insA x l
def mrg:List (Nat×List Nat)->List Nat
 |[]=>[]
 |[(_,l)]=>l
 | (_,l)::k=>(mrg k).foldl (λa x=>insA x a) l
def Hn.G(H:Hn):Gi:=⟨(mrg H.K).map λd=>(d,H.rs d)⟩
def cst(H:Hn)(t:Nat)(f:Bool):Value->AV
 | .slice none 0 0=>if f then .sl false (H.e t) []else .own false (H.e t) []
 | .agg _=>.agg (H.y t).z
 |v=>.sc v
def oa(H:Hn)(t:Nat):Operand->Ar
 | .tmp s=>.t s
 | .const v=>.c (cst H t false v)
 |_=>.c .un
def of(H:Hn)(t:Nat)(f:Bool):Operand->Ar
 | .const v=>.c (cst H t f v)
 |x=>oa H t x
def oas(H:Hn):List Operand->List Nat->List Ar
 |x::l,t::m=>oa H t x::oas H l m
 |_,_=>[]
def gop(H:Hn)(ty:Nat)(f:Bool):Op->bH
 | .move x=>.cp (of H ty f x)
 | .assign x=>.mv (of H ty f x)
 | .pick c a b=>.pick (oa H 0 c) (oa H 0 a) (oa H 0 b)
 | .alloc t=>.bx (H.n t) (.c (H.zv t))
 | .box t x=>.bx (H.n t) (oa H t x)
 | .build t ps=>.TK (H.y t).z (ps.toList.map λp=>((H.f t p.1).1,(H.f t p.1).2.1,oa H 0 p.2))
 | .buildSlice t n ps=>match(H.y t).k with
  | .l k _ z=>.OR k (List.replicate n z) (ps.toList.map λp=>(p.1,oa H 0 p.2))
  |_=>.bad
 | .load t a=>.ld (H.g t) (H.n t) (oa H 0 a)
 | .store t a v=>.st (H.n t) (oa H 0 a) (oa H t v)
 | .nilCheck x=>.I6 (oa H 0 x)
 | .binOp op t x y _=>match(H.y t).k with
  | .b=>.beq (match op with| .neq=>true|_=>false) (oa H 0 x) (oa H 0 y)
  | .s _ q=>.pW (match op with| .neq=>true|_=>false) q (oa H t x) (oa H t y)
  |_=>.bin op (oa H 0 x) (oa H 0 y)
 | .unOp op _ x=>.un op (oa H 0 x)
 | .convert _ d x=>.cvt (match(H.y d).k with| .i k=>k|_=>.i64) (oa H 0 x)
 | .fieldAddr t x f=>.Wc (H.f t f).1 (oa H 0 x)
 | .field t x f=>.fld (H.f t f).2.2 (H.f t f).1 (H.f t f).2.1 (oa H 0 x)
 | .indexAddr t x i=>match(H.y t).k with
  | .a n k _=>.aad n k (oa H 0 x) (oa H 0 i)
  |_=>.ZG (H.e t) (oa H 0 x) (oa H 0 i)
 | .index t x i=>match(H.y t).k with
  | .a n k g=>.idx g n k (oa H 0 x) (oa H 0 i)
  |_=>.pX (oa H 0 x) (oa H 0 i)
 | .slice t x l h m=>.slc (H.e t) true (oa H 0 x) (l.map (oa H 0)) (h.map (oa H 0)) (m.map (oa H 0))
 | .extract x i=>.ext (oa H 0 x) i
 | .makeSlice t l c=>match(H.y t).k with
  | .l k b z=>.mk k b z (oa H 0 l) (oa H 0 c)
  |_=>.bad
 | .call c=>match c.callee,oas H c.args.toList c.argTypes.toList,c.argTypes.toList with
  | .builtin .len,[x],[t]=>(match(H.y t).k with| .t=>.dM x|_=>.len x)
  | .builtin .append,[x,y],t::_=>(match(H.y t).k with| .l k b _=>.app k b x y|_=>.bad)
  | .builtin .max,[x,y],_=>.mm true x y
  | .builtin .min,[x,y],_=>.mm false x y
  | .value (.func f),xs,_=>(match lk none (H.L.map λx=>(x.1,some x.2)) f with
   |some (i,c)=>(match xs.drop i with|x::post=>.Vx f (xs.take i) x c post|_=>.bad)
   |none=>.call f xs (lk 0 H.C f))
  |_,_,_=>.bad
 |_=>.bad
def gor(H:Hn)(ops:Array Oper)(o:Oper):BD:=⟨o.dst.map H.d,gop H o.type (match o.dst with|some d=>H.F.contains d|none=>false) o.op,o.guard.map λg=>(((ops[g.1]?).bind (·.dst)).getD 0,g.2)⟩
def gzw:List (Nat×Bool×Nat×List Step)->Nat->IC->IC
 |[],_,c=>c
 | (i,b,r,p)::l,n,c=>gzw l n (if i=n then .gz b r p c else c)
def rgn(H:Hn)(id:Nat)(ops:Array Oper):IC:=match lk none (H.E.map λx=>(x.1,some x.2)) id with
 |some c=>c
 |none=>gzw H.Z id (.dH (ops.toList.map (gor H ops)))
def gco(H:Hn)(C:Nat->IC->IC->IC)(R:Nat->Array Oper->IC):Nat->Code->Nat×IC
 |n,.region id ops _=>(n,R id ops)
 |n,.seq a b=>match gco H C R (n+1) a with
  | (m,a')=>match gco H C R m b with
   | (k,b')=>(k,match lk 0 H.Q n with|0=>.seq a' b'|j=>C j a' b')
 |n,.cond c a b=>match gco H C R n a with
  | (m,a')=>match gco H C R m b with
   | (k,b')=>(k,.cond (oa H 0 c) a' b')
 |n,.block id a=>match gco H C R n a with| (m,a')=>(m,.block id a')
 |n,.loop a=>match gco H C R n a with| (m,a')=>(m,.loop a')
 |n,.scope a=>match gco H C R (n+1) a with| (m,a')=>(m,.seq .skip a')
 |n,.exit id=>(n,.exit id)
 |n,.ret=>(n,.ret)
 |n,.skip=>(n,.skip)
 |n,.label _=>(n,.skip)
 |n,_=>(n,.bad)
def mkI(H:Hn)(C:Nat->IC->IC->IC)(R:Nat->Array Oper->IC)(fn:Func):FI:=⟨(gco H C R 0 (fn.body.getD .skip)).2,H.G,fn.results.toList.map λ
 | .tmp t=>.tmp t
 | .cell a t=>.cell a (H.g t) (H.n t)⟩
def arrMk(l:List a):Array.mk l=l.toArray:=(rfl)
attribute [go_sem] arrMk
def awp_cg{G:Gi}{c:IC}(h:σ=τ):IU P G c Q σ=IU P G c Q τ:=h▸rfl
def aops_cg{G:Gi}{l:jG}(h:σ=τ):O0 P G l K σ=O0 P G l K τ:=h▸rfl
def bK_cg{x y:ABu Sg}(h:x=y):bK x K=bK y K:=h▸rfl
def condK_cg(h:x=u)(g:σ=τ):UG x K N σ=UG u K N τ:=h▸g▸rfl
def gK_cg(h:x=u)(g:σ=τ):gK x c K N σ=gK u c K N τ:=h▸g▸rfl
def toDst_cg{d:ABu D3}(h:x=u)(g:σ=τ):C2 d x K σ=C2 d u K τ:=h▸g▸rfl
def resK_cg{d:ABu D3}{v u:ABu AV}(h:v=u)(g:σ=τ):uY v d K σ=uY u d K τ:=h▸g▸rfl
attribute [congr] awp_cg aops_cg bK_cg condK_cg gK_cg toDst_cg resK_cg
section
variable{P:iz}{f:Nat}{fn:Func}{args:i5}{res:AV}{outs:i5}
def Run(P:iz)(fn:Func)(H:Hn)(E:Gi->List RV->Exit->Sg->Prop)(args:i5):Prop:=∀C R I,C=O6->R=rgn H->mkI H C R fn=I->IU P I.g I.c (E I.g I.r) (start args)
theorem kO(hm:P.follows .mixedOrders=true)(hf:P.funcs[f]? =some fn)(H:Hn)(h:Run P fn H (Ends · · res) args)(hc:OT P fn (mkI H O6 (rgn H) fn)=true:=by kernel_rfl)(hn:args.length<=fn.ntmps:=by exact AAc (by kernel_rfl))(ha:args.all JA=true:=by rfl):Says P f args res:=Rt hm hf hc hn ha (h _ _ _ rfl rfl rfl)
theorem kF(hm:P.follows .mixedOrders=true)(hf:P.funcs[f]? =some fn)(H:Hn)(h:Run P fn H (vV · · res) args)(hc:OT P fn (mkI H O6 (rgn H) fn)=true:=by kernel_rfl)(hn:args.length<=fn.ntmps:=by exact AAc (by kernel_rfl))(ha:args.all JA=true:=by rfl):Says P f args res:=pP hm hf hc hn ha (h _ _ _ rfl rfl rfl)
theorem kL(hm:P.follows .mixedOrders=true)(hf:P.funcs[f]? =some fn)(H:Hn)(h:Run P fn H (WT · · res outs) args)(hc:OT P fn (mkI H O6 (rgn H) fn)=true:=by kernel_rfl)(hD:iE fn args.length=true:=by kernel_rfl)(hn:args.length<=fn.ntmps:=by exact AAc (by kernel_rfl))(ha:args.all JA=true:=by rfl)(hl:outs.length=args.length:=by rfl):BB P f args res outs:=pS hm hf hc hD hn ha hl (h _ _ _ rfl rfl rfl)
theorem kP(hm:P.follows .mixedOrders=true)(hf:P.funcs[f]? =some fn)(H:Hn)(h:Run P fn H (lY · · res outs) args)(hc:OT P fn (mkI H O6 (rgn H) fn)=true:=by kernel_rfl)(hD:iE fn args.length=true:=by kernel_rfl)(hn:args.length<=fn.ntmps:=by exact AAc (by kernel_rfl))(ha:args.all JA=true:=by rfl)(hl:outs.length=args.length:=by rfl):BB P f args res outs:=fU hm hf hc hD hn ha hl (h _ _ _ rfl rfl rfl)
end
end
variable{w:ja}{J:i5}{H:jj}{v:jn}{X:List AV->Prop}
section
open Go.ChangeShapes Go.WideShapes Go.ChangeAt Go.RowKit
def Old(w:ja)(b:Nat):Prop:=b<w.heap.size
def Cells(w:ja)(IE:i5)(cs:jj):Prop:=IE.length=cs.length/\∀(i:Nat) a v,IE[i]? =some a->cs[i]? =some v->Fz w (Old w) a v
theorem Cells.append{h:jj}(b:Cells w args H)(j:Cells w J h):Cells w (args++J) (H++h):=by
 refine⟨by simp[b.1,j.1],λi a v d c=> ?_⟩;by_cases hi:i<args.length
 . rw[AA0 hi]at d;rw[AA0 (by rw[<- b.1];exact hi)]at c;exact b.2 i a v d c
 . rw[AAx ah]at d;rw[AAx (by rw[<- b.1];omega)]at c;rw[<- b.1]at c;exact j.2 _ a v d c
theorem Cells.nil(w:ja):Cells w [] []:=⟨rfl,λi a v h=>by simp at h⟩
theorem Cells.one(h:Fz w (Old w) x v):Cells w [x] [v]:=by
 refine⟨rfl,λi d e b c=> ?_⟩;cases i with
 |zero=>simp at b c;subst b;subst c;exact h
 |succ i=>simp at b
def Light(P:iz)(t:jo)(d:DataW a):Prop:=∀n∈d.weights P t,n<=reachBytes
def OP(P:iz)(t:jo)(X:List AV->Prop):Prop:=
 ∀(H:Type)(enc:TypeId×Value->H)(w:ja)(fuel:Nat)(cs:jj)(d:DataW H)(ps:List MemPlace),
  DataW.trod enc P w 0 (λ_=>true) true fuel t cs=some (d,ps)->Light P t d->∃IE,X IE/\Cells w IE cs
theorem OP.mono{Y:List AV->Prop}(h:OP P t X)(b:∀a,X a->Y a):OP P t Y:=by intro H enc w fuel e d k i g;obtain⟨c,j,f⟩:=h H enc w fuel e d k i g;exact⟨c,b _ j,f⟩
theorem lT{k:IntKind}(h:P.underlying t=some (.int k)):OP P t (λe=>∃n,e=[.sc (.int k n)]/\(Lit.int k n).wf=true):=by
 intro H enc w fuel f d i a g;cases fuel with
 |zero=>simp[DataW.trod]at a
 |succ fuel=>
  unfold DataW.trod at a;rw[h]at a;split at a<;>rename_i c<;>try (cases c;done)
  . cases c;split at a
    . rename_i b;obtain⟨rfl,b⟩:=b;exact⟨_,⟨_,rfl,b⟩,Cells.one (.sc _ rfl)⟩
    . cases a
  . cases a
theorem UB{a:Addr}(h:w.cells? 0 a pos=some H):H.length=pos/\∀(j:Nat) v,H[j]? =some v->w.cell? (a.add j)=some v:=by
 unfold World.cells? at h;rw[AAb (Nat.zero_le _)]at h;have b:=mapM_some_length h;rw[List.length_range]at b;refine⟨b,λj v e=> ?_⟩;have d:j<pos:=by rw[<- b];exact(AAV.1 e).1
 have:=mapM_some_get h j j (by simp[d]);rw[this];exact e
theorem bD{l:List (DataW a)}{d:DataW a}(hd:d∈l)(hn:pos∈d.weights P t):pos∈DataW.weightsAll P t l:=by
 induction l with
 |nil=>simp at hd
 |cons x l ih=>
  rw[DataW.weightsAll,AAo];rcases AAr.1 hd with rfl|hd
  . exact .inl hn
  . exact .inr (ih hd)
theorem wE{a:Addr}(h:w.cell? a=some v):a.spot=none/\a.block<w.heap.size:=by
 unfold World.cell? at h;split at h
 . rename_i c e f1 f2 b;refine⟨?_,(ABD.1 b).1⟩;cases hs:a.spot with
   |none=>rfl
   |some x=>simp[hs]at h
 . cases h
theorem fK(h:P.underlying t=some (.slice tb))(hk:P.cellsOf tb=k)(tO:0<k)(he:OP P tb X):
 OP P t (λz=>∃rows,z=[.sl false k rows]/\(∀row∈rows,X row/\row.length=k)/\rows.length*P.bytesOf tb<=reachBytes):=by
 intro H enc w fuel cs d ps l O;cases fuel with
 |zero=>simp[DataW.trod]at l
 |succ fuel=>
  unfold DataW.trod at l;rw[h]at l;split at l<;>rename_i R<;>try (cases R;done)
  . exact⟨_,⟨[],rfl,ak,ak⟩,Cells.one (.nil _ _ _ _ ak)⟩
  . rename_i U a len cap;obtain rfl:tb=U:=(by simpa using R);simp only[hk]at l;split at l
    . rename_i hc;cases hm:(List.range len).mapM (λi=>(w.cells? 0 (a.add (i*k)) k).bind (DataW.trod enc P w 0 (λ_=>true) true fuel tb))with
      |none=>simp[hm]at l
      |some elems=>
       rw[hm]at l;simp only[AAS,AAy,AA4,AAj]at l;obtain⟨q,_,rfl,_⟩:=l;have F:elems.length=len:=by have:=mapM_some_length hm;simpa using this
       -- each element
       have s:∀i,i<len->∃m x z,w.cells? 0 (a.add (i*k)) k=some m/\elems[i]? =some x/\X z/\Cells w z m:=by
        intro i hi
        have:=mapM_some_get hm i i (by simp[hi]);cases TW:w.cells? 0 (a.add (i*k)) k with
        |none=>rw[TW]at this;have g:elems[i]? =some elems[i]:=AAZ ah;rw[g]at this;simp at this
        |some m=>rw[TW]at this;have g:elems[i]? =some elems[i]:=AAZ ah;rw[g,AAS]at this;obtain⟨z,hx,N⟩:=he H enc w fuel m elems[i].1 elems[i].2 this (λn hn=>O n (by rw[DataW.weights,h];simp only[AAr,AAo];exact .inr (.inl (bD (ABY (AAi ah)) hn))));exact⟨m,_,z,rfl,g,hx,N⟩
       have hw:∃f:Nat->List AV×List Value,∀i,i<len->w.cells? 0 (a.add (i*k)) k=some (f i).2/\X (f i).1/\Cells w (f i).1 (f i).2:=by
        refine⟨λi=>if hi:i<len then((s i hi).choose_spec.choose_spec.choose,(s i hi).choose)else([],[]),λi hi=> ?_⟩
        have:=(s i hi).choose_spec.choose_spec.choose_spec;simp only[hi,dif_pos];exact⟨this.1,this.2.2⟩
       obtain⟨f,D⟩:=hw
       let rows:=(List.range len).map λi=>(f i).1
       have I:rows.length=len:=(by simp[rows]);have J:∀i row,rows[i]? =some row->i<len/\row=(f i).1:=(by intro i row u;have hi:i<len:=(by rw[<- I];exact(AAV.1 u).1);refine⟨hi,?_⟩;simp only[rows,AAf,List.getElem?_range hi,AA1,AAU]at u;exact u.symm);have y:∀i,i<len->(f i).1.length=k:=λi hi=>(by rw[(D i hi).2.2.1];exact(UB (D i hi).1).1);refine⟨_,⟨rows,rfl,?_,?_⟩,Cells.one ?_⟩
       . intro row u;obtain⟨i,hi⟩:=List.mem_iff_getElem?.1 u;obtain⟨g,rfl⟩:=J i row hi;exact⟨(D i g).2.1,y i g⟩
       . have:=O ((elems.map (·.1)).length+(q.map (·.1)).length) |> λ_=>O (((elems.map (·.1)).length+(q.map (·.1)).length)*P.bytesOf tb) (by rw[DataW.weights,h];simp);rw[I];refine ABO (ABC _ ?_) this;simp[F]
       . by_cases W:len=0
         . subst W;have o:rows=[]:=List.eq_nil_of_length_eq_zero I;rw[o];exact .nil _ _ _ _ ak
         . have K:∀i j row c,rows[i]? =some row->row[j]? =some c->∃v,(f i).2[j]? =some v/\w.cell? ((a.add (i*k)).add j)=some v/\Fz w (Old w) c v:=(by intro i j row c g B;obtain⟨r,rfl⟩:=J i row g;have hj:j<(f i).2.length:=(by rw[<- (D i r).2.2.1];exact(AAV.1 B).1);have C:(f i).2[j]? =some (f i).2[j]:=AAZ hj;exact⟨_,C,(UB (D i r).1).2 j _ C,(D i r).2.2.2 j c _ B C⟩);obtain⟨E,o⟩:∃E,rows[0]? =some E:=⟨rows[0]' ah,AAZ _⟩;obtain⟨_,V⟩:=J 0 E o;obtain⟨L,M⟩:∃L,E[0]? =some L:=⟨E[0]'(by rw[V,y 0 (by omega)];exact tO),AAZ _⟩;obtain⟨v0,_,Q,_⟩:=K 0 0 E L o M;obtain⟨p,US⟩:=wE Q;obtain⟨b,off,T⟩:=a;obtain rfl:T=none:=by
            unfold Addr.add at p;simp only[AAy]at p;split at p
            . exact p
            . cases T<;>simp_all
           rw[Addr.add_lit,Addr.add_lit]at US;have G:=Fz.sl (w:=w) (S:=Old w) false k rows b off cap (λi j=>((f i).2[j]?).getD undef) ak (by rw[I];exact hc.2.1) US (by
            intro row u;obtain⟨i,hi⟩:=List.mem_iff_getElem?.1 u;obtain⟨g,rfl⟩:=J i row hi;exact y i g) (by
            intro i j row c g B;obtain⟨v,r,C,_⟩:=K i j row c g B;rw[r];rw[Addr.add_lit,Addr.add_lit]at C;rw[show off+(i*k+j)=off+i*k+j from by omega];exact C) (by
            intro i j row c g B;obtain⟨v,r,_,Z⟩:=K i j row c g B;rw[r];exact Z)
           rw[I]at G;exact G
    . cases l
  . cases l
end
section
open Go.ChangeShapes Go.WideShapes Go.ChangeAt Go.RowKit
def CatX:List (List AV->Prop)->List AV->Prop
 |[],IE=>IE=[]
 |X::Xs,IE=>∃a r,IE=a++r/\X a/\CatX Xs r
def q9(P:iz):List Field->Nat->List (List AV->Prop)->Prop
 |[],_,[]=>True
 |f::fs,off,X::Xs=>f.offset=off/\OP P f.type X/\q9 P fs (off+P.cellsOf f.type) Xs
 |_,_,_=>False
def OV(P:iz):List Field->Nat->Nat
 |[],off=>off
 |f::fs,off=>OV P fs (off+P.cellsOf f.type)
theorem kA{enc:TypeId×Value->a}(b:List Field):∀(off:Nat)(Xs:mj)(k:List (DataW a×List MemPlace)),q9 P b off Xs->OV P b off<=H.length->
 b.mapM (λf=>DataW.trod enc P w 0 (λ_=>true) true pos f.type ((H.drop f.offset).take (P.cellsOf f.type)))=some k->(∀n∈DataW.weightsEach P (b.map (·.type)) (k.map (·.1)),n<=reachBytes)->
 ∃p,CatX Xs p/\Cells w p ((H.drop off).take (OV P b off-off)):=by
 induction b with
 |nil=>
  intro off Xs k d i h j;cases Xs with
  |nil=>exact⟨[],rfl,by simp[OV,Cells.nil]⟩
  |cons=>exact d.elim
 |cons f b ih=>
  intro off Xs k d i h j;cases Xs with
  |nil=>exact d.elim
  |cons X Xs=>
   obtain⟨u,s,d⟩:=d;rw[List.mapM_cons]at h;cases h1:DataW.trod enc P w 0 (λ_=>true) true pos f.type ((H.drop f.offset).take (P.cellsOf f.type))with
   |none=>simp[h1]at h
   |some x=>
    cases h2:b.mapM (λf=>DataW.trod enc P w 0 (λ_=>true) true pos f.type ((H.drop f.offset).take (P.cellsOf f.type)))with
    |none=>simp[h1,h2]at h
    |some ys=>
     simp only[h1,h2,Option.pure_def,Option.bind_eq_bind,AAS,AAU]at h;subst h;simp only[AAm,DataW.weightsEach,AAo]at j;obtain⟨c,t,q⟩:=s a enc w pos _ x.1 x.2 h1 (λn hn=>j n (.inl hn));obtain⟨r,v,m⟩:=ih (off+P.cellsOf f.type) Xs ys d (by simpa[OV]using i) h2 (λn hn=>j n (.inr hn));refine⟨c++r,⟨c,r,rfl,t,v⟩,?_⟩;have y:∀(l:List Field)(o:Nat),o<=OV P l o:=by
      intro l;induction l with
      |nil=>intro o;exact AAv _
      |cons g l ih=>intro o;have:=ih (o+P.cellsOf g.type);simp only[OV];omega
     have z:=y b (off+P.cellsOf f.type);have e:(H.drop off).take (OV P (f::b) off-off)=(H.drop f.offset).take (P.cellsOf f.type)++(H.drop (off+P.cellsOf f.type)).take (OV P b (off+P.cellsOf f.type)-(off+P.cellsOf f.type)):=(by rw[u,<- List.drop_drop];simp only[OV];rw[show OV P b (off+P.cellsOf f.type)-off=P.cellsOf f.type+(OV P b (off+P.cellsOf f.type)-(off+P.cellsOf f.type))from by omega,List.take_add]);rw[e];exact q.append m
theorem kB{b:Array Field}{Xs:mj}(h:P.underlying t=some (.struct b))(k:q9 P b.toList 0 Xs)(g:OV P b.toList 0=P.cellsOf t):OP P t (CatX Xs):=by
 intro H enc w fuel j d o a m;cases fuel with
 |zero=>simp[DataW.trod]at a
 |succ fuel=>
  simp only[DataW.trod,h]at a
  . split at a
    . rename_i e;cases hm:b.toList.mapM (λf=>DataW.trod enc P w 0 (λ_=>true) true fuel f.type ((j.drop f.offset).take (P.cellsOf f.type)))with
      |none=>simp[hm]at a
      |some xs=>simp only[hm,AA1,AAU,AAj]at a;obtain⟨rfl,rfl⟩:=a;obtain⟨i,l,c⟩:=kA b.toList 0 Xs xs k (by rw[g,e];exact AAv _) hm (λn hn=>m n (by rw[DataW.weights,h];exact hn));refine⟨i,l,?_⟩;rw[g,<- e]at c;simpa using c
    . cases a
def bU(P:iz)(t:jo)(IE:i5):AV:=if(match P.underlying t with|some (.struct _)=>true|some (.array _ _)=>true|_=>false)=true then .agg IE else IE.headD .dead
def ArgsX(P:iz):List TypeId->List (List AV->Prop)->List AV->Prop
 |[],[],as'=>as'=[]
 |t::ts,X::Xs,as'=>∃IE r,as'=bU P t IE::r/\X IE/\ArgsX P ts Xs r
 |_,_,_=>False
def q8(P:iz):List TypeId->List (List AV->Prop)->Prop
 |[],[]=>True
 |t::ts,X::Xs=>OP P t X/\q8 P ts Xs
 |_,_=>False
theorem yN{enc:TypeId×Value->a}{base:Nat}(k:List TypeId):∀(Xs:mj)(vs:jj)(ds:List (DataW a)) (I:List MemPlace),q8 P k Xs->DataW.TrodAll enc P w 0 (λ_=>true) true k vs ds I->
 (∀(j:Nat) t v,k[j]? =some t->vs[j]? =some v->Value.okWide P w .any base t v)->(∀n∈DataW.weightsEach P k ds,n<=reachBytes)->
 ∃f:List AV,ArgsX P k Xs f/\f.length=vs.length/\∀(i:Nat) H v,f[i]? =some H->vs[i]? =some v->Fz w (Old w) H v:=by
 induction k with
 |nil=>
  intro Xs vs ds I l D s B;obtain⟨rfl,rfl,rfl⟩:=trodAll_nil D;cases Xs with
  |nil=>exact⟨[],rfl,rfl,λi H v h=>by simp at h⟩
  |cons=>exact l.elim
 |cons t k ih=>
  intro Xs vs ds I l D s B;cases Xs with
  |nil=>exact l.elim
  |cons X Xs=>
   obtain⟨U,l⟩:=l;obtain⟨v,K,d,C,p,q,rfl,rfl,rfl,⟨fuel,O⟩,Q⟩:=trodAll_cons D;simp only[DataW.weightsEach,AAo]at B;obtain⟨x,V,o⟩:=U a enc w fuel _ d p O (λn hn=>B n (.inl hn));obtain⟨r,E,F,G⟩:=ih Xs K C q l Q (λj W Z M J=>s (j+1) W Z (by simpa using M) (by simpa using J)) (λn hn=>B n (.inr hn));have c:=s 0 t v rfl rfl;refine⟨bU P t x::r,⟨x,r,rfl,V,E⟩,by simp[F],?_⟩;intro i H u m z;cases i with
   |succ i=>simp at m z;exact G i H u m z
   |zero=>
    simp only[ABA,AAU]at m z;subst m;subst z;unfold bU;by_cases b:(match P.underlying t with|some (.struct _)=>true|some (.array _ _)=>true|_=>false)=true
    . rw[AAb b];obtain⟨y,rfl⟩:∃y,v= .agg y:=by
       unfold Value.okWide at c;split at c
       . exact⟨_,c.choose_spec.1⟩
       . exact⟨_,c.choose_spec.1⟩
       . rename_i R T;exfalso;split at b
         . rename_i N g;exact R N g
         . rename_i n e g;exact T n e g
         . cases b
      have:=Fz.agg (w:=w) (S:=Old w) x y.toList (by rw[o.1];rfl) (λi H v m s=>o.2 i H v m s);simpa using this
    . rw[AAa b];have L:v.cells.toList=[v]:=by
       unfold Value.okWide at c;split at c
       . rename_i g;simp[g]at b
       . rename_i g;simp[g]at b
       . cases v with
         |agg y=>
          exfalso;unfold Cell.okWide at c;split at c<;>rename_i J<;>try (cases J;done)
          . simp[Cell.ok]at c
         |_=>rfl
      rw[L]at o;obtain⟨H,rfl⟩:∃H,x=[H]:=List.length_eq_one_iff.1 o.1;exact o.2 0 H v rfl rfl
end
variable{V:iu}{O:ChangeSpec}{W:ja}{T:jt}{F pa pv:List MemPlace}
section
open Go.ChangeShapes Go.WideShapes Go.ChangeAt Go.RowKit
theorem Y2{S:iu}(c:i5):∀(vs:jj),vs.length=c.length->(∀(i:Nat) a v,c[i]? =some a->vs[i]? =some v->∃D:DV,D.er=a/\D.A0=v/\Ok w S D (λ_=>False))->
 ∃b:List DV,b.map DV.er=c/\b.map DV.A0=vs/\∀D∈b,Ok w S D (λ_=>False):=by
 induction c with
 |nil=>intro vs h _;cases vs with|nil=>exact⟨[],rfl,rfl,ak⟩|cons=>simp at h
 |cons a c ih=>
  intro vs h e;cases vs with
  |nil=>simp at h
  |cons v vs=>
   obtain⟨b,d1,f,g⟩:=ih vs (by simpa using h) (λi a v m n=>e (i+1) a v (by simpa using m) (by simpa using n));obtain⟨D,j,k,l⟩:=e 0 a v rfl rfl;refine⟨D::b,by simp[d1,j],by simp[f,k],?_⟩;intro X d;rcases AAr.1 d with rfl|d
   . exact l
   . exact g X d
theorem fz_tree(h:Fz w V x v):∃D:DV,D.er=x/\D.A0=v/\Ok w V D (λ_=>False):=by
 induction h with
 |sc v hp=>exact⟨.lf (.sc v) v,ak,ak,.lf _ _ _ ⟨rfl,hp⟩ (λ_ h=>h)⟩
 |dead v=>exact⟨.lf .dead v,ak,ak,.lf _ _ _ trivial (λ_ h=>h)⟩
 |nil a k x c hx=>exact⟨.lf (.sl a k []) (.slice x 0 c),ak,ak,.lf _ _ _ (Fz.nil a k x c hx) (λ_ h=>h)⟩
 |sl a k rows b off c vs hx SE hS hk hc hr ih=>exact⟨.lf (.sl a k rows) (.slice (some ⟨b,off,none⟩) rows.length c),ak,ak,.lf _ _ _ (Fz.sl a k rows b off c vs hx SE hS hk hc hr) (λ_ h=>h)⟩
 |agg cs vs hs h ih=>obtain⟨d,d1,e,f⟩:=Y2 cs vs hs ih;exact⟨.agg d,by simp[d1],by simp[e],CN.2 (CZ f)⟩
 |BZ cs vs hs h ih=>obtain⟨d,d1,e,f⟩:=Y2 cs vs hs ih;exact⟨.BZ d,by simp[d1],by simp[e],BK.2 (CZ f)⟩
section
variable{H:Type}{enc:TypeId×Value->H}{P:iz}
theorem cQ{apart fresh h:Bool}{ds l:List (DataW H)}(m:DataW.Whole enc P j.params.toList O.vars apart W T.toList ds l F)(q:∀(b:Nat)(i:js)(hd:Bool),DataW.TrodAll enc P w b i hd j.resultTypes.toList (v.resultList j.resultTypes.size) (O.fn H (ds++l)).results [])(o:∀i:Nat->Bool,(∀p∈F,i p.block=true)->DataW.TrodAll enc P w 0 i true j.params.toList T.toList (O.fn H (ds++l)).args pa)(e:∀i:Nat->Bool,(∀p∈F,i p.block=true)->DataW.TrodVars enc P w i O.vars (O.fn H (ds++l)).vars pv)(g:F=pa++pv)(k:Below W.heap.size W w)(x:∀(f:Nat)(t:jo)(r:jn),j.resultTypes[f]? =some t->(v.resultList j.resultTypes.size)[f]? =some r->Value.okWide P w .any 0 t r):
 O.post enc P j apart fresh c h W T v w:=by
 have n:∀p∈F,p.block<W.heap.size:=λp d=>m.lt p d;have hold:∀p∈F,(λb=>decide (b<W.heap.size)) p.block=true:=λp d=>by simpa using n p d
 refine⟨ds,l,F,[],pa,pv,m,q _ _ _,o _ hold,e _ hold,World.keptBut_mono (λp d=>⟨d,?_⟩) (k.frame (· ∈F)),λ_=> ?_⟩
 . rw[g,AAo]at d;exact Or.inr d
 . obtain⟨_,_,_,_,_,z,hn⟩:=m;refine⟨x,_,_,([]++pa)++pv,⟨[]++pa,pv,trodAll_append (o _ (λ_ _=>rfl)) (q _ _ _),e _ (λ_ _=>rfl),rfl,?_,?_⟩,?_⟩
   . intro b off d;have u:MemPlace.cell b off∈F:=(by rw[g];simpa using d);rw[k.frozen (n _ u)];exact z b off u
   . intro y
     have:=hn y;rw[g]at this;simpa using this
   . intro p d _;rw[g];simpa using d
theorem dO(n:laidOutB P=true){k:js}(c:List TypeId):∀{vs:jj}{ds:List (DataW H)} {b:List MemPlace},(∀t∈c,P.readableRec t=true/\t<P.types.size)->
 DataW.TrodAll enc P W 0 (λ_=>true) true c vs ds b->(∀p∈b,W.sameAt w p)->(∀p∈b,k p.block=true)->DataW.TrodAll enc P w 0 k true c vs ds b:=by
 induction c with
 |nil=>intro vs ds b _ f _ _;obtain⟨rfl,rfl,rfl⟩:=trodAll_nil f;exact rfl
 |cons t c ih=>intro vs ds b j f h i;obtain⟨v,o,d,l,p,q,rfl,rfl,rfl,m,g2⟩:=trodAll_cons f;have e:=j t ak;exact⟨p,q,WideElems.Trod_stays n e.1 e.2 m (λx a=>h x (by simp[a])) (λx a=>i x (by simp[a])),ih (λt e=>j t (by simp[e])) g2 (λx a=>h x (by simp[a])) (λx a=>i x (by simp[a])),rfl⟩
theorem jR{Xs:mj}{fresh:Bool}(hv:O.vars=[])(XS:j.resultTypes= #[tb])(J:P.underlying tb=some .bool)(hl:laidOutB P=true)(P6:∀t∈j.params.toList,P.readableRec t=true/\t<P.types.size)(hO:q8 P j.params.toList Xs)(hS:∀C,ArgsX P j.params.toList Xs C->Says P pos C (sb true))(s:∀ds:List (DataW H),ds.length=j.params.toList.length->O.fn H ds={results:=[.lit (.bool true)],args:=ds}){base:Nat}{args:jt}{ds gs:List (DataW H)}(B0:∀(g:Nat) t v,j.params[g]? =some t->args[g]? =some v->Value.okWide P W .any base t v)(hW:DataW.Whole enc P j.params.toList O.vars false W args.toList ds gs F)(B:(DataW.weightsEach P (j.params.toList++O.plain.varTypes P) (ds++gs)).all (· <=reachBytes)=true)(NM:GI W (Old W)):Calls P pos args W λe Q=>∃v,e= .returned v/\O.post enc P j false fresh m c W args v Q:=by
 have z:=hW;obtain⟨p,q,X,hV,rfl,Ou,hnd⟩:=hW;rw[hv]at hV;obtain⟨rfl,rfl⟩:=trodVars_none hV;simp only[List.append_nil]at z B;have y:ds.length=j.params.toList.length:=by
  have:∀(l:List TypeId){vs:jj}{ds:List (DataW H)} {ps:List MemPlace},DataW.TrodAll enc P W 0 (λ_=>true) true l vs ds ps->ds.length=l.length:=by
   intro l;induction l with
   |nil=>intro vs ds ps h;obtain⟨rfl,rfl,rfl⟩:=trodAll_nil h;rfl
   |cons t l ih=>intro vs ds ps h;obtain⟨v,vs1,d,ds1,p,q,rfl,rfl,rfl,g1,g2⟩:=trodAll_cons h;simp[ih g2]
  exact this _ X
 have K:∀n∈DataW.weightsEach P j.params.toList ds,n<=reachBytes:=by
  have key:∀(l L:List TypeId)(ds:List (DataW H)),ds.length=l.length->DataW.weightsEach P (l++L) ds=DataW.weightsEach P l ds:=by
   intro l;induction l with
   |nil=>intro L ds h;obtain rfl:ds=[]:=List.eq_nil_of_length_eq_zero h;cases L<;>rfl
   |cons t l ih=>
    intro L ds h;cases ds with
    |nil=>simp at h
    |cons d ds=>simp only[ABE,DataW.weightsEach];rw[ih L ds (by simpa using h)]
  rw[key _ _ _ y]at B;simpa using B
 obtain⟨C,hX,G,o⟩:=yN (base:=base) j.params.toList Xs args.toList ds p hO X (λg t v U V=>B0 g t v (by simpa using U) (by simpa using V)) K
 -- the call
 have KX:∃u:List DV,u.map DV.er=C/\u.map DV.A0=args.toList/\KT W (Old W) u (λ_=>False):=by obtain⟨u,d1,R,T⟩:=Y2 (w:=W) (S:=Old W) C args.toList G.symm (λi a v U V=>fz_tree (o i a v U V));exact⟨u,d1,R,CZ T⟩
 obtain⟨u,d1,R,T⟩:=KX;have N:=hS C hX W (Old W) u (λ_=>False) NM d1 (BK.2 T) (λb M=>M);rw[R]at N;have SD:args.toList.toArray=args:=ak
 rw[SD]at N;refine N.mono ?_;rintro e Q ⟨r,os,S',F',rfl,D,_,_,Cq,E,_⟩;obtain⟨Fa,Fb,jO,_⟩:=BK.1 Cq;have Z:r.A0= .bool true:=by
  cases jO with
  |lf a v _ ha hF=>rw[Eb]at D;subst D;simpa using ha.1
  |nil=>simp at D
  |own=>simp at D
  |agg=>simp at D
  |BZ=>simp at D
 have M:Below W.heap.size W Q:=⟨E.os,E.tape,E.output,E.size,λk hk=>E.block k hk id⟩;rw[Z];refine⟨_,rfl,cQ (pa:=p) (pv:=[]) z ?_ ?_ ?_ ak M ?_⟩
 . intro b sp hd;rw[List.append_nil,s ds y,XS];exact trodAll_cons_mk (shut_bool J _) trodAll_mk0
 . intro sp I;rw[List.append_nil,s ds y];exact dO hl _ P6 X (λx hx=>M.same (z.lt x hx)) (λx hx=>I x hx)
 . intro sp I;rw[List.append_nil,s ds y,hv];exact rfl
 . exact ok_one XS rfl (okWide_bool_mk J _)
end
end
end Go.Abs
