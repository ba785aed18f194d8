/- What the typed programs give, in plain Lean. -/
import Derived.Test.YtdojkofgkcmagaaGreatDoorPlainD
import Derived.Test.YtdojkofgkcmagaaGreatDoorRows
import Derived.Test.YtdojkofgkcmagaaGreatDoorTie
import Derived.ProofKit
import Derived.LaidMore
import Derived.OpenShut
set_option linter.defProp false
set_option linter.unusedSimpArgs false
set_option linter.unusedVariables false
namespace Go.Abs
variable{d:Type}{e:ja}
section
open Go.Proofs Go.RowKit
set_option maxRecDepth 100000
set_option maxHeartbeats 4000000
theorem kH{e:d->List AV}{ok:d->Prop}:∀(rows:i6),(∀row∈rows,∃x:d,row=e x/\ok x)->∃l:List d,rows=l.map e/\∀x∈l,ok x
 |[],_=>⟨[],rfl,λ_ h=>by simp at h⟩
 |r::rs,h=>by
  obtain⟨l,a,f⟩:=kH rs (λrow g=>h row (by simp[g]));obtain⟨x,i,b⟩:=h r ak;refine⟨x::l,by rw[i,a];rfl,λy c=> ?_⟩;rcases AAr.1 c with rfl|c
  . exact b
  . exact f y c
def PT(x:Int):Prop:=(Lit.int .u8 x).wf=true
structure Kw (x:List Int):Prop where
 len:x.length*1<=reachBytes
 all:∀y∈x,PT y
structure jY (x:Kk):Prop where
 f0:Kw x.ed
 f1:Kw x.GM
 f2:Kw x.mA
 f3:PT x.B3
 f4:PT x.dW
def op5:OP Tryz.prog 5 (λa=>∃x:Int,a=[.sc (.int .u8 x)]/\PT x):=(lT Tryz.underlying5).mono λ_ ⟨n,h,b⟩=>⟨n,h,b⟩
theorem op22:OP Tryz.prog 22 (λb=>∃x:List Int,b=[vS 1 iX x]/\Kw x):=by
 refine(fK (k:=1) Tryz.underlying22 (by kernel_rfl) ah op5).mono ?_;rintro b ⟨rows,rfl,f,c⟩;obtain⟨l,rfl,d⟩:=kH (e:=iX) (ok:=PT) rows λrow h=>(f row h).1;have a:Tryz.prog.bytesOf 5=1:=by kernel_rfl
 rw[a,AA6]at c;exact⟨l,rfl,c,d⟩
theorem op24:OP Tryz.prog 24 (λa=>∃x:Kk,a=Yx x/\jY x):=by refine(kB (Xs:=[λa=>∃x:List Int,a=[vS 1 iX x]/\Kw x,λa=>∃x:List Int,a=[vS 1 iX x]/\Kw x,λa=>∃x:List Int,a=[vS 1 iX x]/\Kw x,λa=>∃x:Int,a=[.sc (.int .u8 x)]/\PT x,λa=>∃x:Int,a=[.sc (.int .u8 x)]/\PT x]) Tryz.underlying24 ⟨by kernel_rfl,op22,⟨by kernel_rfl,op22,⟨by kernel_rfl,op22,⟨by kernel_rfl,op5,⟨by kernel_rfl,op5,trivial⟩⟩⟩⟩⟩ (by kernel_rfl)).mono ?_;rintro a ⟨a0,p,rfl,⟨g,rfl,b⟩,⟨l,q,rfl,⟨h,rfl,c⟩,⟨m,r,rfl,⟨i,rfl,d⟩,⟨n,s,rfl,⟨j,rfl,e⟩,⟨o,t,rfl,⟨k,rfl,f⟩,rfl⟩⟩⟩⟩⟩;exact⟨⟨g,h,i,j,k⟩,rfl,⟨b,c,d,e,f⟩⟩
theorem arg24(a:i5):bU Tryz.prog 24 a= .agg a:=by unfold bU;rw[Tryz.underlying24];rfl
def okI_i64(x:Int):Prop:=(Lit.int .i64 x).wf=true
structure okL_I_i64 (x:List Int):Prop where
 len:x.length*8<=reachBytes
 all:∀y∈x,okI_i64 y
def op3:OP Tryz.prog 3 (λa=>∃x:Int,a=[si x]/\okI_i64 x):=(lT Tryz.underlying3).mono λ_ ⟨n,h,b⟩=>⟨n,h,b⟩
theorem op38:OP Tryz.prog 38 (λb=>∃x:List Int,b=[vS 1 eI x]/\okL_I_i64 x):=by
 refine(fK (k:=1) Tryz.underlying38 (by kernel_rfl) ah op3).mono ?_;rintro b ⟨rows,rfl,f,c⟩;obtain⟨l,rfl,d⟩:=kH (e:=eI) (ok:=okI_i64) rows λrow h=>(f row h).1;have a:Tryz.prog.bytesOf 3=8:=by kernel_rfl
 rw[a,AA6]at c;exact⟨l,rfl,c,d⟩
theorem arg38(a:AV):bU Tryz.prog 38 [a]=a:=by unfold bU;rw[Tryz.underlying38];rfl
theorem laid:laidOutB Tryz.prog=true:=by kernel_rfl
theorem own0:ownKnob Tryz.prog.godebug=none:=by kernel_rfl
abbrev oG:List (String×DataW Unit):=[("interleave/token.keywords",Go.Proofs.YtdojkofgkcmagaaGreatDoor.Rows.laid_interleave_token_keywords)]
theorem gName:Tryz.prog.globalNamed "interleave/token.keywords" =some 0:=by kernel_rfl
theorem gType:(Tryz.prog.globals[0]?).map (·.type)=some 293:=by kernel_rfl
theorem laidDatum:(Go.Proofs.YtdojkofgkcmagaaGreatDoor.Rows.laid_interleave_token_keywords:DataW Unit)= .agg (Mw.map λs=>.lit (.string s.data.toList)):=rfl
theorem sX(h:laidMetH Tryz.prog oG e):GI e (Old e):=by
 rw[MakeChecks.laidMetH_plain _ _ _ (by kernel_rfl)]at h;obtain⟨G,⟨g0,I,c,f0,F,H,i,n,o,f,_,_⟩,_,_⟩:=h;obtain rfl:=AAW (gName.symm.trans i);obtain rfl:=AAW (gType.symm.trans n);obtain⟨w,m,rfl,p,t,hn,g⟩:=DataW.trod_array Tryz.underlying293 f;have ce:Tryz.prog.cellsOf 9=1:=by kernel_rfl
 rw[laidDatum]at p;simp only[AAj,DataW.agg.injEq]at p;have r:∀(j:Nat) s,Mw[j]? =some s->e.cell? ⟨0,j,none⟩=some (.string s):=by
  intro j s b;have k:j<22:=by have:=(AAV.1 b).1;exact this
  have a:(w.map (·.1))[j]? =some (.lit (.string s.data.toList)):=by rw[<- p.1,AAf,b];rfl
  rw[AAf]at a;cases hxs:w[j]? with
  |none=>rw[hxs]at a;cases a
  |some y=>have u:=g j k;rw[hxs,ce]at u;obtain⟨W,B,D,_⟩:=DataW.trod_string Tryz.underlying9 u;rw[hxs]at a;simp only[AA1,AAU]at a;rw[D]at a;simp only[DataW.lit.injEq,Lit.string.injEq]at a;have l:W=s:=ByteArray.ext (Array.toList_inj.1 a);subst l;rw[World.var?_cell gName o j];have:(c.toList.drop (j*1)).take 1=[.string W]:=B;rw[Nat.mul_one]at this;have d:c.toList[j]? =some (.string W):=(by have C:((c.toList.drop j).take 1)[0]? =some (.string W):=(by rw[this];rfl);simpa using C);simpa using d
 intro x q;have:x=(0,Mw.map Value.string):=by simpa[Gam]using q
 subst this;have d:=r 0 _ rfl;obtain⟨_,z⟩:=wE d;refine⟨z,?_⟩;unfold World.cell? at d;cases hb:e.heap[0]? with
 |none=>simp[hb]at d
 |some NU=>
  cases NU with
  |cells arr E fz=>
   refine⟨arr,E,fz,rfl,λj v b=> ?_⟩;rw[AAf]at b;cases hs:Mw[j]? with
   |none=>rw[hs]at b;cases b
   |some s=>
    rw[hs]at b;simp only[AA1,AAU]at b;subst b
    have:=r j s hs;unfold World.cell? at this;simpa[hb]using this
  |_=>simp[hb]at d
end
variable{b:Int}
theorem u8_of(h:PT b):0<=b/\b<256:=by unfold PT Lit.wf at h;simp only[AAT,AAl]at h;have c:=h.1;have d:=h.2;have a:IntKind.u8.min=0:=rfl;have x:IntKind.u8.max=255:=rfl;omega
variable{c:ABu Bool}
theorem true_of(h:B5 c λb=>b=true):c=some true:=by obtain⟨b,h,rfl⟩:=h;exact h
variable{l:iq}
def Zc(h:Kw l):TC l:=λx a=>u8_of (h.all x a)
theorem len_in(h:Kw l):l.length<=4000000000000000000:=by have:=h.len;unfold reachBytes at this;omega
variable{a:Kk}
def view_in(h:jY a):rC a:=⟨Zc h.f0,Zc h.f1,Zc h.f2,u8_of h.f3,u8_of h.f4⟩
def LMeets_law(h:jY a):Dg a l=some true:=true_of (LMeets_tot (view_in h) (len_in h.f0))
end Go.Abs
