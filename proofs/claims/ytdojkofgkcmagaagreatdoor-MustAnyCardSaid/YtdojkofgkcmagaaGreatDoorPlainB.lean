/- What the typed programs give, in plain Lean. -/
import Derived.Test.YtdojkofgkcmagaaGreatDoorWalkT
import Derived.Test.YtdojkofgkcmagaaGreatDoorPlainA
import Derived.KernelRfl
import Derived.Shelf.Slices.SearchI
set_option linter.all false
namespace Go.Abs
variable{a n p m:Nat}{L:Int->Prop}{w:AF}{t k o wake b:Int}{wv:AG}{s:AD}{c W:iT}{pre:jo}{B F:kj}{y z C D E f:Bool}{g u:BX}{G l':l0}{x:An}
section
set_option maxHeartbeats 4000000
theorem Kd{L:Nat->Int->ABm Bool}{p:j4}{R:ABm Bool}(b:∀(n i:Nat),i<a->L (n+1) (i:Int)=if p i=true then L n ((i+1:Nat):Int)else some false)(N:∀n,L (n+1) (a:Int)=R):∀n i:Nat,i<=a->a<n+i->L n (i:Int)=if Gm p i (a-i)=true then R else some false|0,i,h1,h2=>ah|n+1,i,h1,h2=>by by_cases hi:i<a;(rw[b n i hi,show a-i=(a-(i+1))+1 from by omega,Gm];cases hp:p i with|false=>rfl|true=>rw[AAQ rfl,AAj,Kd b N n (i+1) ah ah]);have:i=a:=ah;subst this;rw[N,Nat.sub_self];rfl
def AAB(w:AF)(i:Nat):Bool:=decide (0<=ix w.de.df i)&&decide (ix w.de.df i<=400)
theorem XP(w:AF)(b:w.de.df.length<=4):∀(n i:Nat)(c:Int),i<=w.de.df.length->w.de.df.length<n+i->0<=c->c<=400*i->CT.AU w n c (i:Int)=if Gm (AAB w) i (w.de.df.length-i)=true then CT.J2 w (c+(w.de.df.drop i).sum)else some false|0,i,c,h1,h2,h3,h4=>ah|n+1,i,c,h1,h2,h3,h4=>by unfold CT.AU CT.L1;by_cases hi:i<w.de.df.length;rw[Ay ah,Be hi,AAK,show w.de.df.length-i=(w.de.df.length-(i+1))+1 from by omega,Gm,DQ hi,List.sum_cons];unfold AAB CT.J1;rw[CH hi];generalize w.de.df[i]=d;by_cases a:d<0;grind;rw[AR a];by_cases g2:d>400;grind;rw[show decide (d>400)=false from by simp_all,AAP ak,CY ah ah,AW ah,XP w b n (i+1) _ ah ah ah ah,show decide (0<=d)=true from by simp;omega,show decide (d<=400)=true from by simp;omega,Int.add_assoc];rfl;rw[AR ah,EW hi,List.sum_nil,Int.add_zero,show w.de.df.length-i=0 from by omega];rfl
theorem XF(w:AF)(b:w.de.df.length<=4):∀(n i:Nat)(c:Int),i<=w.de.df.length->w.de.df.length<n+i->0<=c->c<=400*i->FZ.AU w n c (i:Int)=CT.AU w n c (i:Int)|0,i,c,h1,h2,h3,h4=>ah|n+1,i,c,h1,h2,h3,h4=>by unfold FZ.AU FZ.L1 CT.AU CT.L1;by_cases hi:i<w.de.df.length;rw[Ay ah,Ay ah,Be hi,AAK,AAK];unfold FZ.J1 CT.J1;rw[Be hi,AAK];generalize w.de.df[i]=d;by_cases a:d<0;simp_all;rw[AR a,AR a];by_cases g2:d>400;simp_all;rw[show decide (d>400)=false from by simp_all,AAP ak,AAP ak,CY ah ah,AW ah,XF w b n (i+1) _ ah ah ah ah];rw[AR ah,AR ah];rfl
theorem Y3(w:AF)(e:w.de.df.length<=4)(k:w.AA.length<=16):CT w=some (Lm w):=by
 have i:=BN;unfold CT;have:=XP w e BQ 0 0 ah ah ah ah;rw[Int.natCast_zero]at this;rw[this,Nat.sub_zero,AAr,Int.zero_add];unfold Lm;change (if Gm (AAB w) 0 _=true then _ else _)=some (Gm (AAB w) 0 _&&_);cases ha:Gm (AAB w) 0 w.de.df.length with
 |false=>rfl
 |true=>
  rw[AAQ rfl,AAj];unfold CT.J2 CT.J3;have m:0<=w.de.df.sum/\w.de.df.sum<=1600:=by(have c:=I8.1 ha;have key:∀l:List Int,(∀x∈l,0<=x/\x<=400)->0<=l.sum/\l.sum<=400*l.length:=by intro l;induction l with|nil=>grind|cons x l ih=>intro h;have a:=h x ak;have b:=ih λy g=>h y (by simp[g]);grind);(have:=key w.de.df λx f=>by obtain⟨j,d,rfl⟩:=ABR f;have:=c j ah ah;unfold AAB at this;rw[CH d]at this;simp_all);omega
  rw[CY ah ah];grind
theorem uU(w:AF)(a:w.de.df.length<=4)(b:w.AA.length<=16):FZ w=some (Lm w):=by rw[<- Y3 w a b];exact XF w a BQ 0 0 ah aS ah ah
theorem pU(f:∀x,x<0->L x)(g:∀x,5<x->L x)(a0:L 0)(a:L 1)(b:L 2)(c:L 3)(d:L 4)(e:L 5)(x:Int):L x:=aA
structure WinF (w:AF):Prop where
 v:DA w.db=true
 f:I4 w.db w.de=true
 e:w.AA.length<=16
structure NO (w:AF):Prop where
 s:Small w.db
 l:w.de.dc.AK.length=w.db.AK.length
 d:w.de.dc.Bs.length=w.db.AM.length
 t:w.de.dc.AB.length=w.db.AB.length
 u:w.de.AM.length=w.db.AM.length
 c:w.de.df.length=w.db.AB.length
 m:∀o,B4 o w.db.Aj.length=true->B4 (ix w.db.Aj o).dn w.db.AK.length=true
theorem WinF.l(h:WinF w):NO w:=by obtain⟨f1,f2,f3,f4⟩:=Hq h.f;obtain⟨b,c,d⟩:=Dn f1;exact⟨Eh h.v,b,c,d,f3,f4,λo a=>Fg f1 a⟩
theorem kZ(h:NO w)(n i:Nat)(hi:i<w.de.dc.AB.length):BP.AU w (n+1) (i:Int)=if(Ox w i (JJ w i)&&YK w i (JJ w i))=true then BP.AU w n ((i+1:Nat):Int)else some false:=by
 have f:=h.s.t;have g:=h.t;have j:=h.c;rw[BP.AU];unfold BP.L1 JJ;rw[Ay ah,Be hi,AAK,CH hi];generalize w.de.dc.AB[i]=x;unfold BP.J1 BP.J2 BP.J3 BP.J4 BP.J5;rw[AW ah];generalize BP.AU w n ((i+1:Nat):Int)=R;rw[Bv (l:=w.de.df) (As.2 ah)];simp only[AAK,AAq,AAd,AAU];unfold Ox YK Vz;have e:((i:Int)==0)=(i==0):=by rw[Bool.eq_iff_iff,AAb,AAb];omega
 rw[e];generalize (ix w.de.df (i:Int)==0)=c;have d:(if decide (x.DS<0)=true then some false else if decide (x.DS>=(w.db.Aj.length:Int))=true then some false else
  (gt w.db.Aj x.DS).bind λl=>(gt w.de.dc.AK l.dn).bind λo=>if(o.Bw==(i:Int))=true then some false else R)=
  if(B4 x.DS w.db.Aj.length&&(ix w.de.dc.AK (ix w.db.Aj x.DS).dn).Bw != (i:Int))=true then R else some false:=by
  by_cases b:x.DS<0;rw[Ay b,show B4 x.DS w.db.Aj.length=false from by rw[Bool.eq_false_iff];intro h;have:=As.1 h;omega];rfl;rw[AR b];by_cases g2:x.DS>=(w.db.Aj.length:Int);rw[Ay g2,show B4 x.DS w.db.Aj.length=false from by rw[Bool.eq_false_iff];intro h;have:=As.1 h;omega];rfl;have a:B4 x.DS w.db.Aj.length:=As.2 ah;rw[AR g2,Bv a,AAK,Bv (by rw[h.l];exact h.m _ a),AAK,a,AAj];simp_all
 generalize x.DS=co at d |-;generalize x.dh=st;revert st;refine pU ?_ ?_ ?_ ?_ ?_ ?_ ?_ ?_;all_goals grind
def XK(i:Int)(n:Nat):Li i (n:Int)=some (B4 i n):=Oo i n
theorem vB(h:NO w)(n i:Nat)(hi:i<w.de.dc.AB.length):CR.AU w (n+1) (i:Int)=if Ox w i (JJ w i)=true then CR.AU w n ((i+1:Nat):Int)else some false:=by
 have d:=h.s.t;have e:=h.t;have f:=h.c;rw[CR.AU];unfold CR.L1 JJ;unfold CR.J1 CR.J2 CR.J3 CR.J4;rw[Ay ah,Be hi,CH hi];generalize w.de.dc.AB[i]=x;rw[AW ah];generalize CR.AU w n ((i+1:Nat):Int)=R;rw[Bv (l:=w.de.df) (As.2 ah)];simp only[AAK,AAq,AAd,AAU,XK];unfold Ox Vz;have a:((i:Int)==0)=(i==0):=by rw[Bool.eq_iff_iff,AAb,AAb];omega
 rw[a];generalize (ix w.de.df (i:Int)==0)=c;generalize B4 x.DS w.db.Aj.length=b;generalize x.DS=co;generalize x.dh=st;revert st;refine pU ?_ ?_ ?_ ?_ ?_ ?_ ?_ ?_;all_goals grind
theorem Rx(w:AF)(t:Int):CM t w=some (I1 w.de.df t):=by unfold CM CM.J1 I1;by_cases h:B4 t w.de.df.length=true;have:=As.1 h;rw[Ay ah,Ay ah,Bv h,h];rfl;rw[show B4 t w.de.df.length=false from by grind];by_cases g:t>=0;rw[Ay g,AR (λk=>h (As.2 ⟨g,k⟩))];rfl;grind
theorem Ru(w:AF)(t:Int):Fj w t=some (I1 w.de.df t):=by unfold Fj Fj.J1 I1;rw[XK,AAK];cases h:B4 t w.de.df.length with|true=>rw[AAQ rfl,Bv h];rfl|false=>rfl
theorem p5(w:AF)(x:AQ)(c:x.Ae.length<=4611686018427387904)(L1:i6)(b:Int):∀(n e:Nat)(f:Int),e<=x.Ae.length->x.Ae.length<n+e->Ai.B9 L1 b w x n f (e:Int)=if I7 w.de.df f (x.Ae.drop e)=true then L1 (A9 (b+1))else some false|0,e,f,h1,h2=>ah|n+1,e,f,h1,h2=>by unfold Ai.B9 Ai.L2;by_cases a:e<x.Ae.length;(rw[Ay ah,Be a,AAK,DQ a,I7,Rx,AAK];unfold Ai.J3;by_cases g:x.Ae[e]<=f;grind;rw[AR g,show decide (f<x.Ae[e])=true from by grind,AAj,AW ah];cases I1 w.de.df x.Ae[e]with|false=>rfl|true=>rw[AAP ak,AAj];exact p5 w x c L1 b n (e+1) _ ah ah);rw[AR ah,EW a];rfl
theorem oU(w:AF)(x:AQ)(c:x.Ae.length<=4611686018427387904)(L1:i6)(b:Int):∀(n e:Nat)(f:Int),e<=x.Ae.length->x.Ae.length<n+e->(∀(h:0<e)(i:e-1<x.Ae.length),f=x.Ae[e-1])->(e=0->f= -1)->BC.B9 L1 b w x n (e:Int)=if I7 w.de.df f (x.Ae.drop e)=true then L1 (A9 (b+1))else some false|0,e,f,h1,h2,_,_=>ah|n+1,e,f,h1,h2,h3,h4=>by unfold BC.B9 BC.L2;by_cases a:e<x.Ae.length;(rw[Ay ah,Be a,AAK,DQ a,I7,Ru,AAK];unfold BC.J2;have j:=oU w x c L1 b n (e+1) x.Ae[e] ah ah (λ_ _=>rfl) cm;cases hb:I1 w.de.df x.Ae[e]with|false=>simp_all|true=>have d:=As.1 (AAL _ _▸hb).1;rw[AAP ak,AW ah,AAj];by_cases g:0<e;rw[Ay ah,CY ah ah,show(e:Int)-1=((e-1:Nat):Int)from by omega,Be ah,AAK,<- h3 g ah];grind;grind);rw[AR ah,EW a];rfl
theorem W8{a:Type}(l:List a):decide ((l.length:Int)>0)= !l.isEmpty:=by cases l<;>simp<;>omega
theorem vT(h:NO w)(c:RB 4611686018427387904 w.de.dc)(n i:Nat)(hi:i<w.de.dc.AK.length):Ai.AU w (n+1) (i:Int)=if Ny w i (ix w.de.dc.AK i)=true then Ai.AU w n ((i+1:Nat):Int)else some false:=by have d:=h.s.l;have e:=h.l;rw[Ai.AU];unfold Ai.L1;rw[Ay ah,Be hi,AAK,CH hi,Rx,AAK];have b:=c _ (AAW hi);generalize w.de.dc.AK[i]=x at b |-;unfold Ai.J1 Ai.J2;have a:=p5 w x b (Ai.AU w n) i BQ 0 (-1) ah aS;rw[Int.natCast_zero,AAr,AW ah]at a;rw[a,W8,Bv (As.2 ah),AAK];generalize Ai.AU w n ((i+1:Nat):Int)=R;unfold Ny;grind
theorem u9(h:NO w)(c:RB 4611686018427387904 w.de.dc)(n i:Nat)(hi:i<w.de.dc.AK.length):BC.AU w (n+1) (i:Int)=if Ny w i (ix w.de.dc.AK i)=true then BC.AU w n ((i+1:Nat):Int)else some false:=by have d:=h.s.l;have e:=h.l;rw[BC.AU];unfold BC.L1;rw[Ay ah,Be hi,AAK,CH hi,Ru,AAK];have b:=c _ (AAW hi);generalize w.de.dc.AK[i]=x at b |-;unfold BC.J1;have a:=oU w x b (BC.AU w n) i BQ 0 (-1) ah aS cm (λ_=>rfl);rw[Int.natCast_zero,AAr,AW ah]at a;rw[a,W8,Bv (As.2 ah),AAK];generalize BC.AU w n ((i+1:Nat):Int)=R;unfold Ny;grind
theorem vR(h:NO w)(n i:Nat)(hi:i<w.de.dc.AB.length):Ai.Fw w (n+1) (i:Int)=if Ns w i (JJ w i)=true then Ai.Fw w n ((i+1:Nat):Int)else some false:=by have a:=h.s.t;have b:=h.t;rw[Ai.Fw];unfold Ai.L3 Ai.J7 JJ Ns;rw[Ay ah,Be hi,AAK,CH hi,Rx,AAK,AW ah];grind
theorem uT(h:NO w)(n i:Nat)(hi:i<w.de.dc.AB.length)(c:Ox w i (JJ w i)):BC.Fw w (n+1) (i:Int)=if(Ns w i (JJ w i)&&YK w i (JJ w i))=true then BC.Fw w n ((i+1:Nat):Int)else some false:=by
 have e:=h.s.t;have f:=h.t;rw[BC.Fw];unfold BC.L3 BC.J6 BC.J7;unfold Ox at c;unfold JJ at c |-;unfold Ns YK;rw[Ay ah,Be hi,AAK,CH hi,Ru,AAK,AW ah];rw[CH hi]at c;generalize BC.Fw w n ((i+1:Nat):Int)=R;generalize w.de.dc.AB[i]=x at c |-;simp only[AAL]at c;obtain⟨_,_,_,b⟩:=c;unfold Vz at b |-;have d:∀(a:Bool),(if(!a)=true then some false else if(x.dh==3)=true then(gt w.db.Aj x.DS).bind λz=>(gt w.de.dc.AK z.dn).bind λq=>if(q.Bw==(i:Int))=true then some false else R
  else if(x.dh==4)=true then(gt w.db.Aj x.DS).bind λz=>(gt w.de.dc.AK z.dn).bind λq=>if(q.Bw==(i:Int))=true then some false else R else if false=true then some false else R)=
  if(a&&(!(x.dh==3||x.dh==4)||(ix w.de.dc.AK (ix w.db.Aj x.DS).dn).Bw != (i:Int)))=true then R else some false:=by
  intro a;cases a with|false=>rfl|true=>rw[AAP ak,AAj];cases g3:x.dh==3 with|true=>rw[g3]at b;have b:B4 x.DS w.db.Aj.length:=(by simpa using b);rw[AAQ rfl,Bv b,AAK,Bv (by rw[h.l];exact h.m _ b),AAK];simp_all|false=>cases g4:x.dh==4 with|true=>rw[g3,g4]at b;have b:B4 x.DS w.db.Aj.length:=(by simpa using b);rw[AAP ak,AAQ rfl,Bv b,AAK,Bv (by rw[h.l];exact h.m _ b),AAK];simp_all|false=>rfl
 grind
theorem vfut_step(h:NO w)(n i:Nat)(hi:i<w.de.AM.length):B8.AU w.de (n+1) (i:Int)=if eF w i=true then B8.AU w.de n ((i+1:Nat):Int)else some false:=by have a:=h.s.f;have b:=h.d;have c:=h.u;rw[B8.AU];unfold B8.L1 B8.J1 eF;rw[Ay ah,Bv (As.2 ah),AAK,Bv (As.2 ah),AAK,AW ah];grind
theorem rfut_step(h:NO w)(n i:Nat)(hi:i<w.de.AM.length):CD.AU w (n+1) (i:Int)=if eF w i=true then CD.AU w n ((i+1:Nat):Int)else some false:=by have a:=h.s.f;have b:=h.d;have c:=h.u;rw[CD.AU];unfold CD.L1 CD.J2 eF;rw[Ay ah,Bv (As.2 ah),AAK,Bv (As.2 ah),AAK,AW ah];grind
theorem iteB(b:Bool):(if b=true then some true else some false)=some b:=aA
theorem p6(h:NO w):BP w=some (Gm (λi=>Ox w i (JJ w i)) 0 w.de.dc.AB.length&&Gm (λi=>YK w i (JJ w i)) 0 w.de.dc.AB.length):=by have a:=h.s.t;have b:=h.t;have c:=BN;rw[<- Yn,<- iteB];exact Kd (L:=BP.AU w) (R:=some true) (λn i hi=>kZ h n i hi) (λn=>by rw[BP.AU];unfold BP.L1;rw[AR ah];rfl) BQ 0 ah ah
theorem jY(h:NO w):CR w=some (Gm (λi=>Ox w i (JJ w i)) 0 w.de.dc.AB.length):=by have a:=h.s.t;have b:=h.t;have c:=BN;rw[<- iteB];exact Kd (L:=CR.AU w) (R:=some true) (λn i hi=>vB h n i hi) (λn=>by rw[CR.AU];unfold CR.L1;rw[AR ah];rfl) BQ 0 ah ah
theorem pZ(h:NO w)(b:RB 4611686018427387904 w.de.dc):Ai w=some (Gm (λi=>Ny w i (ix w.de.dc.AK i)) 0 w.de.dc.AK.length&&(txW w&&Gm (λi=>Ns w i (JJ w i)) 0 w.de.dc.AB.length)):=by
 have c:=h.s.l;have d:=h.l;have e:=h.s.t;have f:=h.t;have j:=BN;have a:Ai.Fw w BQ 0=some (Gm (λi=>Ns w i (JJ w i)) 0 w.de.dc.AB.length):=by rw[<- iteB];exact Kd (L:=Ai.Fw w) (R:=some true) (λn i hi=>vR h n i hi) (λn=>by rw[Ai.Fw];unfold Ai.L3;rw[AR ah];rfl) BQ 0 ah ah
 have g:Ai.J5 w=some (txW w&&Gm (λi=>Ns w i (JJ w i)) 0 w.de.dc.AB.length):=by unfold Ai.J5 Ai.J6 txW;rw[a,Rx,AAK];unfold bne;cases w.de.dc.Tx== -1<;>cases I1 w.de.df w.de.dc.Tx<;>rfl
 refine(Kd (L:=Ai.AU w) (R:=Ai.J5 w) (λn i hi=>vT h b n i hi) (λn=>by rw[Ai.AU];unfold Ai.L1;simp_all) BQ 0 ah ah).trans ?_;grind
theorem loop_all'{L:Nat->Int->ABm Bool}{p q:j4}{R:ABm Bool}(b:Gm q 0 n)(c:∀(N i:Nat),i<n->q i->L (N+1) (i:Int)=if p i=true then L N ((i+1:Nat):Int)else some false)(a:∀N,L (N+1) (n:Int)=R):∀N i:Nat,i<=n->n<N+i->L N (i:Int)=if Gm p i (n-i)=true then R else some false:=Kd (λN i hi=>c N i hi (I8.1 b i ah ah)) a
theorem oT(h:NO w)(c:RB 4611686018427387904 w.de.dc)(d:Gm (λi=>Ox w i (JJ w i)) 0 w.de.dc.AB.length):BC w=some (Gm (λi=>Ny w i (ix w.de.dc.AK i)) 0 w.de.dc.AK.length&&(txW w&&(Gm (λi=>Ns w i (JJ w i)) 0 w.de.dc.AB.length&&Gm (λi=>YK w i (JJ w i)) 0 w.de.dc.AB.length))):=by
 have e:=h.s.l;have f:=h.l;have g:=h.s.t;have j:=h.t;have m:=BN;have a:BC.Fw w BQ 0=some (Gm (λi=>Ns w i (JJ w i)) 0 w.de.dc.AB.length&&Gm (λi=>YK w i (JJ w i)) 0 w.de.dc.AB.length):=by rw[<- Yn,<- iteB];exact loop_all' (L:=BC.Fw w) (R:=some true) d (λn i hi b=>uT h n i hi b) (λn=>by rw[BC.Fw];unfold BC.L3;rw[AR ah];rfl) BQ 0 ah ah
 have k:BC.J4 w=some (txW w&&(Gm (λi=>Ns w i (JJ w i)) 0 w.de.dc.AB.length&&Gm (λi=>YK w i (JJ w i)) 0 w.de.dc.AB.length)):=by unfold BC.J4 BC.J5 txW;rw[a,Ru,AAK];unfold bne;cases w.de.dc.Tx== -1<;>cases I1 w.de.df w.de.dc.Tx<;>rfl
 refine(Kd (L:=BC.AU w) (R:=BC.J4 w) (λn i hi=>u9 h c n i hi) (λn=>by rw[BC.AU];unfold BC.L1;simp_all) BQ 0 ah ah).trans ?_;grind
theorem pY(h:NO w):B8 w.de=some (Gm (eF w) 0 w.de.AM.length):=by have a:=h.s.f;have b:=h.d;have c:=h.u;have e:=BN;rw[<- iteB];exact Kd (L:=B8.AU w.de) (R:=some true) (λn i hi=>vfut_step h n i hi) (λn=>by rw[B8.AU];unfold B8.L1;rw[AR ah];rfl) BQ 0 ah ah
theorem oS(h:NO w):CD.AU w BQ 0=if Gm (eF w) 0 w.de.AM.length=true then CD.J3 w else some false:=by have a:=h.s.f;have b:=h.d;have c:=h.u;have e:=BN;exact Kd (L:=CD.AU w) (R:=CD.J3 w) (λn i hi=>rfut_step h n i hi) (λn=>by rw[CD.AU];unfold CD.L1;simp_all) BQ 0 ah ah
theorem jH:∀(D:iT)(a:Int),F9 t a D->∀k∈D,a<k/\k<t:=by intro D;induction D with|nil=>simp_all|cons x r ih=>intro a h k b;unfold F9 at h;grind
theorem Oc{x:AH}(h:ET wv s x):(∀k∈x.D4,1<=k/\k<ix s.df x.cT)/\∀k∈x.DL,1<=k/\k<ix s.df x.cT:=by unfold ET Ed at h;simp only[AAL]at h;obtain⟨_,_,_,_,⟨⟨_,b⟩,_,c⟩,_⟩:=h;exact⟨λk a=>by have:=jH _ _ b k a;omega,λk a=>by have:=jH _ _ c k a;omega⟩
theorem oH:∀(l:iT)(a:Int),a<c.length->I7 c a l->(l.length:Int)+a+1<=c.length:=by intro l;induction l with|nil=>grind|cons t r ih=>intro a h b;unfold I7 I1 at b;simp only[AAL,AAe]at b;have d:=As.1 b.2.1.1;grind
theorem RB_of(h:NO w)(b:Gm (λi=>Ny w i (ix w.de.dc.AK i)) 0 w.de.dc.AK.length):RB 4 w.de.dc:=by intro x d;obtain⟨j,a,rfl⟩:=ABR d;have:=I8.1 b j ah ah;unfold Ny at this;rw[CH a]at this;simp only[AAL]at this;have:=oH _ _ ah this.2.2;have e:=h.s.t;have f:=h.c;omega
def CI(c:iT)(nt:Nat)(pre:jo)(s:AD):Prop:=s.df.length=nt/\∀u,B4 u nt->ix s.df u=ix c u+((Jj pre u).length:Int)
theorem CI.next(h:CI c a pre s){x:AH}(nt:B4 x.cT a)(d:∀u,B4 u a->0<=ix c u/\ix c u<=400)(l:pre.length<=1000):CI c a (pre++[x]) (Dd wv s x):=by refine⟨by simpa[Dd]using h.1,λu b=>?_⟩;obtain⟨g,i⟩:=As.1 nt;obtain⟨j,k⟩:=As.1 b;rw[OH];show ix (s.df.set x.cT.toNat (A9 (ix s.df x.cT+1))) u=_;have m:=d _ nt;have f:=h.2 _ nt;have hn:=Kn pre x.cT;by_cases e:x.cT=u;subst e;rw[AAQ rfl];unfold ix;rw[AAR (by have:=h.1;omega)];show A9 (ix s.df x.cT+1)=ix c x.cT+_;rw[f,CY ah ah];grind;rw[AAP e,<- h.2 u b];unfold ix;grind
section
variable{w:AF}
theorem pos.L3(L2:i6)(l:iT)(R:jb)(t:Int)(x:AH)(g:l.length<4611686018427387904)(f:∀k∈l,1<=k/\k<1000000)(d:gt R x.cT=some B)(e:gt w.de.df x.cT=some (ix w.de.df x.cT))(b:0<=ix w.de.df x.cT/\ix w.de.df x.cT<=400):∀(n i:Nat),i<=l.length->l.length<n+i->A7.Fw L2 l R t w x n (i:Int)=if(l.drop i).all (JW (ix w.de.df x.cT) B)=true then L2 (A9 (t+1))else some false|0,i,h1,h2=>ah|n+1,i,h1,h2=>by rw[A7.Fw];unfold A7.L3;by_cases hi:i<l.length;unfold A7.J2;have j:=f _ (AAW hi);rw[Ay ah,Be hi,AAK,e,AAK,DQ hi,AW ah,pos.L3 L2 l R t x g f d e b n (i+1) ah ah,AA8,d,AAK];generalize l[i]=k at j |-;generalize (l.drop (i+1)).all (JW (ix w.de.df x.cT) B)=q;generalize ix w.de.df x.cT=c at b |-;rw[CY ah ah];unfold JW NK;by_cases m:k<c;grind;rw[Ay ah,show decide (k<c)=false from by simp_all];by_cases a:k-c>=(B.length:Int);rw[Ay a,show B4 (k-c) B.length=false from by simp[B4];omega];rfl;have h:B4 (k-c) B.length:=br;rw[AR a,Bv h,AAK,h];grind;rw[AR ah,EW hi];rfl
theorem pos.L2(L1:AD->List (List Bool)->Int->ABm Bool)(R:jb)(t:Int)(v:mc)(x:AH)(b:K3 x)(hd:∀k∈x.D4,1<=k/\k<1000000)(f:∀k∈x.DL,1<=k/\k<1000000)(d:gt R x.cT=some B)(e:gt w.de.df x.cT=some (ix w.de.df x.cT))(c:0<=ix w.de.df x.cT/\ix w.de.df x.cT<=400):A7.B9 L1 R t v w x BQ 0=if(x.D4.all (JW (ix w.de.df x.cT) B)&&x.DL.all (JW (ix w.de.df x.cT) B))=true then A7.J4 L1 R t v x else some false:=by
 have n:=BN;have a:∀L1 t l,l.length<4611686018427387904->(∀k∈l,1<=k/\k<1000000)->A7.J1 L1 R t w x l=if l.all (JW (ix w.de.df x.cT) B)=true then L1 (A9 (t+1))else some false:=by intro L1 t l h g;have:=pos.L3 L1 l R t x h g d e c BQ 0 ah ah;rw[AAr]at this;exact this
 rw[cC];generalize BQ-3=m;have j:A7.B9 L1 R t v w x (m+1) 2=A7.J4 L1 R t v x:=by rw[A7.B9];unfold A7.L2;rfl
 have i:A7.B9 L1 R t v w x (m+2) 1=if x.DL.all (JW (ix w.de.df x.cT) B)=true then A7.J4 L1 R t v x else some false:=by rw[A7.B9];unfold A7.L2;rw[Ay bk,AAP bk,AAQ bk,a _ _ _ b.2 f,show A9 (1+1)=2 from rfl,j]
 rw[A7.B9];unfold A7.L2;rw[Ay bk,AAQ bk,a _ _ _ b.1 hd,show A9 (0+1)=1 from rfl,i];grind
theorem oB(h:NO w)(r:w.AA.length<=16)(l:∀e∈w.AA,K3 e)(f:∀u,B4 u w.db.AB.length->0<=ix w.de.df u/\ix w.de.df u<=400):∀(n i:Nat)(s:AD)(R:jb),i<=w.AA.length->w.AA.length<n+i->RB (4+i) s.dc->R.length=w.db.AB.length->(∀u:Nat,u<R.length->R[u]? =some (Jj (w.AA.take i) (u:Int)))->CI w.de.df w.db.AB.length (w.AA.take i) s->A7.AU w n s R (i:Int)=some (XU w.db w.de.df (w.AA.take i) s (w.AA.drop i))|0,i,s,R,h1,h2,_,_,_,_=>ah|n+1,i,s,R,h1,h2,h3,h4,h5,h6=>by rw[A7.AU];unfold A7.L1;by_cases hi:i<w.AA.length;(have o:=l _ (AAW hi);rw[Ay ah,Be hi,AAK,dY w.db h.s s (h3.mono ah) _ o,AAK,DQ hi,XU];unfold QV;cases hp:ET w.db s w.AA[i]with|false=>rfl|true=>rw[AAQ rfl,AAP (c:=(!true)=true) ak,AAj];have a:=Lp hp;obtain⟨q,z⟩:=As.1 a;have v:w.AA[i].cT.toNat<R.length:=ah;have m:gt R w.AA[i].cT=some (Jj (w.AA.take i) w.AA[i].cT):=(by unfold gt;rw[AAQ q,h5 _ v];congr 2;omega);have y:=Kn (w.AA.take i) w.AA[i].cT;rw[List.length_take_of_le ah]at y;have g:=f _ a;have t:=h6.2 _ a;obtain⟨B,C⟩:=Oc hp;rw[pos.L2 _ _ _ _ _ o (λk d=>aA) (λk d=>aA) m (Bv (by rw[h.c];exact a)) g];change (if bZ w.de.df (w.AA.take i) w.AA[i]=true then _ else _)=_;cases bZ w.de.df (w.AA.take i) w.AA[i]with|false=>rfl|true=>(unfold A7.J4;rw[AAQ rfl,m,AAK,Bg ah,Bg ah,AAj];unfold A7.J5 A7.J6;have d:∀b,b=lS w.AA[i]->A7.AU w n (Dd w.db s w.AA[i]) (R.set w.AA[i].cT.toNat (Jj (w.AA.take i) w.AA[i].cT++[b])) (A9 ((i:Int)+1))=some (XU w.db w.de.df (w.AA.take i++[w.AA[i]]) (Dd w.db s w.AA[i]) (w.AA.drop (i+1))):=by rintro b rfl;have j:=h6.next (wv:=w.db) a f an;rw[AW ah];rw[AAn hi]at j |-;refine oB h r l f n (i+1) _ _ ah ah ?_ am ?_ j;exact(h3.apply _ _ _ _ _).mono ah;intro u x;rw[<- AAn hi,OH];grind);by_cases p:w.AA[i].da=3;rw[AAQ (by simp[p])];exact d _ (by simp[lS,p]);rw[AAP am];exact d _ (by simp[lS,show(w.AA[i].da==3)=false by simp_all]));rw[AR ah,EW hi];rfl
theorem sN(h:NO w)(d:Lm w):∀u,B4 u w.db.AB.length->0<=ix w.de.df u/\ix w.de.df u<=400:=by intro u e;unfold Lm at d;simp only[AAL]at d;obtain⟨a,b⟩:=As.1 e;have f:=h.c;have:=I8.1 d.1 u.toNat ah ah;grind
theorem oC(h:NO w)(f:w.AA.length<=16)(b:∀e∈w.AA,K3 e)(d:Lm w)(g:RB 4 w.de.dc):A7 w=some (XU w.db w.de.df [] w.de w.AA):=by have i:=h.s.t;have j:=BN;unfold A7;rw[AAQ ⟨ah,ah,Cd ah⟩];have:=oB h f b (sN h d) BQ 0 w.de (List.replicate w.db.AB.length []) ah ah g ak (by intro u a;simp at a;simp[a,Jj]) ⟨h.c,λu _=>by simp[Jj]⟩;simp_all
end
section
variable{w:AF}
theorem Yg(c:w.AA.length<=16)(t:Int):∀(n j d:Nat),j<=w.AA.length->w.AA.length<n+j->d<=1000000->∃r,IM.AU t w n (d:Int) (j:Int)=some r/\(match(Jj (w.AA.drop j) t)[d]? with
 |some b=>∃(e:Nat)(h:e<w.AA.length),r=(e:Int)/\lS w.AA[e]=b
 |none=>r= -1)
 |0,j,d,h1,h2,_=>ah
 |n+1,j,d,h1,h2,h3=>by rw[IM.AU];unfold IM.L1 IM.J1;by_cases a:j<w.AA.length;rw[Ay ah,Be a,AAK,DQ a,uV,AW ah];by_cases g:w.AA[j].cT=t;(rw[AAQ aA,AAQ g];cases d with|zero=>grind|succ d=>rw[AAP an,CY ah ah,show((d+1:Nat):Int)-1=(d:Int)from by omega,ABM];exact Yg c t n (j+1) d ah ah ah);rw[AAP aA,AAP g];exact Yg c t n (j+1) d ah ah h3;rw[AR ah,EW a];exact⟨_,rfl,rfl⟩
theorem XN(m:w.AA.length<=16)(l:iT)(t:Int)(hn:l.length<4611686018427387904)(j:∀k∈l,1<=k/\k<1000000)(h:gt w.de.df t=some (ix w.de.df t))(g:0<=ix w.de.df t/\ix w.de.df t<=400):∀(n i:Nat),i<=l.length->l.length<n+i->E9.AU l t w n (i:Int)=some ((l.drop i).all (JW (ix w.de.df t) (Jj w.AA t)))|0,i,h1,h2=>ah|n+1,i,h1,h2=>by rw[E9.AU];unfold E9.L1 E9.J1 E9.J2;by_cases hi:i<l.length;(have f:=j _ (AAW hi);rw[Ay ah,Be hi,AAK,h,AAK,DQ hi,AW ah,XN m l t hn j h g n (i+1) ah ah,AA8];generalize l[i]=k at f |-;generalize (l.drop (i+1)).all (JW (ix w.de.df t) (Jj w.AA t))=q;generalize ix w.de.df t=c at g |-;rw[CY ah ah];unfold JW NK;by_cases p:k<c;simp_all;rw[AR p,show decide (k<c)=false from by simp_all];obtain⟨r,o,d⟩:=Yg m t BQ 0 (k-c).toNat ah aS ah;rw[show(((k-c).toNat:Nat):Int)=k-c from by omega,show((0:Nat):Int)=0 from rfl]at o;rw[AAr]at d;unfold IM;rw[o,AAK,Bool.false_or];cases hb:(Jj w.AA t)[(k-c).toNat]? with|none=>rw[hb]at d;have a:=List.getElem?_eq_none_iff.1 hb;rw[show B4 (k-c) (Jj w.AA t).length=false from by simp[B4];omega];simp_all|some b=>rw[hb]at d;obtain⟨e,s,rfl,u⟩:=d;obtain⟨a,_⟩:=AAN.1 hb;rw[show B4 (k-c) (Jj w.AA t).length=true from by simp[B4];omega,AR ah,Be s,AAK];have f:ix (Jj w.AA t) (k-c)=b:=(by unfold ix;rw[hb];rfl);rw[f,<- u];unfold lS;grind);rw[AR ah,EW hi];rfl
theorem fU(d:w.AA.length<=16)(l:iT)(t:Int)(hn:l.length<4611686018427387904)(c:∀k∈l,1<=k/\k<1000000)(b:gt w.de.df t=some (ix w.de.df t))(a:0<=ix w.de.df t/\ix w.de.df t<=400):E9 w t l=some (l.all (JW (ix w.de.df t) (Jj w.AA t))):=by have:=XN d l t hn c b a BQ 0 ah aS;rw[AAr]at this;exact this
theorem fG{c:Int}(h:k<c+B.length):JW c (B++F) k=JW c B k:=by unfold JW NK;by_cases g:k<c;simp[g];have d:B4 (k-c) (B++F).length:=br;have e:B4 (k-c) B.length:=br;rw[d,e];unfold ix;grind
theorem fV(h:NO w)(l:w.AA.length<=16)(o:∀e∈w.AA,K3 e)(g:∀u,B4 u w.db.AB.length->0<=ix w.de.df u/\ix w.de.df u<=400):∀(n i:Nat)(s:AD),i<=w.AA.length->w.AA.length<n+i->RB (4+i) s.dc->CI w.de.df w.db.AB.length (w.AA.take i) s->CD.B9 w n s (i:Int)=some (XU w.db w.de.df (w.AA.take i) s (w.AA.drop i))|0,i,s,h1,h2,_,_=>ah|n+1,i,s,h1,h2,h3,h6=>by rw[CD.B9];unfold CD.L2 CD.J4;by_cases hi:i<w.AA.length;(have j:=o _ (AAW hi);rw[Ay ah,Be hi,AAK,Tp w.db h.s s (h3.mono ah) _ j,AAK,DQ hi,XU];unfold QV;cases hp:ET w.db s w.AA[i]with|false=>rfl|true=>(rw[AAQ rfl,AAP (c:=(!true)=true) ak,AAj];have f:=Lp hp;have a:=g _ f;have v:=h6.2 _ f;have x:=Kn (w.AA.take i) w.AA[i].cT;rw[List.length_take_of_le ah]at x;obtain⟨y,z⟩:=Oc hp;have b:gt w.de.df w.AA[i].cT=some (ix w.de.df w.AA[i].cT):=Bv (by rw[h.c];exact f);have key:∀D:List Int,(∀k∈D,1<=k/\k<ix s.df w.AA[i].cT)->D.all (JW (ix w.de.df w.AA[i].cT) (Jj w.AA w.AA[i].cT))=D.all (JW (ix w.de.df w.AA[i].cT) (Jj (w.AA.take i) w.AA[i].cT)):=by intro D q;have p:Jj w.AA w.AA[i].cT=Jj (w.AA.take i) w.AA[i].cT++Jj (w.AA.drop i) w.AA[i].cT:=(by rw[<- rdB_app,ABY]);rw[p,Bool.eq_iff_iff,AAS,AAS];constructor<;>intro r k d<;>have:=r k d<;>have t:=q k d;rwa [fG ah]at this;rwa [fG ah]);rw[fU l _ _ j.1 (λk d=>aA) b a,AAK,fU l _ _ j.2 (λk d=>aA) b a,AAK,key _ y,key _ z];unfold bZ;cases w.AA[i].D4.all (JW (ix w.de.df w.AA[i].cT) (Jj (w.AA.take i) w.AA[i].cT))with|false=>rfl|true=>cases w.AA[i].DL.all (JW (ix w.de.df w.AA[i].cT) (Jj (w.AA.take i) w.AA[i].cT))with|false=>rfl|true=>rw[AAP (c:=(!true)=true) ak,AAP (c:=(!true)=true) ak,AAj,AAj,AW ah];have m:=h6.next (wv:=w.db) f g an;rw[AAn hi]at m |-;exact fV h l o g n (i+1) _ ah ah ((h3.apply _ _ _ _ _).mono ah) m);rw[AR ah,EW hi];rfl
theorem vK{g:Bool}:(y&&(z&&(C&&(D&&(E&&(f&&g))))))=(y&&((z&&C)&&((D&&(E&&f))&&g))):=aA
theorem yS(f:∀e∈w.AA,K3 e)(g:RB 4611686018427387904 w.de.dc):Fe w=some (KG w):=by unfold Fe KG;rw[Vu,AAK];cases hv:DA w.db with|false=>rfl|true=>have d:=Eh hv;rw[AAQ rfl,AAj];have a:JK w.db w.de=some (I4 w.db w.de):=NJ _ d _;rw[a,AAK];cases hf:I4 w.db w.de with|false=>rfl|true=>rw[AAQ rfl,AAj];by_cases b:w.AA.length<=16;(have h:NO w:=WinF.l ⟨hv,hf,b⟩;rw[Ay ah,show decide (w.AA.length<=16)=true from by simp_all,AAj,Y3 w (by have:=d.t;have:=h.c;omega) b,AAK];unfold T4;rw[vK,p6 h,AAK,pZ h g,AAK,pY h,AAK];cases hc:Lm w with|false=>rfl|true=>rw[AAQ rfl,AAj];cases(Gm (λi=>Ox w i (JJ w i)) 0 w.de.dc.AB.length&&Gm (λi=>YK w i (JJ w i)) 0 w.de.dc.AB.length)with|false=>rfl|true=>rw[AAQ rfl,AAj];cases hL:(Gm (λi=>Ny w i (ix w.de.dc.AK i)) 0 w.de.dc.AK.length&&(txW w&&Gm (λi=>Ns w i (JJ w i)) 0 w.de.dc.AB.length))with|false=>rfl|true=>rw[AAL]at hL;rw[AAQ rfl,AAj,oC h b f hc (RB_of h hL.1)];cases Gm (eF w) 0 w.de.AM.length<;>rfl);rw[AR ah,show decide (w.AA.length<=16)=false from by simp_all];rfl
theorem rValid_eq(d:∀e∈w.AA,K3 e)(g:RB 4611686018427387904 w.de.dc):CD w=some (KG w):=by unfold CD KG;rw[NA,AAK];cases hv:DA w.db with|false=>rfl|true=>have b:=Eh hv;rw[AAP (c:=(!true)=true) ak,AAj,Sy _ b,AAK];cases hf:I4 w.db w.de with|false=>rfl|true=>rw[AAP (c:=(!true)=true) ak,AAj];by_cases a:w.AA.length<=16;(have h:NO w:=WinF.l ⟨hv,hf,a⟩;rw[AR ah,show decide (w.AA.length<=16)=true from by simp_all,AAj,uU w (by have:=b.t;have:=h.c;omega) a,AAK,jY h,AAK];unfold T4;cases hc:Lm w with|false=>rfl|true=>rw[AAP (c:=(!true)=true) ak,AAj];cases hs:Gm (λi=>Ox w i (JJ w i)) 0 w.de.dc.AB.length with|false=>rfl|true=>rw[AAP (c:=(!true)=true) ak,AAj,oT h g hs,AAK];unfold CD.J1;rw[oS h];cases hL:Gm (λi=>Ny w i (ix w.de.dc.AK i)) 0 w.de.dc.AK.length with|false=>simp_all|true=>have f:CD.J3 w=some (XU w.db w.de.df [] w.de w.AA):=(by have:=fV h a d (sN h hc) BQ 0 w.de ah aS (RB_of h hL) ⟨h.c,λu _=>by simp[Jj]⟩;rw[List.take_zero,AAr]at this;exact this);rw[f];cases Gm (λi=>YK w i (JJ w i)) 0 w.de.dc.AB.length<;>cases txW w<;>cases Gm (λi=>Ns w i (JJ w i)) 0 w.de.dc.AB.length<;>cases Gm (eF w) 0 w.de.AM.length<;>rfl);rw[Ay ah,show decide (w.AA.length<=16)=false from by simp_all];rfl
end
theorem zT(wv:AG)(l:jo):∀pre s,G3 wv pre s l=(0,0)\/(G3 wv pre s l).2=12/\(pre.length:Int)<=(G3 wv pre s l).1:=by induction l with|nil=>exactλ_ _=>.inl rfl|cons x r ih=>intro pre s;unfold G3;split;refine(ih (pre++[x]) _).imp id λh=>⟨h.1,?_⟩;have:=h.2;simp at this |-;omega;exact .inr ⟨rfl,ak⟩
structure AT (t:Cu):Prop where
 w:DA t.db=true
 l:t.AA.length<=400
 c:G3 t.db [] (Iu t.db) t.AA=(0,0)
 e:∀e∈t.AA,K3 e
theorem AT.of{t:Cu}(a:∀e∈t.AA,K3 e)(h:(Ma t).2=0):AT t:=by unfold Ma at h;split at h;cases h;split at h;(rename_i c b;rcases zT t.db t.AA [] (Iu t.db)with hc|⟨hc,_⟩);exact⟨b,ah,hc,a⟩;rw[hc]at h;cases h;cases h
theorem AT.poss{t:Cu}(h:AT t)(hi:n<t.AA.length):ET t.db (Jr t n) t.AA[n]:=by obtain⟨_,b⟩:=yC h.w h.l h.c n ah;rw[ABH hi,G3]at b;split at b;rename_i a;rw[AAL]at a;exact a.1;exact absurd (congrArg Prod.snd b) (λh:(12:Int)=0=>by cases h)
theorem AT.step{t:Cu}(h:AT t){i:Nat}(hi:i<t.AA.length):QV t.db (Jr t i) t.AA[i]=(Jr t (i+1),true):=by unfold QV;rw[AAQ (h.poss hi),Sk hi]
def Ev400(e:AH):Prop:=e.D4.length<=1000/\e.DL.length<=1000
theorem nX:∀(D:iT)(a:Int),a<t->F9 t a D->(D.length:Int)+a+1<=t:=by intro D;induction D with|nil=>intro a h _;simp;omega|cons x r ih=>intro a h hn;unfold F9 at hn;simp only[AAL,AAe]at hn;have:=ih x hn.2.1 hn.2.2;simp only[ABJ];omega
theorem AT.ev{t:Cu}(h:AT t){e:AH}(m:e∈t.AA):Ev400 e:=by
 obtain⟨i,hi,rfl⟩:=ABR m;obtain⟨a,_⟩:=yC h.w h.l h.c i ah;have b:=h.poss hi;have k:=a.c _ (Lp b);have n:=Kn (t.AA.take i) t.AA[i].cT;have o:=h.l;rw[List.length_take_of_le ah]at n;unfold ET Ed at b;simp only[AAL]at b;obtain⟨_,_,_,_,⟨⟨_,d⟩,_,f⟩,_⟩:=b;rw[k]at d f;have key:∀D:List Int,F9 ((Jj (t.AA.take i) t.AA[i].cT).length:Int) 0 D->D.length<=1000:=by intro D g;cases D with|nil=>simp|cons x r=>(have j:0<((Jj (t.AA.take i) t.AA[i].cT).length:Int):=by have:=jH _ _ g x ak;omega);have:=nX _ _ j g;omega
 exact⟨key _ d,key _ f⟩
def cN:ABn:=⟨#[99]⟩
def noE:BU:=⟨0,0,⟨#[]⟩,[]⟩
def nmF(T:lr)(o:Int)(s a:ABn)(i:List BU):Prop:=(o=1->i=[]->s∈vN)/\(o=4->s=⟨#[109]⟩\/s=⟨#[110]⟩)/\(o=5\/o=6->s=⟨#[114]⟩)/\(o=12\/o=13->T s)/\(o=14->s=⟨#[102]⟩)/\(o=15->s=⟨#[97]⟩/\a=⟨#[102]⟩)
def bdF(o:Int)(b e:kh):Prop:=(o∉[(2:Int),3,4,5,6,7,8]->b=[])/\(o≠2->e=[])
def Kx(T:lr):Nat->AX->Prop|0,_=>False|n+1,s=>(1<=s.Op/\s.Op<=15)/\(s.d6=[]\/s.Op=1/\s.dq=qS/\∃a,s.d6=[a]/\bY 2 a)/\(bY 2 s.du\/s.Op∉[(1:Int),2,3,14]/\s.du=noE)/\(s.Op∈[(9:Int),10,11]->s.dq=cN)/\s.dz.length<=4/\s.ea.length<=4/\(∀x∈s.dz,Kx T n x)/\(∀x∈s.ea,Kx T n x)/\bdF s.Op s.dz s.ea/\nmF T s.Op s.dq s.e6 s.d6
structure MD (m m':AO):Prop where
 t:FG m'.t
 h:m'.eb=m.eb
def MD.trans{a b c:AO}(h:MD a b)(g:MD b c):MD a c:=⟨g.t,g.h.trans h.h⟩
section
variable{T:lr}{R158:AO->ABn->Int->ABm (List AX×AO)}{R86:AO->Int->Int->ABm (List AX×AO)}{depth:Int}{nested:Bool}{k H:Nat}
end
section
variable{T:lr}
end
section
variable{T:lr}
theorem tD{c:Type}{p:Prop}[Decidable p]{a b:ABm c}{R:c->Prop}(d:p->CX a R)(e:¬p->CX b R):CX (if decide p=true then a else b) R:=aA
theorem tE{a b:Type}{o:ABm a}{y:a}{f:a->ABm b}{R:b->Prop}(h:o=some y)(k:CX (f y) R):CX (o.bind f) R:=am
def dE:Nat->BU->Prop|0,_=>False|n+1,e=>e.L.length<=2/\∀x∈e.L,dE n x
theorem bY.d:∀{e:BU},bY n e->dE n e:=by
 induction n with
 |zero=>exactλh=>h.elim
 |succ n ih=>
  intro e h;rcases h with⟨_,h⟩|⟨_,h,_⟩|⟨_,_,a,h,c⟩|⟨_,a,b,h,c,f⟩<;>refine⟨by simp[h],?_⟩<;>rw[h]<;>simp
  all_goals simp_all
theorem Kx.e{s:AX}(h:Kx T n s):dE 2 s.du:=by
 cases n with
 |zero=>exact h.elim
 |succ n=>
  rcases h.2.2.1 with h|⟨_,h⟩
  exact h.d;rw[h];exact⟨by simp[noE],by simp[noE]⟩
theorem Kx.i{s:AX}(h:Kx T n s):s.d6=[]\/∃a,s.d6=[a]/\dE 2 a:=by cases n with|zero=>exact h.elim|succ n=>exact h.2.1.imp id λ⟨_,_,a,h,k⟩=>⟨a,h,k.d⟩
def eJ(T:lr)(k:Nat)(l:kh):Prop:=l.length<=10/\∀x∈l,Kx T k x
theorem Kx.body{s:AX}(h:Kx T (a+1) s):eJ T a s.dz:=⟨by have:=h.2.2.2.2.1;omega,h.2.2.2.2.2.2.1⟩
def uE:List ABn:=[⟨#[97]⟩,⟨#[98]⟩]
end
section
variable{T:lr}
structure WK (p:Aa) (A K:Nat) (wv:Bi):Prop where
 p:wv.p=p
 a:wv.HQ.length=A
 s:wv.NN.length<=K
 t:wv.bP.length<=K
theorem WK.mono{K:Aa}{A L:Nat}{wv:Bi}(h:WK K A p wv)(b:p<=L):WK K A L wv:=⟨h.p,h.a,by have:=h.s;omega,by have:=h.t;omega⟩
end
section
variable{T:lr}
structure MW (w:AG):Prop where
 q:CX (Ce w qS) λr=>0<=r/\r<w.dg.length
 c:w.dg.length<=100
 l:w.AK.length<=100
 d:w.Aj.length<=100
 f:w.AM.length<=100
 t:w.AB.length<=4
def P7:List Dy:=[⟨⟨#[120]⟩,0,0,false,0⟩,⟨⟨#[121]⟩,0,0,false,1⟩,⟨⟨#[118]⟩,0,0,true,0⟩,⟨⟨#[113]⟩,0,2,false,0⟩,⟨⟨#[113]⟩,1,2,false,0⟩]
end
section
variable{T:lr}
structure GS (g:BX) (n:Nat) (r:BX):Prop where
 w:r.w=g.w
 l:r.dr=g.dr
 a:g.dt.length<=r.dt.length
 b:r.dt.length<=g.dt.length+n
structure GB (g:BX) (n:Nat):Prop where
 w:MW g.w
 l:g.dr.length<=2
 n:g.dt.length+n<=8000000
theorem GS.refl(g:BX)(n:Nat):GS g n g:=⟨rfl,rfl,ah,ah⟩
theorem GS.trans{h:BX}(k:GS g m h)(b:GS h n u)(c:m+n<=a):GS g a u:=⟨b.w.trans k.w,b.l.trans k.l,by have:=k.a;have:=b.a;omega,by have:=k.b;have:=b.b;omega⟩
theorem GB.next{h:BX}(k:GB g a)(s:GS g m h)(c:m+n<=a):GB h n:=⟨by rw[s.w];exact k.w,by rw[s.l];exact k.l,by have:=s.b;have:=k.n;omega⟩
theorem GB.less(k:GB g a)(b:n<=a):GB g n:=k.next (GS.refl g 0) ah
def GS.dx(h:GS g n u)(a b:Int):GS g n ⟨u.w,u.dr,u.dt,a,b⟩:=⟨h.w,h.l,h.a,h.b⟩
theorem GS.set(h:GS g n u)(i:Nat)(x:An)(a b:Int):GS g n ⟨u.w,u.dr,u.dt.set i x,a,b⟩:=⟨h.w,h.l,by simpa using h.a,by simpa using h.b⟩
section
variable{R:ni}{g:BX}{s:AX}{n:Nat}
variable{R1:mb}{R2:lv}
end
def rg(i:An):List Int:=(Aw i).getD []
end
def yG(o:Int):Bool:=decide (1<=o)&&decide (o<=5)
def StI(l:l0)(k m:Nat):Prop:=∃x,l[k]? =some x/\yG x.Op/\(x.Op=5/\x.A=(m:Int)\/x.Op≠5/\m=k+1)
def V2(l:l0)(a b:Nat):Nat->Nat->Nat->Prop|0,k,m=>k=m|n+1,k,m=>(a<=k/\k<b)/\∃j,StI l k j/\V2 l a b n j m
def Ev(l:l0)(m:Nat):Prop:=∃x,l[m]? =some x/\yG x.Op=false
theorem V2.frame{b d:Nat}(h:∀i,a<=i->i<b->G[i]? =l'[i]?)(f:p<=a)(g:b<=d):∀{n k m},V2 G a b n k m->V2 l' p d n k m|0,_,_,e=>e|n+1,k,m,⟨⟨h1,h2⟩,j,⟨x,x1,x2⟩,h4⟩=>⟨⟨ah,ah⟩,j,⟨x,am,x2⟩,h4.frame h f g⟩
theorem V2.trans:∀{n k m b q},V2 G a p n k m->V2 G a p b m q->V2 G a p (n+b) k q|0,_,_,b,_,e,h=>(by cases e;simp_all)|n+1,_,_,b,_,⟨h1,j,h2,h3⟩,h=>by rw[Nat.succ_add];exact⟨h1,j,h2,h3.trans h⟩
def V2.one(h:a<=p/\p<n)(s:StI l' p m):V2 l' a n 1 p m:=⟨h,m,s,rfl⟩
structure LV (w:AG) (lo hi:Int) (c:Nat) (x:An):Prop where
 o:1<=x.Op/\x.Op<=27
 ob:Ab w x=some true
 g:∀y∈rg x,0<=y/\y<32
 s:lo<=x.d8/\x.d8<hi
 j:x.Op=5->0<=x.A/\x.A<=c
 b:x.Op=10->0<=x.B/\x.B<=c
structure SG (w:AG) (lo hi:Int) (l:List An) (a b c:Nat):Prop where
 h:a<=b/\b<=l.length
 i:∀k x,a<=k->k<b->l[k]? =some x->LV w lo hi c x
 f:∀k,a<=k->k<b->(∃n m,V2 l a b n k m/\(a<=m/\m<b)/\Ev l m/\n+a+1<=b)\/∃n,V2 l a b n k b/\n+k<=b
section
variable{w:AG}{lo hi lo' hi':Int}{l l':l0}{a b c d:Nat}
theorem LV.mono(h:LV w lo hi c x)(a:lo'<=lo)(f:hi<=hi')(i:c<=d):LV w lo' hi' d x:=⟨h.o,h.ob,h.g,⟨by have:=h.s;omega,by have:=h.s;omega⟩,λe=>by have:=h.j e;omega,λe=>by have:=h.b e;omega⟩
theorem SG.frame(h:SG w lo hi l a b c)(j:∀i,a<=i->i<b->l[i]? =l'[i]?)(s:b<=l'.length)(o:lo'<=lo)(p:hi<=hi')(q:c<=d):SG w lo' hi' l' a b d:=by
 refine⟨⟨h.h.1,s⟩,λk x e g v=>(h.i k x e g am).mono o p q,λk e g=>?_⟩;rcases h.f k e g with⟨n,m,r,t,⟨x,y,u⟩,hn⟩|⟨n,r,hn⟩
 exact .inl ⟨n,m,r.frame j ah ah,t,⟨x,am,u⟩,hn⟩;exact .inr ⟨n,r.frame j ah ah,hn⟩
def SG.mono(h:SG w lo hi l a b c)(e:lo'<=lo)(f:hi<=hi')(g:c<=d):SG w lo' hi' l a b d:=h.frame (λ_ _ _=>rfl) h.h.2 e f g
theorem SG.nil(h:a<=l.length):SG w lo hi l a a c:=⟨⟨ah,h⟩,λk x _ _=>ah,λk _ _=>ah⟩
theorem SG.app(h:SG w lo hi l a b c)(g:SG w lo hi l b n c):SG w lo hi l a n c:=by have B:=h.h;have z:=g.h;refine⟨⟨ah,z.2⟩,λk x q s v=>?_,λk q s=>?_⟩;by_cases o:k<b;exact h.i k x q o v;exact g.i k x ah s v;(. have up:∀{e k m},V2 l b n e k m->V2 l a n e k m:=λr=>r.frame (λ_ _ _=>rfl) ah ah;have d:∀{e k m},V2 l a b e k m->V2 l a n e k m:=λr=>r.frame (λ_ _ _=>rfl) ah ah;by_cases o:k<b;(rcases h.f k q o with⟨e,m,r,y,ev,hn⟩|⟨e,r,hn⟩);grind;by_cases j:b<n;(rcases g.f b ah j with⟨t,m,u,y,ev,p⟩|⟨t,u,p⟩);exact .inl ⟨e+t,m,(d r).trans (up u),ah,ev,ah⟩;exact .inr ⟨e+t,(d r).trans (up u),ah⟩;grind;(. (rcases g.f k ah s with⟨e,m,r,y,ev,hn⟩|⟨e,r,hn⟩);all_goals grind))
theorem SG.one(b:l[a]? =some x)(h:LV w lo hi c x)(d:x.Op≠5):SG w lo hi l a (a+1) c:=by have g:=(AAN.1 b).1;refine⟨⟨ah,ah⟩,λk y e f i=>?_,λk e f=>?_⟩;grind;obtain rfl:k=a:=ah;cases hs:yG x.Op with|false=>exact .inl ⟨0,k,rfl,ah,⟨x,b,hs⟩,ah⟩|true=>exact .inr ⟨1,V2.one ah ⟨x,b,hs,.inr ⟨d,rfl⟩⟩,ah⟩
end
def TB(E:Int)(x:iT):Prop:=x.Pairwise (· < ·)/\∀y∈x,0<=y/\y<E
theorem TB.len{E:Int}(h:TB E W)(d:0<=E):(W.length:Int)<=E:=by
 have key:∀(W:iT)(a:Int),W.Pairwise (· < ·)->(∀y∈W,a<=y/\y<E)->a<=E->(W.length:Int)<=E-a:=by intro W;induction W with|nil=>simp_all|cons y r ih=>intro a e b i;obtain⟨f,g⟩:=List.pairwise_cons.1 e;have j:=b y ABE;have:=ih (y+1) g (λz c=>⟨f z c,(b z (ABP _ c)).2⟩) ah;grind
 have:=key W 0 h.1 h.2 d;omega
theorem TB.mono{F:Int}(h:TB o W)(b:o<=F):TB F W:=⟨h.1,λy a=>⟨(h.2 y a).1,by have:=(h.2 y a).2;omega⟩⟩
structure TH (E:Nat) (s:AN):Prop where
 r:s.Dk.length<=100
 t:s.Dq.length<=100
 b:∀x∈s.Dq,TB s.AA x
 e:0<=s.AA/\s.AA<=E
theorem TH.zero(E:Nat):TH E ⟨0,[],[],0⟩:=⟨ak,ak,ak,ak,ak⟩
def iY:List KH:=[⟨⟨#[109]⟩,false⟩,⟨⟨#[110]⟩,false⟩,⟨⟨#[114]⟩,true⟩]
structure WF (T:ABn->Prop) (w:AG):Prop where
 c:w.dg=P7
 l:w.AK=iY
 d:w.Aj=[⟨cN,0⟩]
 f:w.AM=[⟨#[102]⟩]
 t:∀s,T s->s∈w.AB
 n:w.AB.length<=4
structure GW (T:ABn->Prop) (g:BX):Prop where
 w:WF T g.w
 l:g.dr=uE
structure GV (g r:BX) (lo hi:Int):Prop where
 w:r.w=g.w
 l:r.dr=g.dr
 n:g.dt.length<=r.dt.length
 p:∀i,i<g.dt.length->r.dt[i]? =g.dt[i]?
 s:SG g.w lo hi r.dt g.dt.length r.dt.length r.dt.length
section
variable{T:lr}{g h r:BX}{lo hi lo' hi':Int}
def GV.refl:GV g g lo hi:=⟨rfl,rfl,AAl _,λ_ _=>rfl,SG.nil (AAl _)⟩
theorem GV.trans(a:GV g h lo hi)(b:GV h r lo hi):GV g r lo hi:=by have c:=a.n;have e:=b.n;refine⟨b.w.trans a.w,b.l.trans a.l,ah,λi hi=>(b.p i ah).trans (a.p i hi),(a.s.frame (l':=r.dt) (d:=r.dt.length) (λi _ hi=>(b.p i hi).symm) ah ah ah ah).app ?_⟩;have:=b.s;rw[a.w]at this;exact this
def GV.mono(a:GV g r lo hi)(b:lo'<=lo)(c:hi<=hi'):GV g r lo' hi':=⟨a.w,a.l,a.n,a.p,a.s.mono b c (AAl _)⟩
def GV.dx(a:GV g r lo hi)(s n:Int):GV g ⟨r.w,r.dr,r.dt,s,n⟩ lo hi:=⟨a.w,a.l,a.n,a.p,a.s⟩
theorem GW.next(a:GW T g)(b:GV g r lo hi):GW T r:=⟨by rw[b.w];exact a.w,b.l.trans a.l⟩
def GW.dx(a:GW T g)(s n:Int):GW T ⟨g.w,g.dr,g.dt,s,n⟩:=⟨a.w,a.l⟩
theorem GV.put(b:LV g.w lo hi (g.dt.length+1) x)(a:x.Op≠5):GV g ⟨g.w,g.dr,g.dt++[x],t,o⟩ lo hi:=by refine⟨rfl,rfl,ak,λi hi=>aA,?_⟩;simp only[AA1,ABJ,List.length_nil];exact SG.one ak b a
abbrev GK(g r:BX)(lo hi:Int):Prop:=GV g r lo hi/\r.dx=g.dx/\r.next=g.next
def GK.trans(a:GK g h lo hi)(b:GK h r lo hi):GK g r lo hi:=⟨a.1.trans b.1,b.2.1.trans a.2.1,b.2.2.trans a.2.2⟩
end
def EvL(e:AH):Prop:=e.D4.length<=100000/\e.DL.length<=100000
theorem TH.mono{F:Nat}{t:AN}(h:TH p t)(a:p<=F):TH F t:=⟨h.r,h.t,h.b,h.e.1,by have:=h.e.2;omega⟩
theorem EvL.ok{e:AH}(h:EvL e):K3 e:=⟨by have:=h.1;omega,by have:=h.2;omega⟩
theorem QR(h:W≠[]):El wake W∈W:=by unfold El;rw[AAP h];split;simp_all;cases W with|nil=>simp_all|cons a r=>simp
def Acc(wv:AG)(l:jo)(S:AD):Prop:=∀r,G3 wv [] (Iu wv) (l++r)=G3 wv l S r
theorem Acc.step{wv:AG}{l:jo}{S:AD}(h:Acc wv l S){e:AH}(a:ET wv S e)(b:UI l e):Acc wv (l++[e]) (Dd wv S e):=by intro r;rw[ABL,h,List.singleton_append,G3,a,b];rfl
section
variable{T:lr}
def XV:Nat->List AX->Nat|0,_=>0|d+1,l=>(l.map λs=>1+XV d s.dz+XV d s.ea).sum
def SN(t nv:Int)(l:ns):Prop:=∀(j:Nat) x,l[j]? =some x->x.cT=t/\x.ew=nv+j
theorem SN.app{a b:ns}(h:SN t o a)(g:SN t (o+a.length) b):SN t o (a++b):=by intro j x c;by_cases e:j<a.length;rw[AAs e]at c;exact h j x c;rw[AAu ah]at c;have:=g _ x c;omega
theorem SN.one:SN t o [⟨t,o,k⟩]:=by intro j x b;grind
end
section
def bX(p:Aa)(i:Nat):Nat:=((p.AB.take i).map λt=>XV 4 t.dz).sum
structure WV (p:Aa) (N:Nat) (w:AG):Prop where
 c:w.dg=P7
 l:w.AK=iY
 d:w.Aj=[⟨cN,0⟩]
 f:w.AM=[⟨#[102]⟩]
 t:w.AB=(p.AB.take N).map (·.dq)
 n:w.Bu.length=bX p N
 o:∀j k,j<N->bX p j<=k->k<bX p (j+1)->∃y,w.Bu[k]? =some y/\y.cT=(j:Int)
 s:∃t n:Int,(t<N\/t=N/\n=0)/\∀R,Hz p.AB.length 0 0 (w.Bu++R)=Hz p.AB.length t n R
theorem WV.names{p:Aa}(a:WV p p.AB.length wv):wv.AB=p.AB.map (·.dq):=by rw[a.t,List.take_length]
end
theorem sceneW_m:HV.Aj.all (λc=>B4 c.dn HV.AK.length):=by decide +kernel
structure SL (s:AD):Prop where
 l:s.dc.AK.length=3
 d:s.dc.Bs.length=1
 t:s.dc.AB.length=4
 c:s.dg.length=5
 u:s.AM.length=1
 n:s.df.length=4
 r:RB 1 s.dc
theorem SL.sc(h:SL s):SC 1 s:=by refine⟨?_,h.r⟩;simp only[I4,HR,AAL,AAb,dR,X9,X8,h.d,h.t,h.c,h.u,h.n,and_self,and_true];exact⟨sceneW_m,by rw[h.l,dS]⟩
theorem SL.lock(h:SL s)(i:Nat)(x:AQ)(b:x.Ae.length<=1):SL (AD.mk (AP.mk (s.dc.AK.set i x) s.dc.Tx s.dc.Bs s.dc.AB) s.dg s.AM s.df):=by
 refine⟨by simpa using h.l,h.d,h.t,h.c,h.u,h.n,?_⟩;intro y a;rcases mem_set a with a|rfl
 exact h.r y a;exact b
structure WG (w:AF):Prop where
 v:KG w=true
 e:∀e∈w.AA,K3 e
 r:RB 1000 w.de.dc
def UE(wv:AG):AD->List AH->Prop|_,[]=>True|s,e::r=>ET wv s e=true/\UE wv (Dd wv s e) r
theorem UE.step{wv:AG}(d:Small wv){s:AD}{N:Nat}(c:RB N s.dc)(a:N<=1000000){e:AH}(b:K3 e)(f:ET wv s e):CF wv s e=some (Dd wv s e,true)/\CC wv s e=some (Dd wv s e,true):=by rw[dY wv d s (c.mono a) e b,Tp wv d s (c.mono a) e b];unfold QV;rw[AAQ f];exact⟨rfl,rfl⟩
theorem UE.of:∀{l:jo}{s:AD},(∀(i:Nat)(hi:i<l.length),ET wv ((l.take i).foldl (Dd wv) s) l[i])->UE wv s l:=by intro l;induction l with|nil=>intro s _;trivial|cons e r ih=>intro s h;exact⟨h 0 ak,ih λi hi=>h (i+1) (by simpa using hi)⟩
theorem posW_poss:∀{l pre:jo}{s:AD},XU wv c pre s l->UE wv s l:=by intro l;induction l with|nil=>intro pre s _;trivial|cons e r ih=>intro pre s h;unfold XU at h;simp only[AAL]at h;exact⟨h.1,ih h.2.2⟩
structure WV2 (w:AF):Prop where
 s:Small w.db
 n:w.AA.length<=16
 p:UE w.db w.de w.AA
theorem JZ(h:KG w):WV2 w:=by unfold KG at h;simp only[AAL,AAe]at h;exact⟨Eh h.1,h.2.2.1,posW_poss h.2.2.2.2⟩
def XA(wv:AG)(t kk o k:Int)(x:AQ):AQ:=if(kk=6\/kk=10)/\k=o\/kk=17/\k=(ix wv.Aj o).dn then⟨t,x.Ae⟩
 else if(kk=7\/kk=11)/\k=o\/kk=16/\k=(ix wv.Aj o).dn then⟨-1,x.Ae⟩
 else if kk=8/\k=o then⟨x.Bw,Ol (x.Ae++[t])⟩
 else if kk=9/\k=o then⟨x.Bw,x.Ae.filter λy=>!(y==t)⟩
 else x
theorem setT_L(s:AP)(t:Int)(g:AL->AL):(Jz s t g).AK=s.AK:=rfl
def kD{s:AP}(hi:B4 t s.AK.length)(a:B4 k s.AK.length)(f:AQ->AQ):ix (HW s t f).AK k=if k=t then f (ix s.AK t)else ix s.AK k:=Ms hi a
theorem l8{s:AP}(p:B4 k s.AK.length):∀a,(a=6\/a=7\/a=8\/a=9\/a=10\/a=11->B4 o s.AK.length)->(a=16\/a=17->B4 (ix wv.Aj o).dn s.AK.length)->ix (DP wv s t a o wake).1.AK k=XA wv t a o k (ix s.AK k):=by
 refine kinds ?_ ?_ ?_ ?_ ?_ ?_ ?_ ?_ ?_ ?_ ?_ ?_ ?_ ?_ ?_ ?_ ?_ ?_ ?_ ?_ ?_ ?_ ?_ (λa r u v w x y z B C b c F d e f G g i j E l m n=>?_);all_goals
  intro D q;unfold DP XA
 all_goals first| (simp(decide:=true)only[AAq,AAd,or_true,true_or,ABB,false_or,true_and,false_and,Jz];done)| (simp(decide:=true)only[AAq,AAd,or_true,true_or,ABB,false_or,true_and,false_and];rw[kD (D ah) p];simp_all)| (simp(decide:=true)only[AAq,AAd,or_true,true_or,ABB,false_or,true_and,false_and];refine(kD (q ah) p _).trans ?_;split<;>rename_i h<;>simp only[h,AAq,AAd];done)| (simp(decide:=true)only[AAq,AAd,or_true,true_or,ABB,false_or,true_and,false_and];split<;>rfl)| (simp only[r,u,v,w,x,y,z,B,C,b,c,F,d,e,f,G,g,i,j,E,l,m,n,AAd,or_self,false_and];done)|skip
 all_goals
  simp(decide:=true)only[AAq,AAd,or_true,true_or,ABB,false_or,true_and,false_and];rw[setT_L,kD (q ah) p];simp_all
theorem Yr{s:AP}(c:CN wv s t b o)(e:B4 k wv.AK.length):ix (DP wv s t b o wake).1.AK k=XA wv t b o k (ix s.AK k):=by unfold CN at c;simp only[AAL]at c;obtain⟨d,_,a,_⟩:=c;have f:=(Dn d).1;have g:=λh=>Fg d (o:=o) h;rw[<- f]at e g;refine l8 e b (λh=>?_) λh=>g ?_;(rw[f];unfold A8 at a;rcases h with h|h|h|h|h|h<;>subst h<;>simp(decide:=true)only[AAq,AAd,or_true,true_or,ABB,AAL]at a<;>exact a.1);unfold A8 at a;grind
def hpL(t:Int)(x:AQ):Bool×Bool:=(x.Bw==t,x.Ae.contains t)
def ownF(wv:AG)(kk o k:Int)(p:Bool×Bool):Bool×Bool:=if(kk=6\/kk=10)/\k=o\/kk=17/\k=(ix wv.Aj o).dn then(true,p.2)
 else if(kk=7\/kk=11)/\k=o\/kk=16/\k=(ix wv.Aj o).dn then(false,p.2)
 else if kk=8/\k=o then(p.1,true)
 else if kk=9/\k=o then(p.1,false)
 else p
def XI(wv:AG)(s:AP):Prop:=∀k,B4 k wv.AK.length->(ix s.AK k).Ae≠[]->(ix wv.AK k).RW/\(ix s.AK k).Bw= -1
def MQ(wv:AG):Prop:=∀o,B4 o wv.Aj.length->(ix wv.AK (ix wv.Aj o).dn).RW=false
theorem own_eq(c:0<=t)(x:AQ):hpL t (XA wv t wake o k x)=ownF wv wake o k (hpL t x):=by have b:((-1:Int)==t)=false:=an;unfold XA ownF hpL;split;simp;split;simp[b];split;have:(Ol (x.Ae++[t])).contains t:=(by rw[AAp,Kp];simp);simp_all;grind
theorem Zm{s:AP}(b:CN wv s t k o):(k=6->(ix s.AK o).Bw= -1/\(ix wv.AK o).RW=false)/\(k=10->(ix s.AK o).Bw= -1/\(ix s.AK o).Ae=[])/\(k=8->(ix s.AK o).Bw= -1/\(ix wv.AK o).RW)/\(k=7\/k=11->(ix s.AK o).Bw=t)/\(k=16->(ix s.AK (ix wv.Aj o).dn).Bw=t/\B4 o wv.Aj.length)/\(k=17->(ix s.AK (ix wv.Aj o).dn).Bw= -1/\B4 o wv.Aj.length):=by unfold CN at b;simp only[AAL]at b;obtain⟨_,_,c,d⟩:=b;unfold A8 at c;unfold Du at d;refine⟨λh=>?_,λh=>?_,λh=>?_,λh=>?_,λh=>?_,λh=>?_⟩;simp_all;simp_all;simp_all;grind;all_goals simp_all
theorem other_eq{s:AP}(d:CN wv s wake b o)(j:0<=t)(hn:wake≠t):hpL t (XA wv wake b o k (ix s.AK k))=hpL t (ix s.AK k):=by
 obtain⟨l,f,n,m,g,i⟩:=Zm d;have a:((-1:Int)==t)=false:=an;have c:(wake==t)=false:=by simpa using hn
 unfold XA hpL;split;(rename_i h;have:(ix s.AK k).Bw= -1:=by(rcases h with⟨h|h,rfl⟩|⟨h,rfl⟩);omega;omega;omega);simp only[this,a,c];split;grind;split;have:(Ol ((ix s.AK k).Ae++[wake])).contains t=(ix s.AK k).Ae.contains t:=(by rw[Bool.eq_iff_iff,AAp,AAp,Kp];simp only[AAc,AAg];exact⟨λh=>h.resolve_right λe=>hn e.symm,.inl⟩);simp_all;grind
theorem XI.apply{s:AP}(g:MQ wv)(h:XI wv s){f:Int}(d:CN wv s t f o):XI wv (DP wv s t f o wake).1:=by intro k e;obtain⟨m,j,p,n,l,c⟩:=Zm d;rw[Yr d e];have b:=h k e;unfold XA;split;(rename_i a;intro i;have b:=b i;rcases a with⟨a|a,rfl⟩|⟨a,rfl⟩);simp_all;simp_all;rw[g _ (c a).2]at b;cases b.1;grind
def HF(wv:AG)(t k:Int)(l:jo)(p:Bool×Bool):Bool×Bool:=l.foldl (λp e=>if e.cT=t then ownF wv e.da e.di k p else p) p
theorem HF_snoc(wv:AG)(t k:Int)(l:jo)(e:AH)(p:Bool×Bool):HF wv t k (l++[e]) p=if e.cT=t then ownF wv e.da e.di k (HF wv t k l p)else HF wv t k l p:=by unfold HF;simp_all
theorem HF_skip(wv:AG)(t k:Int){l r:jo}(h:∀e∈r,e.cT≠t)(p:Bool×Bool):HF wv t k (l++r) p=HF wv t k l p:=by unfold HF;rw[List.foldl_append];generalize l.foldl _ p=q;revert q;induction r with|nil=>grind|cons e r ih=>simp_all
theorem poss_en{e:AH}(h:ET wv s e):CN wv s.dc e.cT e.da e.di:=by unfold ET at h;simp_all
instance:Inhabited LQ:=⟨⟨0,false⟩⟩
structure WQ (w:AF):Prop where
 g:WG w
 f:WinF w
theorem WG.q(h:WG w):WQ w:=by refine⟨h,?_⟩;have a:=h.v;unfold KG at a;simp only[AAL,AAe]at a;exact⟨a.1,a.2.1,a.2.2.1⟩
structure GIw (w:AF) (K:Nat) (c:Jt):Prop where
 f:HR w.db c.dc=true
 r:RB (1000+K) c.dc
 l:c.dg.length=w.db.dg.length
 u:c.AM.length=w.db.AM.length
 x:c.JU.length=w.AA.length
 k:c.e8.length=w.AA.length
 o:c.dv.length<=K
 p:∀(i j:Nat)(hi:i<j)(hj:j<w.AA.length),w.AA[i].cT=w.AA[j].cT->(j:Int)∈c.dv->(i:Int)∈c.dv
 h:∀t k,0<=t->B4 k w.db.AK.length=true->∀m,m<=w.AA.length->(∀(i:Nat)(hi:i<w.AA.length),w.AA[i].cT=t->((i:Int)∈c.dv↔i<m))->hpL t (ix c.dc.AK k)=HF w.db t k (w.AA.take m) (hpL t (ix w.de.dc.AK k))
 X:XI w.db c.dc
theorem GIw.step{w:AF}(hw:WQ w){K:Nat}{c:Jt}(d:GIw w K c){i:Nat}(hi:i<w.AA.length)(J:(i:Int)∉c.dv)(Q:∀(j:Nat)(z:j<i),w.AA[j].cT=w.AA[i].cT->(j:Int)∈c.dv)(G:CN w.db c.dc w.AA[i].cT w.AA[i].da w.AA[i].di)(wake:Int){C F:List LQ}{X:kj}{W:iT}(R:C.length=c.dg.length)(S:F.length=c.AM.length)(U:X.length=c.JU.length)(T:W.length=c.e8.length):GIw w (K+1) ⟨(DP w.db c.dc w.AA[i].cT w.AA[i].da w.AA[i].di wake).1,C,F,c.dv++[(i:Int)],X,W⟩:=by have hq:=TL hw.f.v;refine⟨Y8 d.f _ _ _ _,d.r.apply _ _ _ _ _,R.trans d.l,S.trans d.u,U.trans d.x,T.trans d.k,by have:=d.o;simp;omega,?_,?_,d.X.apply hq G⟩;(intro a b E V y s;rcases AAc.1 s with s|s);exact AA4 _ (d.p a b E V y s);grind;intro t k y I m s D;dsimp only at D |-;rw[Yr G I];by_cases q:w.AA[i].cT=t;(have Z:i<m:=(D i hi q).1 ak;have O:w.AA.take m=w.AA.take (i+1)++(w.AA.take m).drop (i+1):=(by have:=ABY (i+1) (w.AA.take m);rw[List.take_take,Nat.min_eq_left (by omega)]at this;exact this.symm);have P:∀e∈(w.AA.take m).drop (i+1),e.cT≠t:=by intro e H g;obtain⟨j,z,rfl⟩:=ABR H;simp only[List.length_drop,ABg]at z;rw[List.getElem_drop,List.getElem_take]at g;have B:i+1+j<w.AA.length:=ah;(have:=(D (i+1+j) B g).2 ah;rcases AAc.1 this with L|L);exact J (d.p i (i+1+j) ah B (q.trans g.symm) L);grind);rw[O,HF_skip _ _ _ P,<- AAn hi,HF_snoc,AAQ q,q,own_eq y];congr 1;refine d.h t k y I i ah λj z n=>⟨λM=>?_,λN=>Q j N (n.trans q.symm)⟩;refine Decidable.byContradiction λhn=>?_;by_cases e:j=i;grind;exact J (d.p i j ah z (q.trans n.symm) M);rw[other_eq G y q];refine d.h t k y I m s λj z n=>?_;grind
instance:Inhabited AH:=⟨⟨0,0,0,0,0,[],[]⟩⟩
def Ho(s r:AH):Bool:=s.di==r.di&&(s.da==4&&r.da==3||s.da==22&&r.da==23)
def Mn(w:AF)(n:Int)(r:AH)(i:Nat)(s:AH):Bool:=Ho s r&&(s.dm==r.dm&& !(s.cT==r.cT&&decide ((i:Int)>n)))
def Il(w:AF)(n:Int)(r:AH):Nat->List AH->List Int|_,[]=>[]|i,s::l=>if Mn w n r i s=true then(i:Int)::Il w n r (i+1) l else Il w n r (i+1) l
def La(w:AF)(r:AH):Bool:=if r.da=23 then ix w.de.dc.Bs r.di&&ix w.de.AM r.di==r.dm else ix w.de.dg r.di==r.dm
def IZ(w:AF)(n:Int):List Int:=if B4 n w.AA.length=true/\((ix w.AA n).da=3\/(ix w.AA n).da=23)then(if La w (ix w.AA n)=true then[-1]else[])++Il w n (ix w.AA n) 0 w.AA else[]
theorem writes_eq(s r:AH):G9 s r=some (Ho s r):=by unfold G9 G9.J1 Ho;grind
theorem read_eq(r:AH):Ih r=some (r.da==3||r.da==23):=by unfold Ih Ih.J1;grind
theorem PX(hn:w.AA.length<=16)(n:Int)(r:AH):∀(m i:Nat)(c:iT),i<=w.AA.length->w.AA.length<m+i->c.length<=i+1->Bm.AU n w r m c i=some (c++Il w n r i (w.AA.drop i))|0,i,c,h1,h2,_=>ah|m+1,i,c,h1,h2,h3=>by rw[Bm.AU];unfold Bm.L1;by_cases hi:i<w.AA.length;(rw[Ay ah,Be hi,AAK,writes_eq,AAK,DQ hi,Il];have a:∀p,p=Mn w n r i w.AA[i]->Bm.J3 (Bm.AU n w r m) c i p=some (c++if Mn w n r i w.AA[i]=true then(i:Int)::Il w n r (i+1) (w.AA.drop (i+1))else Il w n r (i+1) (w.AA.drop (i+1))):=by rintro p rfl;unfold Bm.J3 Bm.J4;rw[AW ah];split;rw[Bg ah,PX hn n r m (i+1) _ ah ah an];simp;rw[PX hn n r m (i+1) c ah ah ah]);unfold Mn at a |-;grind;rw[AR ah,EW ah];simp[Bm.J5,Il]
theorem oG(d:WQ w)(hi:n<w.AA.length):(w.AA[n].da=3->B4 w.AA[n].di w.de.dg.length)/\(w.AA[n].da=23->B4 w.AA[n].di w.de.dc.Bs.length/\B4 w.AA[n].di w.de.AM.length):=by
 have j:=JZ d.g.v;obtain⟨f1,f2,f3,f4⟩:=Hq d.f.f;have f5:=(Dn f1).2.1;have key:∀{l:jo}{s:AD},UE w.db s l->∀e∈l,A8 w.db e.da e.di:=by intro l;induction l with|nil=>simp_all|cons a r ih=>(intro s c e b;rcases AAk.1 b with rfl|b);have:=poss_en c.1;unfold CN at this;simp_all;exact ih c.2 e b
 have h:=key j.p _ (AAW hi);unfold A8 at h;grind
theorem oE(d:WQ w)(n:Int):Bm w n=some (IZ w n):=by have q:=BN;have hn:=d.f.e;unfold Bm IZ;by_cases hi:B4 n w.AA.length=true;(have j:=As.1 hi;rw[AR ah,AR ah,Bv hi,AAK,read_eq,AAK];unfold Bm.J1;cases a:((ix w.AA n).da==3||(ix w.AA n).da==23)with|false=>simp_all|true=>(simp only[Bool.not_true,AAU,AAd];have c:(ix w.AA n).da=3\/(ix w.AA n).da=23:=(by simpa using a);rw[AAQ ⟨hi,c⟩,Bv hi,AAK];have b:n.toNat<w.AA.length:=ah;have m:ix w.AA n=w.AA[n.toNat]:=(by unfold ix;simp[b]);obtain⟨g,i⟩:=oG d b;rw[<- m]at g i;have k:GL w (ix w.AA n)=some (La w (ix w.AA n)):=by(unfold GL GL.J1 La;rcases c with a|a);rw[AAP aA,AAP ah,Bv (g a)];rfl;obtain⟨o,p⟩:=i a;rw[AAQ aA,AAQ a,Bv o,AAK,Bv p];grind);rw[k,AAK];unfold Bm.J2;split;exact PX hn n _ BQ 0 [-1] ah ah ak;exact PX hn n _ BQ 0 [] ah ah ak);have j:n<0\/n>=w.AA.length:=(by simp only[B4,AAL,AAe]at hi;omega);have l:¬(B4 n w.AA.length=true/\((ix w.AA n).da=3\/(ix w.AA n).da=23)):=λh=>hi h.1;rw[AAP l];unfold Bm.J1;grind
end
theorem awake27:GY=some true:=by decide +kernel
variable{r:AE}{T:jc}
section
set_option maxHeartbeats 4000000
theorem LB(hn:w.AA.length<=16)(n f:Int)(r:AH)(b:r.da=3/\f=4\/r.da=23/\f=22)(d:∀i:Nat,(i:Int)=n->∀hi:i<w.AA.length,w.AA[i].da≠f):∀(m i:Nat)(c:iT),i<=w.AA.length->w.AA.length<m+i->c.length<=i+1->BH.AU n f w r m c i=some (c++Il w n r i (w.AA.drop i))|0,i,c,a,h2,_=>ah|m+1,i,c,a,h2,h3=>by rw[BH.AU];unfold BH.L1;by_cases hi:i<w.AA.length;(rw[Ay ah,Be hi,AAK,DQ hi,Il];have j:=λh=>d i h hi;have g:∀p,p=Mn w n r i w.AA[i]->BH.J5 (BH.AU n f w r m) c i p=some (c++if Mn w n r i w.AA[i]=true then(i:Int)::Il w n r (i+1) (w.AA.drop (i+1))else Il w n r (i+1) (w.AA.drop (i+1))):=by rintro p rfl;unfold BH.J5 BH.J6;rw[AW ah];split;rw[Bg ah,LB hn n f r b d m (i+1) _ ah ah an];simp;rw[LB hn n f r b d m (i+1) c ah ah ah]);(have s:Mn w n r i w.AA[i]=false->BH.J6 (BH.AU n f w r m) i c=some (c++if Mn w n r i w.AA[i]=true then(i:Int)::Il w n r (i+1) (w.AA.drop (i+1))else Il w n r (i+1) (w.AA.drop (i+1))):=by intro k;rw[<- g false k.symm];unfold BH.J5;rw[AAP ak]);(generalize w.AA[i]=e at*;have q:Ho e r=(e.da==f&&e.di==r.di):=by(unfold Ho;rcases b with⟨a,rfl⟩|⟨a,rfl⟩);grind;grind);(have u:∀o,o= !(Ho e r&&e.dm==r.dm)->BH.J4 (BH.AU n f w r m) c n i r e o=some (c++if Mn w n r i e=true then(i:Int)::Il w n r (i+1) (w.AA.drop (i+1))else Il w n r (i+1) (w.AA.drop (i+1))):=by rintro o rfl;unfold BH.J4;cases hc:(Ho e r&&e.dm==r.dm)with|false=>rw[AAQ ak];apply s;unfold Mn;simp_all|true=>simp only[AAL]at hc;rw[AAP ak];have l:e.da=f:=(by have:=hc.1;rw[q]at this;simp at this;exact this.1);have t:(i:Int)≠n:=λh=>j h l;cases ht:e.cT==r.cT with|false=>rw[AAQ am];apply g;unfold Mn;simp_all|true=>rw[AAP am];apply g;unfold Mn;grind);grind;rw[AR ah,EW ah];simp[BH.J7,Il]
theorem mcand_eq(m:WQ w)(n:Int):BH w n=some (IZ w n):=by have y:=BN;have hn:=m.f.e;unfold BH IZ;by_cases hi:B4 n w.AA.length=true;have r:=As.1 hi;rw[AR ah];unfold BH.J1;rw[AR ah,Bv hi,AAK];have k:n.toNat<w.AA.length:=ah;have u:ix w.AA n=w.AA[n.toNat]:=(by unfold ix;simp[k]);obtain⟨o,p⟩:=oG m k;rw[<- u]at o p;have d:∀f,(ix w.AA n).da≠f->∀i:Nat,(i:Int)=n->∀hi:i<w.AA.length,w.AA[i].da≠f:=(by intro f s i q hi;have:ix w.AA n=w.AA[i]:=(by rw[<- q,CH hi]);rw[<- this];exact s);by_cases g:(ix w.AA n).da=3;have j:B4 n w.AA.length/\((ix w.AA n).da=3\/(ix w.AA n).da=23):=⟨hi,.inl g⟩;rw[AAQ am,Bv (o g),AAK,AAQ j];have l:La w (ix w.AA n)=(ix w.de.dg (ix w.AA n).di==(ix w.AA n).dm):=(by unfold La;rw[AAP (by omega)]);rw[<- l];unfold BH.J3;by_cases b:La w (ix w.AA n)=true;rw[AAQ b,AAQ b];exact LB hn n 4 _ (.inl ⟨g,rfl⟩) (d 4 ah) BQ 0 [-1] ah ah ak;rw[AAP b,AAP b];exact LB hn n 4 _ (.inl ⟨g,rfl⟩) (d 4 ah) BQ 0 [] ah ah ak;rw[AAP am];by_cases a:(ix w.AA n).da=23;((obtain⟨v,x⟩:=p a;have c:B4 n w.AA.length/\((ix w.AA n).da=3\/(ix w.AA n).da=23):=⟨hi,.inr a⟩;rw[AAQ am,Bv v,AAK,AAQ c];have l:La w (ix w.AA n)=(ix w.de.dc.Bs (ix w.AA n).di&&ix w.de.AM (ix w.AA n).di==(ix w.AA n).dm):=(by unfold La;rw[AAQ a]);have B:∀z,z=La w (ix w.AA n)->BH.J2 n w (ix w.AA n) z=some ((if La w (ix w.AA n)=true then[-1]else[])++Il w n (ix w.AA n) 0 w.AA):=by rintro z rfl;unfold BH.J2 BH.J3;by_cases b:La w (ix w.AA n)=true;rw[AAQ b,AAQ b];exact LB hn n 22 _ (.inr ⟨a,rfl⟩) (d 22 ah) BQ 0 [-1] ah ah ak;rw[AAP b,AAP b];exact LB hn n 22 _ (.inr ⟨a,rfl⟩) (d 22 ah) BQ 0 [] ah ah ak);cases hd:ix w.de.dc.Bs (ix w.AA n).di with|true=>simp only[AAq];rw[Bv x,AAK];simp_all|false=>simp_all);simp_all;have r:n<0\/n>=w.AA.length:=(by simp only[B4,AAL,AAe]at hi;omega);have t:¬(B4 n w.AA.length=true/\((ix w.AA n).da=3\/(ix w.AA n).da=23)):=λh=>hi h.1;rw[AAP t];unfold BH.J1;grind
theorem candL_len(w:AF)(n:Int)(r:AH):∀(l:jo)(i:Nat),(Il w n r i l).length<=l.length:=by intro l;induction l with|nil=>intro i;simp[Il]|cons s l ih=>intro i;have:=ih (i+1);unfold Il;grind
theorem candS_len(hn:w.AA.length<=16)(n:Int):(IZ w n).length<=17:=by unfold IZ;split;have:=candL_len w n (ix w.AA n) w.AA 0;grind;simp
theorem Equal_loop27(l:iT)(a:l.length<=1000000000):∀n i:Nat,i<=l.length->l.length<n+i->Io.AU l l n (i:Int)=some true|0,i,h1,h2=>ah|n+1,i,h1,h2=>by rw[Io.AU];unfold Io.L1;by_cases hi:i<l.length;rw[Ay ah,Be hi,AAK,AAK,AAP ak,AW ah];exact Equal_loop27 l a n (i+1) ah ah;rw[AR ah];rfl
theorem Equal27_self(l:iT)(a:l.length<=1000000000):Io l l=some true:=by unfold Io;rw[AAP ak];exact Equal_loop27 l a BQ 0 ah aS
def EN(t:Int):Nat->List AH->List Int|_,[]=>[]|i,e::l=>if e.cT=t then(i:Int)::EN t (i+1) l else EN t (i+1) l
def XS(w:AF):List (List Int):=(List.range w.db.AB.length).map λ(t:Nat)=>EN (t:Int) 0 w.AA
def relB(r:AE)(i j:Nat):Bool:=((((r.d7)[i]?).getD [])[j]?).getD false
structure RW (w:AF) (r:AE) (A:Nat->Nat->Prop):Prop where
 s:r.w=w
 l:r.ef=XS w
 n:r.d7.length=w.AA.length
 m:∀x∈r.d7,x.length=w.AA.length
 a:∀i j,i<w.AA.length->j<w.AA.length->(relB r i j=true↔A i j)
def RW.congr{A B:jc}(h:RW w r A)(c:∀i j,i<w.AA.length->j<w.AA.length->(A i j↔B i j)):RW w r B:=⟨h.s,h.l,h.n,h.m,λi j hi b=>(h.a i j hi b).trans (c i j hi b)⟩
theorem RW.row{A:jc}(h:RW w r A)(b:p<w.AA.length):∃row,gt r.d7 (p:Int)=some row/\r.d7[p]? =some row/\row.length=w.AA.length:=by
 have a:p<r.d7.length:=by rw[h.n];exact b
 exact⟨r.d7[p],Be a,AAT a,h.m _ (AAW a)⟩
theorem RW.get{A:jc}(h:RW w r A)(c:p<w.AA.length)(g:n<w.AA.length){d:Type}{f:Bool->ABm d}{R:d->Prop}(k:∀b,(b=true↔A p n)->CX (f b) R):CX ((gt r.d7 (p:Int)).bind λx=>(gt x (n:Int)).bind f) R:=by obtain⟨row,e,i,j⟩:=h.row c;rw[e,AAK,Be (show n<row.length by omega),AAK];refine k _ ?_;have:=h.a p n c g;unfold relB at this;simp_all
theorem RW.put{A:jc}(h:RW w r A)(g:p<w.AA.length)(k:n<w.AA.length)(f:r.d7[p]? =some B):RW w ⟨r.w,r.ef,r.ep,r.d7.set p (B.set n true)⟩ (λi j=>A i j\/i=p/\j=n):=by have c:B.length=w.AA.length:=h.m _ (AAZ f);refine⟨h.s,h.l,by simpa using h.n,?_,?_⟩;(intro x b;rcases AA2 b with b|rfl);exact h.m x b;simp_all;intro i j hi e;have d:=h.a i j hi e;unfold relB at d |-;grind
theorem RW.set{A:jc}(h:RW w r A)(q:p<w.AA.length)(g:a<w.AA.length){c:Type}{f:List Bool->Bool->ABm c}{R:c->Prop}(k:∀row b,RW w ⟨r.w,r.ef,r.ep,r.d7.set p (row.set a true)⟩ (λi j=>A i j\/i=p/\j=a)->CX (f row b) R):CX ((gt r.d7 (p:Int)).bind λx=>(gt x (a:Int)).bind (f x)) R:=by obtain⟨row,d,e,l⟩:=h.row q;rw[d,AAK,Be (show a<row.length by omega),AAK];exact k row _ (h.put q g e)
def WA(A:jc)(k i j:Nat):Prop:=A i j\/A i k/\A k j
def WN(A:jc):Nat->Nat->Nat->Prop|0=>A|k+1=>WA (WN A k) k
theorem UM(A:jc):∀k z,z<k->∀x y,WN A k x z->WN A k z y->WN A k x y:=by intro k;induction k with|zero=>omega|succ k ih=>intro z c x y b a;by_cases e:z=k;subst e;exact .inr ⟨b.elim id λh=>h.1,a.elim id λh=>h.2⟩;(have c:z<k:=ah;rcases b with b|b);(rcases a with a|a);exact .inl (ih z c x y b a);exact .inr ⟨ih z c x k b a.1,a.2⟩;(rcases a with a|a);exact .inr ⟨b.1,ih z c k y b.2 a⟩;exact .inr ⟨b.1,a.2⟩
def O2(A:jc):∀k {x y},A x y->WN A k x y|0,_,_,h=>h|k+1,_,_,h=>.inl (O2 A k h)
theorem TF{A:jc}(a:∀x y,x<n->y<n->A x y->T x y)(b:∀x z y,x<n->z<n->y<n->T x z->T z y->T x y):∀k,k<=n->∀x y,x<n->y<n->WN A k x y->T x y:=by
 intro k;induction k with
 |zero=>exactλ_=>a
 |succ k ih=>
  intro c x y d e h;rcases h with h|h
  all_goals grind
theorem zZ(hn:w.AA.length<=16){A:jc}(h:RW w r A):CX (Au r) λa=>RW w a (WN A w.AA.length):=by
 have V:=BN;have U:=h.n;have key:∀(n k:Nat)(x:AE),w.AA.length<n+k->k<=w.AA.length->RW w x (WN A k)->CX (Au.AU r n x k) λa=>RW w a (WN A w.AA.length):=by intro n;induction n with|zero=>omega|succ n ih=>intro k x S T G;unfold Au.AU Au.L1;refine tI (λt=>?_) λt=>?_;rotate_left;have:=ABO t;obtain rfl:k=w.AA.length:=ah;exact tR G;(have t:=AAV t;have p:k<w.AA.length:=ah;generalize K:WN A k=B at G;have W:∀(m c:Nat)(y:AE),w.AA.length<m+c->c<=w.AA.length->RW w y (λi j=>B i j\/i<c/\B i k/\B k j)->CX (Au.B9 (Au.AU r n) r k m y c) λa=>RW w a (WN A w.AA.length):=by intro m;induction m with|zero=>omega|succ m ih2=>intro c y R g2 C;unfold Au.B9 Au.L2;refine tI (λd=>?_) λd=>?_;(. have d:=AAV d;have f:c<w.AA.length:=ah;have H:∀z,RW w z (λi j=>B i j\/i<c+1/\B i k/\B k j)->CX (Au.J2 (Au.B9 (Au.AU r n) r k m) c z) λa=>RW w a (WN A w.AA.length):=(by intro z q;unfold Au.J2;rw[AW (by omega)];exact ih2 (c+1) z (by omega) (by omega) q);refine C.get f p λb E=>tI (λM=>?_) λO=>?_;have M:¬B c k:=λL=>am;refine H y (C.congr λi j hi s=>⟨λg=>g.imp id λg=>⟨ah,g.2⟩,λg=>g.elim .inl λg=>?_⟩);grind;(. (have P:B c k:=(by have D:b=true:=(by simpa using O);exact(E.1 D).elim id λg=>by omega);have X:∀(u e:Nat)(z:AE),w.AA.length<u+e->e<=w.AA.length->RW w z (λi j=>(B i j\/i<c/\B i k/\B k j)\/i=c/\j<e/\B k j)->CX (Au.Fw (Au.B9 (Au.AU r n) r k m) r k c u z e) λa=>RW w a (WN A w.AA.length):=by intro u;induction u with|zero=>omega|succ u ih3=>intro e z Z q2 v;unfold Au.Fw Au.L3;refine tI (λl=>?_) λl=>?_;(. have l:=AAV l;have o:e<w.AA.length:=ah;have j1:∀z,RW w z (λi j=>(B i j\/i<c/\B i k/\B k j)\/i=c/\j<e+1/\B k j)->CX (Au.J1 (Au.Fw (Au.B9 (Au.AU r n) r k m) r k c u) e z) λa=>RW w a (WN A w.AA.length):=(by intro z q;unfold Au.J1;rw[AW (by omega)];exact ih3 (e+1) z (by omega) (by omega) q);refine v.get p o λQ J=>tI (λI=>?_) λN=>?_;(. (have F:B k e:=by(rcases J.1 I with(g|g)|g);exact g;exact g.2.2;exact g.2.2);refine v.set f o λrow _ q=>?_;rw[AAi,AAi];refine j1 _ (q.congr λi j hi s=>⟨λg=>?_,λg=>?_⟩);all_goals grind);have F:¬B k e:=λg=>am;refine j1 z (v.congr λi j hi s=>⟨λg=>g.imp id λg=>⟨g.1,ah,g.2.2⟩,λg=>g.imp id λg=>?_⟩);grind);(. have l:=ABO l;obtain rfl:e=w.AA.length:=ah;refine H z (v.congr λi j hi s=>⟨λg=>?_,λg=>?_⟩);all_goals grind));grind));have d:=ABO d;obtain rfl:c=w.AA.length:=ah;unfold Au.J3;rw[AW ah];refine ih (k+1) y ah ah (C.congr λi j hi s=>?_);show _↔WA (WN A k) k i j;rw[K];exact⟨λg=>g.imp id λg=>g.2,λg=>g.imp id λg=>⟨hi,g⟩⟩);grind
 exact key BQ 0 r ah ah h
abbrev MX(w:AF)(o:jb)(A:jc):Prop:=RW w ⟨w,XS w,[],o⟩ A
def mget{o:jb}{A:jc}(h:MX w o A)(c:p<w.AA.length)(d:n<w.AA.length){a:Type}{f:Bool->ABm a}{R:a->Prop}(k:∀b,(b=true↔A p n)->CX (f b) R):CX ((gt o (p:Int)).bind λx=>(gt x (n:Int)).bind f) R:=RW.get h c d k
def mset{o:jb}{A:jc}(h:MX w o A)(c:p<w.AA.length)(d:n<w.AA.length){a:Type}{f:List Bool->Bool->ABm a}{R:a->Prop}(k:∀row b,MX w (o.set p (row.set n true)) (λi j=>A i j\/i=p/\j=n)->CX (f row b) R):CX ((gt o (p:Int)).bind λx=>(gt x (n:Int)).bind (f x)) R:=RW.set h c d k
theorem mclose(hn:w.AA.length<=16){o:jb}{A:jc}(h:MX w o A):CX (Af.J15 o) λo'=>MX w o' (WN A w.AA.length):=by
 have T:=BN;have S:o.length=w.AA.length:=h.n;unfold Af.J15;have key:∀(n k:Nat)(x:jb),w.AA.length<n+k->k<=w.AA.length->MX w x (WN A k)->CX (Af.L8r o n x k) λo'=>MX w o' (WN A w.AA.length):=by intro n;induction n with|zero=>omega|succ n ih=>intro k x Q R t;rw[Af.L8r];unfold Af.L8;refine tI (λs=>?_) λs=>?_;rotate_left;have:=ABO s;obtain rfl:k=w.AA.length:=ah;exact tR t;(have s:=AAV s;have p:k<w.AA.length:=ah;have V:x.length=w.AA.length:=t.n;generalize I:WN A k=B at t;have X:∀(m c:Nat)(y:jb),w.AA.length<m+c->c<=w.AA.length->MX w y (λi j=>B i j\/i<c/\B i k/\B k j)->CX (Af.L9r (Af.L8r o n) x k m y c) λo'=>MX w o' (WN A w.AA.length):=by intro m;induction m with|zero=>omega|succ m ih2=>intro c y P g2 E;rw[Af.L9r];unfold Af.L9;refine tI (λa=>?_) λa=>?_;(. (have a:=AAV a;have d:c<w.AA.length:=ah;have W:y.length=w.AA.length:=E.n;have Z:∀(u e:Nat)(z:jb),w.AA.length<u+e->e<=w.AA.length->MX w z (λi j=>(B i j\/i<c/\B i k/\B k j)\/i=c/\j<e/\B c k/\B k j)->CX (Af.yP (Af.L9r (Af.L8r o n) x k m) y k c u z e) λo'=>MX w o' (WN A w.AA.length):=by intro u;induction u with|zero=>omega|succ u ih3=>intro e z q1 q2 r;rw[Af.yP];unfold Af.L10;refine tI (λf=>?_) λf=>?_;(. have f:=AAV f;have l:e<w.AA.length:=ah;have q:∀z,MX w z (λi j=>(B i j\/i<c/\B i k/\B k j)\/i=c/\j<e+1/\B c k/\B k j)->CX (Af.J17 (Af.yP (Af.L9r (Af.L8r o n) x k m) y k c u) e z) λo'=>MX w o' (WN A w.AA.length):=(by intro z D;unfold Af.J17;rw[AW (by omega)];exact ih3 (e+1) z (by omega) (by omega) D);have no:¬(B c k/\B k e)->MX w z (λi j=>(B i j\/i<c/\B i k/\B k j)\/i=c/\j<e+1/\B c k/\B k j):=λN=>r.congr λi j _ _=>⟨λg=>g.imp id λg=>⟨g.1,ah,g.2.2⟩,λg=>g.imp id λg=>⟨g.1,aA,g.2.2⟩⟩;refine mget r d p λb C=>tI (λM=>?_) λU=>?_;(. (have O:B c k:=by(rcases C.1 M with(g|g)|g);exact g;omega;grind);refine mget r p l λH G=>?_;have v:H=true↔B k e:=G.trans ⟨λg=>aA,λg=>.inl (.inl g)⟩;unfold Af.J16;refine tI (λF=>?_) λJ=>q z (no λg=>am);have L:=v.1 F;refine mset r d l λrow _ D=>?_;rw[AAi,AAi];refine q _ (D.congr λi j _ _=>⟨λg=>?_,λg=>?_⟩);all_goals grind);unfold Af.J16;simp_all);(. have f:=ABO f;obtain rfl:e=w.AA.length:=ah;unfold Af.J18;rw[AW ah];refine ih2 (c+1) z ah ah (r.congr λi j _ K=>⟨λg=>?_,λg=>?_⟩);all_goals grind));grind);have a:=ABO a;obtain rfl:c=w.AA.length:=ah;unfold Af.J19;rw[AW ah];refine ih (k+1) y ah ah (E.congr λi j hi K=>?_);show _↔WA (WN A k) k i j;rw[I];exact⟨λg=>g.imp id λg=>g.2,λg=>g.imp id λg=>⟨hi,g⟩⟩);grind
 exact key BQ 0 o ah ah h
theorem Ex{e:AH}(h:ET wv s e):CN wv s.dc e.cT e.da e.di/\B4 e.cT wv.AB.length/\A8 wv e.da e.di/\Du wv s.dc e.cT e.da e.di/\HR wv s.dc:=by unfold ET at h;simp only[AAL]at h;have a:=h.2.2.1;have b:=a;unfold CN at a;simp_all
theorem once{Q:AH->Prop}{J:AP->Prop}(c:∀s e,ET wv s e->Q e->J (Dd wv s e).dc)(h:∀s e,ET wv s e->J s.dc->J (Dd wv s e).dc/\¬Q e):∀(l:jo)(s:AD),UE wv s l->((J s.dc->∀e∈l,¬Q e)/\∀(i j:Nat)(hi:i<l.length)(k:j<l.length),Q l[i]->Q l[j]->i=j):=by intro l;induction l with|nil=>simp_all|cons e l ih=>intro s a;obtain⟨b,m⟩:=ih _ a.2;refine⟨λg x n=>?_,λi j hi k d f=>?_⟩;obtain⟨o,p⟩:=h s e a.1 g;grind;cases i with|zero=>(cases j with|zero=>rfl|succ j=>exact absurd f (b (c s e a.1 d) _ (AAW aA)))|succ i=>cases j with|zero=>exact absurd d (b (c s e a.1 f) _ (AAW aA))|succ j=>grind
theorem IF{s:AP}{f:AL->AL}(hi:B4 o s.AB.length)(a:B4 t s.AB.length):ix (Jz s o f).AB t=if t=o then f (ix s.AB o)else ix s.AB t:=by have b:=As.1 hi;have c:=As.1 a;unfold Jz ix;grind
theorem wakeF_st(o:Int)(x:AL):(Hg o x).dh=x.dh\/(x.dh=3/\(Hg o x).dh=4):=by unfold Hg Hv IP;grind
theorem waitL_in(o:Int):∀(l:kr)(i:Nat)(x:Int),x∈CO o i l->∃(k:Nat)(b:k<l.length),x=((i+k:Nat):Int)/\l[k].dh=3:=by
 intro l;induction l with
 |nil=>intro i x a;simp[CO]at a
 |cons y l ih=>
  intro i x a;have c:x∈CO o (i+1) l->∃(k:Nat)(b:k<(y::l).length),x=((i+k:Nat):Int)/\(y::l)[k].dh=3:=λh=>by obtain⟨k,b,f,d⟩:=ih _ _ h;exact⟨k+1,am,ah,d⟩
  unfold CO at a;split at a;(rename_i e;rcases AAk.1 a with rfl|a);refine⟨0,ak,ak,?_⟩;unfold Hv at e;simp_all;simp_all;simp_all
theorem JY{e:AH}(h:ET wv s e)(K:B4 t wv.AB.length):(ix (Dd wv s e).dc.AB t).dh=(if e.da=20/\t=e.di then 1 else if t=e.cT/\e.da=1 then 2 else if t=e.cT/\e.da=2 then 5 else if t=e.cT/\e.da=16 then 3 else if t=e.cT/\e.da=17 then 2 else(ix s.dc.AB t).dh)\/((ix s.dc.AB t).dh=3/\(ix (Dd wv s e).dc.AB t).dh=4):=by
 obtain⟨_,I,l,M,G⟩:=Ex h;have m:=(Dn G).2.2;have c:B4 t s.dc.AB.length:=by rw[m];exact K
 have d:B4 e.cT s.dc.AB.length:=by rw[m];exact I
 unfold Dd DP;dsimp only;by_cases w:e.da=1;left;rw[if_pos w];dsimp only;rw[IF d c];grind;rw[AAP w];by_cases x:e.da=2;left;rw[if_pos x];dsimp only;rw[IF d c];grind;rw[AAP x];by_cases p:e.da=6\/e.da=10;(left;rw[AAQ p];rcases p with k|k<;>simp[k,HW]);rw[AAP p];by_cases q:e.da=7\/e.da=11;(left;rw[AAQ q];rcases q with k|k<;>simp[k,HW]);rw[AAP q];by_cases y:e.da=8;left;simp[y,HW];rw[AAP y];by_cases z:e.da=9;left;simp[z,HW];rw[AAP z];by_cases L:e.da=12;simp_all;rw[AAP L];by_cases o:e.da=13;simp_all;rw[AAP o];by_cases f:e.da=14;left;rw[if_pos f];dsimp only;rw[IF d c];grind;rw[AAP f];by_cases g:e.da=15;left;rw[if_pos g];dsimp only;rw[IF d c];grind;rw[AAP g];by_cases u:e.da=16;left;rw[if_pos u];dsimp only;rw[IF (by simpa[HW]using d) (by simpa[HW]using c)];split<;>simp[*,HW];rw[AAP u];by_cases r:e.da=17;left;rw[if_pos r];dsimp only;rw[IF (by simpa[HW]using d) (by simpa[HW]using c)];split<;>simp[*,HW];rw[AAP r];by_cases j:e.da=18;rw[AAQ j,AAQ j];dsimp only;split;omega;(rename_i C;have n:El e.dm (CO e.di 0 s.dc.AB)∈CO e.di 0 s.dc.AB:=by unfold El;rw[AAP C];split;simp_all;cases hw:CO e.di 0 s.dc.AB with|nil=>simp_all|cons a b=>simp);obtain⟨k,J,v,F⟩:=waitL_in _ _ _ _ n;have D:B4 (El e.dm (CO e.di 0 s.dc.AB)) s.dc.AB.length:=(by rw[v];unfold B4;simp;omega);rw[IF D c];split;rename_i E;right;refine⟨?_,rfl⟩;rw[E,v,AA6,CH J];exact F;omega;rw[AAP j];by_cases B:e.da=19
 . (rw[AAQ B];have n:ix (s.dc.AB.map (Hg e.di)) t=Hg e.di (ix s.dc.AB t):=(by have:=As.1 c;unfold ix;rw[AAX,AAT (by omega)];rfl);dsimp only;rw[n];rcases wakeF_st e.di (ix s.dc.AB t)with h|h);all_goals omega
 rw[AAP B];by_cases i:e.da=20;left;have H:B4 e.di s.dc.AB.length:=(by rw[m];unfold A8 at l;rw[i]at l;simpa(decide:=true)only[AAq,AAd,or_true,true_or,ABB]using l);rw[if_pos i];dsimp only;rw[IF H c];grind;grind
theorem spawn_once(i:UE wv s pre)(f:B4 t wv.AB.length)(hi:n<pre.length)(m:a<pre.length)(g:pre[n].da=20/\pre[n].di=t)(k:pre[a].da=20/\pre[a].di=t):n=a:=by
 refine(once (Q:=λe=>e.da=20/\e.di=t) (J:=λy=>(ix y.AB t).dh≠0) ?_ ?_ pre s i).2 n a hi m g k;intro s e c j;have:=JY c f;rw[AAQ ⟨j.1,j.2.symm⟩]at this;rcases this with h|h<;>omega
 . intro s e c d;refine⟨?_,λj=>?_⟩;(. (have:=JY c f;rcases this with h|h);(. (rw[h];repeat' split);all_goals first|omega|exact d);omega);have b:=(Ex c).2.2.2.1;unfold Du at b;rw[j.1,j.2]at b;simp at b;exact d b.2.2
theorem end_once(r:UE wv s pre)(d:B4 t wv.AB.length)(hi:n<pre.length)(o:a<pre.length)(g:pre[n].da=2/\pre[n].cT=t)(h:pre[a].da=2/\pre[a].cT=t):n=a:=by refine(once (Q:=λe=>e.da=2/\e.cT=t) (J:=λy=>(ix y.AB t).dh=5) ?_ ?_ pre s r).2 n a hi o g h;intro s e b c;have m:=JY b d;have j:=(Ex b).2.2.2.1;unfold Du at j;simp_all;intro s e b i;have j:=(Ex b).2.2.2.1;have f:e.cT≠t:=(by intro c;unfold Du at j;rw[c]at j;dsimp only at j;rw[i]at j;simp at j);refine⟨?_,λc=>f c.2⟩;have m:=JY b d;have p:¬(e.da=20/\t=e.di):=(by rintro⟨k,q⟩;unfold Du at j;rw[k,<- q]at j;simp at j;omega);omega
theorem set_once{wv:AG}{s:AD}{pre:jo}(o:UE wv s pre){t:Int}(j:B4 t wv.AM.length){a p:Nat}(hi:a<pre.length)(n:p<pre.length)(d:pre[a].da=22/\pre[a].di=t)(f:pre[p].da=22/\pre[p].di=t):a=p:=by
 have done:∀(s:AD)(e:AH),ET wv s e->ix (Dd wv s e).dc.Bs t=if e.da=22/\e.di=t then true else ix s.dc.Bs t:=by intro s e i;have r:=(Dn (Ex i).2.2.2.2).2.1;have:=As.1 j;unfold Dd DP Jz HW;dsimp only;by_cases k:e.da=22;simp only[k];simp(decide:=true)only[AAq,AAd,ABB,true_and];unfold ix;by_cases q:e.di=t;simp_all;(have g:B4 e.di wv.AM.length:=by have b:=(Ex i).2.2.1;unfold A8 at b;rw[k]at b;simpa(decide:=true)only[AAq,AAd,or_true,true_or,ABB]using b);have:=As.1 g;grind;rw[AAP (c:=e.da=22/\e.di=t) λh=>k h.1,AAP (c:=e.da=22) k];simp only[apply_ite Prod.fst,apply_ite AP.Bs,ite_self]
 refine(once (Q:=λe=>e.da=22/\e.di=t) (J:=λy=>ix y.Bs t=true) ?_ ?_ pre s o).2 a p hi n d f;simp_all;intro s e i u;refine⟨?_,λv=>?_⟩;simp_all;have m:=(Ex i).2.2.2.1;unfold Du at m;simp_all
theorem set_mid{c:Type}(a:List c)(x y:c)(b:List c):(a++x::b).set a.length y=a++y::b:=ak
theorem gt_mid{c:Type}(a:List c)(x:c)(b:List c):gt (a++x::b) (a.length:Int)=some x:=by rw[Kw];simp
theorem Yd(l:iT)(v:Int)(b:l.length<=1000000):∀(n i:Nat),i<=l.length->l.length<n+i->Iq.AU l v n (i:Int)=some ((l.drop i).contains v)|0,i,h1,h2=>ah|n+1,i,h1,h2=>by rw[Iq.AU];unfold Iq.L1;by_cases hi:i<l.length;rw[Ay ah,Be hi,AAK,DQ hi,List.contains_cons,AW ah,Yd l v b n (i+1) ah ah];by_cases h:l[i]=v;simp[h];have a:¬v=l[i]:=λe=>h e.symm;simp[h,a];rw[AR ah,EW ah];rfl
theorem Has27_eq(l:iT)(v:Int)(a:l.length<=1000000):Iq l v=some (l.contains v):=Yd l v a BQ 0 ah aS
def Ly(w:Bool)(h:UL):List Int:=Ol (if w=true then h.Re else h.Re++h.rH)
def PF(a:KW)(t:Int)(w:Bool)(h:UL):KW×Bool:=if a.ed=0\/a.ed=1/\t=a.Bw then(⟨1,t,[]⟩,false)
 else(⟨if w=true then 3 else if a.ed=1 then 2 else a.ed,0,if a.ed=1 then Ly w h else a.AK.filter (Ly w h).contains⟩,(if w=true then 3 else if a.ed=1 then 2 else a.ed)==3&&((if a.ed=1 then Ly w h else a.AK.filter (Ly w h).contains).length:Int)==0)
structure EI (a:KW):Prop where
 s:a.ed=0\/a.ed=1\/a.ed=2\/a.ed=3
 o:a.AK.Pairwise (· < ·)
 l:a.AK.length<=1000
def HL(h:UL):Prop:=h.Re.length<=100/\h.rH.length<=100
theorem uF{w:Bool}{h:UL}(a:HL h):(Ly w h).length<=200:=by have b:=a.1;have c:=a.2;unfold Ly;refine ABF (Vj _) ?_;split;omega;simp only[AA1];omega
theorem EI.step{a:KW}(b:EI a){t:Int}{w:Bool}{h:UL}(c:HL h):EI (PF a t w h).1:=by have e:=uF (w:=w) c;have f:=b.s;unfold PF;split;exact⟨.inr (.inl rfl),.nil,ak⟩;rename_i d;refine⟨?_,?_,?_⟩;simp only;split;omega;split<;>omega;simp only;split;exact NM _;exact b.o.filter _;simp only;split;omega;exact ABF (List.length_filter_le _ _) b.l
def OR(l:iT)(x:Int):List Int:=if 0<=x/\x<(l.length:Int)then[ix l x]else[]
theorem hitL_cons(e:Int)(l:iT)(x:Int):OR (e::l) x=if x=0 then[e]else OR l (x-1):=by unfold OR;by_cases h:x=0;subst h;rw[AAQ rfl,AAQ ak];rfl;rw[AAP h];by_cases a:0<=x/\x<((e::l).length:Int);have b:0<=x-1/\x-1<(l.length:Int):=(by simp at a;omega);rw[AAQ a,AAQ b];unfold ix;obtain⟨n,hn⟩:∃n:Nat,x=n+1:=⟨(x-1).toNat,ah⟩;simp_all;grind
theorem mY(l:iT)(x:Int):(OR l x).length<=1:=by unfold OR;grind
def Dc(w:AF)(t:Int)(ks:iT):List Int:=ks.flatMap λk=>OR (EN t 0 w.AA) (k-ix w.de.df t)
theorem Uo(w:AF)(t k:Int)(a:iT):Dc w t (k::a)=OR (EN t 0 w.AA) (k-ix w.de.df t)++Dc w t a:=by simp[Dc]
theorem Ro(t:Int):∀(l:jo)(i:Nat)(x:Int),x∈EN t i l->∃(k:Nat)(b:k<l.length),x=((i+k:Nat):Int)/\l[k].cT=t:=by
 intro l;induction l with
 |nil=>intro i x a;simp[EN]at a
 |cons y l ih=>
  intro i x a;have c:x∈EN t (i+1) l->∃(k:Nat)(b:k<(y::l).length),x=((i+k:Nat):Int)/\(y::l)[k].cT=t:=λh=>by obtain⟨k,b,f,d⟩:=ih _ _ h;exact⟨k+1,am,ah,d⟩
  unfold EN at a;split at a;(rename_i e;rcases AAk.1 a with rfl|a);exact⟨0,ak,ak,e⟩;simp_all;simp_all
theorem Qp(t:Int):∀(l:jo)(i:Nat),(EN t i l).length<=l.length:=by intro l;induction l with|nil=>intro i;simp[EN]|cons y l ih=>intro i;have:=ih (i+1);unfold EN;grind
def vW(w:AF)(c:iT):Prop:=∀q∈c,∃m:Nat,m<w.AA.length/\q=(m:Int)
theorem WM:∀q∈Dc w t c,∃m:Nat,∃b:m<w.AA.length,q=(m:Int)/\w.AA[m].cT=t:=by intro q d;obtain⟨k,_,a⟩:=List.mem_flatMap.1 d;generalize k-ix w.de.df t=y at a;unfold OR at a;split at a;rename_i h;have b:ix (EN t 0 w.AA) y∈EN t 0 w.AA:=(by unfold ix;rw[AAT (by omega)];exact AAW _);simp only[AAg]at a;obtain⟨i,e,f,g⟩:=Ro _ _ _ _ b;grind;grind
theorem ZO(w:AF)(t:Int):∀a:List Int,(Dc w t a).length<=a.length:=by intro a;unfold Dc;induction a with|nil=>simp|cons k a ih=>have:=mY (EN t 0 w.AA) (k-ix w.de.df t);grind
def Yh(ks:iT):Prop:=ks.length<=1000/\∀k∈ks,0<=k/\k<=1000
theorem Vd(hn:w.AA.length<=16)(L1:List Int->Int->ABm (List Int))(c b j:Int):∀(n e:Nat)(i:iT)(f:Int),e<=w.AA.length->w.AA.length<n+e->i.length<=1000000+e->0<=f->f<=1000+e->CZ.B9 L1 c b w j n i f (e:Int)=CZ.J3 L1 c (i++OR (EN b e (w.AA.drop e)) (j-f))|0,e,i,f,h1,h2,_,_,_=>ah|n+1,e,i,f,h1,h2,h3,h4,h5=>by rw[CZ.B9];unfold CZ.L2;by_cases hi:e<w.AA.length;rw[Ay ah,Be hi,AAK,DQ hi];unfold CZ.J2 CZ.J1 CZ.J2;by_cases a:w.AA[e].cT=b;rw[EN,AAQ a,hitL_cons,AAP (by simp[a])];by_cases d:f=j;rw[AAQ (by simp[d]),Bg ah,AAQ ah,CY ah ah,AW ah,Vd hn L1 c b j n (e+1) _ (f+1) ah ah an ah ah];have:OR (EN b (e+1) (w.AA.drop (e+1))) (j-(f+1))=[]:=(by unfold OR;rw[AAP (by omega)]);simp_all;rw[AAP am,AAP ah,CY ah ah,AW ah,Vd hn L1 c b j n (e+1) i (f+1) ah ah ah ah ah];grind;rw[EN,AAP a,AAQ am,AW ah,Vd hn L1 c b j n (e+1) i f ah ah ah h4 ah];have:OR [] (j-f)=[]:=(by unfold OR;rw[AAP (by simp)]);rw[AR ah,EW ah,EN,this,ABU]
theorem cntQ(b:WQ w):∀u,B4 u w.db.AB.length->0<=ix w.de.df u/\ix w.de.df u<=400:=by have a:=b.g.v;unfold KG T4 at a;simp only[AAL]at a;exact sN b.f.l a.2.2.2.1.1
theorem Zk(d:WQ w)(g:B4 b w.db.AB.length)(h:Yh c):CZ w b c=some (Dc w b c):=by
 have r:=BN;have hn:=d.f.e;have j:B4 b w.de.df.length:=by rw[d.f.l.c];exact g
 have m:=cntQ d b g;have key:∀(n i:Nat)(l:iT),i<=c.length->c.length<n+i->l.length<=i->CZ.AU c b w n l (i:Int)=some (l++Dc w b (c.drop i)):=by intro n;induction n with|zero=>omega|succ n ih=>intro i l o p q;rw[CZ.AU];unfold CZ.L1;have k:=h.1;by_cases hi:i<c.length;rw[Ay ah,Be hi,AAK,Bv j,AAK];have:=Vd hn (CZ.AU c b w n) i b c[i] BQ 0 l (ix w.de.df b) ah ah ah ah ah;rw[AAr]at this;rw[show((0:Nat):Int)=0 from rfl]at this;rw[this];unfold CZ.J3;rw[AW ah,ih (i+1) _ ah ah (by have:=mY (EN b 0 w.AA) (c[i]-ix w.de.df b);simp;omega),show Dc w b (c.drop i)=OR (EN b 0 w.AA) (c[i]-ix w.de.df b)++Dc w b (c.drop (i+1))from by rw[DQ hi,Uo],ABL];rw[AR ah,EW ah];simp[CZ.J4,Dc]
 have:=key BQ 0 [] ah (by have:=h.1;omega) ak;simpa[CZ]using this
theorem OX(a:B4 b w.db.AB.length):gt (XS w) b=some (EN b 0 w.AA):=by have h:=As.1 a;obtain⟨n,rfl⟩:∃n:Nat,b=n:=⟨b.toNat,ah⟩;rw[Kw];unfold XS;simp_all
theorem fN(k:WQ w)(p:r.w=w)(m:r.ef=XS w)(d:B4 b w.db.AB.length)(j:Yh c):B7 r b c=some (Dc w b c,r):=by
 have B:=BN;have hn:=k.f.e;have q:B4 b r.w.de.df.length:=by rw[p,k.f.l.c];exact d
 have u:=cntQ k b d;have o:=Qp b w.AA 0;have key:∀(n i:Nat)(l:iT),i<=c.length->c.length<n+i->l.length<=i->B7.AU c r b n l (i:Int)=some (l++Dc w b (c.drop i),r):=by intro n;induction n with|zero=>omega|succ n ih=>intro i l x y z;rw[B7.AU];unfold B7.L1;have s:=j.1;by_cases hi:i<c.length;have v:=j.2 _ (AAW hi);rw[Ay ah,Be hi,AAK,Bv q,AAK,m,OX d,p,CY ah ah,DQ hi];have t:Dc w b (c[i]::c.drop (i+1))=OR (EN b 0 w.AA) (c[i]-ix w.de.df b)++Dc w b (c.drop (i+1)):=Uo ..;rw[t];unfold B7.J1 B7.J2;by_cases g:c[i]-ix w.de.df b>=0;rw[Ay g,AAK];by_cases h:c[i]-ix w.de.df b<((EN b 0 w.AA).length:Int);rw[Ay h,m,OX d,AAK,CY ah ah,Bv (As.2 ⟨g,h⟩),AAK,Bg ah,AW ah,ih (i+1) _ ah ah an];unfold OR;simp_all;rw[AR h,AW ah,ih (i+1) _ ah ah ah];unfold OR;simp_all;rw[AR g,AAP ak,AW ah,ih (i+1) _ ah ah ah];unfold OR;grind;rw[AR ah,EW ah];simp[B7.J3,Dc]
 have:=key BQ 0 [] ah (by have:=j.1;omega) ak;simpa[B7]using this
theorem filt_lt{a:Type}{p q:a->Bool}(b:∀y,q y->p y):∀{l:List a}{x:a},x∈l->p x->q x=false->(l.filter q).length+1<=(l.filter p).length:=by
 have mono:∀l:List a,(l.filter q).length<=(l.filter p).length:=by intro l;induction l with|nil=>simp|cons y l ih=>grind
 intro l;induction l with|nil=>simp_all|cons y l ih=>grind
def muS(n:Nat)(c:iT):Nat:=((List.range n).filter λi:Nat=>!c.contains (i:Int)).length
theorem mu_add(a:m<n)(b:c.contains (m:Int)=false):muS n (c++[(m:Int)])+1<=muS n c:=by unfold muS;refine filt_lt (λy h=>?_) (ABc.2 a) ?_ ?_;all_goals simp_all
def Mj(c:iT):List Int->List Int|[]=>c|q::r=>Mj (if c.contains q=true then c else c++[q]) r
theorem UO:∀(a c:iT),∃t,Mj c a=c++t:=by intro a;induction a with|nil=>exactλc=>⟨[],by simp[Mj]⟩|cons q a ih=>intro c;unfold Mj;split;exact ih c;obtain⟨t,b⟩:=ih (c++[q]);simp_all
theorem Sj:∀(a c:iT),vW w a->vW w c->(Mj c a).length+muS w.AA.length (Mj c a)<=c.length+muS w.AA.length c/\vW w (Mj c a):=by intro a;induction a with|nil=>exactλc _ d=>⟨AAl _,d⟩|cons q a ih=>intro c e d;have f:vW w a:=λy b=>e y (ABP _ b);unfold Mj;split;simp_all;rename_i h;obtain⟨m,g,rfl⟩:=e q ABE;have i:=mu_add g (by simpa using h);have j:=ih (c++[(m:Int)]) f (λy b=>by(rcases AAc.1 b with b|b);exact d y b;grind);grind
def Mb(w:AF)(q:Int):ABm Nat:=match IZ w q with|[x]=>if 0<=x then some x.toNat else none|_=>none
def JS(w:AF):Nat->List Int->Nat->List Int|0,c,_=>c|n+1,c,a=>match c[a]? with|some q=>(match Mb w q with|some m=>JS w n (Mj c (Dc w (ix w.AA m).cT (ix w.AA m).DL)) (a+1)|none=>JS w n c (a+1))|none=>c
theorem candL_in{n:Int}{r:AH}:∀(l:jo)(i:Nat)(x:Int),x∈Il w n r i l->∃k,k<l.length/\x=((i+k:Nat):Int):=by
 intro l;induction l with
 |nil=>intro i x h;simp[Il]at h
 |cons y l ih=>
  intro i x h;have a:x∈Il w n r (i+1) l->∃k,k<(y::l).length/\x=((i+k:Nat):Int):=λh=>by obtain⟨k,b,c⟩:=ih _ _ h;exact⟨k+1,an,ah⟩
  unfold Il at h;split at h;(rcases AAk.1 h with rfl|h);exact⟨0,ak,ak⟩;simp_all;simp_all
theorem cF{n x:Int}(h:x∈IZ w n):x= -1\/∃k,k<w.AA.length/\x=(k:Int):=by unfold IZ at h;split at h;(rcases AAc.1 h with h|h);simp_all;obtain⟨k,a,b⟩:=candL_in _ _ _ h;grind;grind
theorem LG:Mb w t=some m↔m<w.AA.length/\IZ w t=[(m:Int)]:=by
 unfold Mb;constructor
 . intro h;split at h;(. rename_i x b;split at h;(. (rename_i a;rcases cF (w:=w) (n:=t) (x:=x) aA with h1|⟨k,h1,h2⟩);all_goals simp_all);grind);grind
 simp_all
theorem nZ{b:Type}{f:Bool->ABm b}{R:b->Prop}(a:Mb w t=none->CX (f true) R)(c:∀m,Mb w t=some m->CX (f false) R):CX (if((IZ w t).length:Int) != 1 then f true else(gt (IZ w t) 0).bind λy=>f (decide (y<0))) R:=by cases hc:IZ w t with|nil=>rw[AAQ ak];exact a (by unfold Mb;rw[hc])|cons x l=>cases l with|cons y l=>rw[AAQ an];exact a (by unfold Mb;rw[hc])|nil=>(rw[AAP ak,show gt [x] 0=some x from rfl,AAK];rcases cF (w:=w) (n:=t) (x:=x) aA with rfl|⟨k,hk,rfl⟩);exact a (by unfold Mb;grind);have:=c k (LG.2 ⟨hk,hc⟩);rw[show decide ((k:Int)<0)=false from by simp];exact this
theorem nums_ok:∀(l:jo)(s:AD)(K:Int),UE wv s l->(∀u,B4 u wv.AB.length->0<=ix s.df u/\ix s.df u<=K)->K+l.length<=1000->∀e∈l,B4 e.cT wv.AB.length/\Yh e.D4/\Yh e.DL:=by
 intro l;induction l with
 |nil=>simp_all
 |cons x l ih=>
  intro s K a f o e b;have c:=(Ex a.1).2.1;have p:K+(l.length:Int)+1<=1000:=by simp at o;omega
  have i:=f _ c;rcases AAk.1 b with rfl|b
  (obtain⟨y,z⟩:=Oc a.1;have hd:=a.1;unfold ET Ed at hd;simp only[AAL]at hd;obtain⟨_,_,_,_,⟨⟨_,t⟩,_,v⟩,_⟩:=hd;have len:∀D:List Int,F9 (ix s.df e.cT) 0 D->(∀k∈D,1<=k/\k<ix s.df e.cT)->Yh D:=λD m n=>by refine⟨?_,λk w=>aA⟩;cases D with|nil=>simp|cons d D=>have:=n d ABE;have:=nX (d::D) 0 ah m;omega);simp_all;refine ih _ (K+1) a.2 (λu g=>?_) ah e b;have j:=f u g;have r:=(Hq (wv:=wv) (s:=s) (by have h:=a.1;unfold ET at h;simp_all)).2.2.2;have q:=As.1 g;have B:=As.1 c;show 0<=ix (s.df.set x.cT.toNat (A9 (ix s.df x.cT+1))) u/\ix (s.df.set x.cT.toNat (A9 (ix s.df x.cT+1))) u<=K+1;rw[CY ah ah];unfold ix at j i |-;grind
theorem lQ(a:WQ w)(hi:n<w.AA.length):B4 w.AA[n].cT w.db.AB.length/\Yh w.AA[n].D4/\Yh w.AA[n].DL:=nums_ok w.AA w.de 400 (JZ a.g.v).p (cntQ a) (by have:=a.f.e;omega) _ (AAW hi)
theorem Wd(L1:List Int->Int->ABm (List Int))(a:Int)(e:iT)(b:e.length<=100000):∀(n d:Nat)(f:iT),d<=e.length->e.length<n+d->f.length<=100000+d->CS.B9 L1 a e n f (d:Int)=CS.J3 L1 a (Mj f (e.drop d))|0,d,f,h1,h2,_=>ah|n+1,d,f,h1,h2,h3=>by rw[CS.B9];unfold CS.L2;by_cases hi:d<e.length;(rw[Ay ah,Be hi,AAK,Has27_eq _ _ ah,AAK,DQ hi,Mj];unfold CS.J2;cases hc:f.contains e[d]with|true=>rw[AAP ak,AAQ rfl,AW ah,Wd L1 a e b n (d+1) f ah ah ah]|false=>rw[AAQ ak,Bg ah,AAP ak,AW ah,Wd L1 a e b n (d+1) _ ah ah an]);rw[AR ah,EW ah,Mj]
theorem WX(L1:AE->List Int->Int->ABm AE)(a:Int)(e:List Int×AE)(b:e.1.length<=100000):∀(n d:Nat)(f:iT),d<=e.1.length->e.1.length<n+d->f.length<=100000+d->BB.B9 L1 a e n f (d:Int)=BB.J3 L1 a e.2 (Mj f (e.1.drop d))|0,d,f,h1,h2,_=>ah|n+1,d,f,h1,h2,h3=>by rw[BB.B9];unfold BB.L2;by_cases hi:d<e.1.length;(rw[Ay ah,Be hi,AAK,Wt _ _ ah,AAK,DQ hi,Mj];unfold BB.J2;cases hc:f.contains e.1[d]with|true=>rw[AAP ak,AAQ rfl,AW ah,WX L1 a e b n (d+1) f ah ah ah]|false=>rw[AAQ ak,Bg ah,AAP ak,AW ah,WX L1 a e b n (d+1) _ ah ah an]);rw[AR ah,EW ah,Mj]
def RR(w:AF)(c:iT)(a:Nat):Nat:=(c.length-a)+muS w.AA.length c
def Lr(w:AF)(m:Nat):List Int:=Dc w (ix w.AA m).cT (ix w.AA m).DL
theorem V4(d:WQ w)(b:m<w.AA.length):vW w (Lr w m)/\(Lr w m).length<=1000:=by refine⟨λq c=>?_,?_⟩;obtain⟨k,e,h,_⟩:=WM q c;grind;have:=ZO w (ix w.AA m).cT (ix w.AA m).DL;have a:=(lQ d b).2.2.1;rw[<- CH b]at a;exact ABF this a
theorem Ll(b:a<c.length):JS w (n+1) c a=match Mb w c[a]with
 |some m=>JS w n (Mj c (Lr w m)) (a+1)
 |none=>JS w n c (a+1):=by
 rw[JS,AAT b];rfl
theorem Po(b:¬a<c.length):JS w n c a=c:=by cases n with|zero=>rfl|succ n=>rw[JS,List.getElem?_eq_none ah]
theorem work_pre:∀(n:Nat)(c:iT)(a:Nat),∃t,JS w n c a=c++t:=by intro n;induction n with|zero=>exactλc a=>⟨[],by simp[JS]⟩|succ n ih=>intro c a;by_cases b:a<c.length;rw[Ll b];split;rename_i m _;obtain⟨t,d⟩:=ih (Mj c (Lr w m)) (a+1);obtain⟨u,e⟩:=UO (Lr w m) c;simp_all;simp_all;exact⟨[],by rw[Po b];simp⟩
theorem wE(b:a<c.length)(d:vW w c):RR w c (a+1)+1<=RR w c a:=by unfold RR;omega
theorem RR_add(i:a<c.length)(f:vW w W)(d:vW w c):RR w (Mj c W) (a+1)+1<=RR w c a:=by
 have g:=(Sj W c f d).1;obtain⟨t,e⟩:=UO W c;have h:c.length<=(Mj c W).length:=by rw[e];simp
 unfold RR;omega
theorem work_in(e:WQ w):∀(n:Nat)(c:iT)(a:Nat),vW w c->vW w (JS w n c a):=by intro n;induction n with|zero=>exactλc a h=>h|succ n ih=>intro c a h;by_cases b:a<c.length;rw[Ll b];split;rename_i m d;exact ih _ _ (Sj _ _ (V4 e (LG.1 d).1).1 h).2;simp_all;rw[Po b];exact h
theorem rwork(g:WQ w):∀(n:Nat)(c:iT)(a:Nat),a<=c.length->RR w c a<n->vW w c->c.length+muS w.AA.length c<=5000->CX (CS.AU w n c (a:Int)) λr=>r=JS w n c a:=by have x:=BN;intro n;induction n with|zero=>omega|succ n ih=>intro c a s v e o;rw[CS.AU];unfold CS.L1;by_cases b:a<c.length;rw[Ay ah,Be b,AAK,oE g,AAK,Ll b];refine nZ (f:=λu=>CS.J1 (CS.AU w n) a c (IZ w c[a]) w u) (λl=>?_) λm k=>?_;rw[l];unfold CS.J1 CS.J3;rw[AAQ rfl,AW ah];exact ih c (a+1) ah (by have:=wE b e;omega) e o;rw[k];obtain⟨d,g2⟩:=LG.1 k;obtain⟨i,q⟩:=V4 g d;have j:=lQ g d;have h:=Sj _ _ i e;unfold CS.J1;rw[AAP ak,g2,show gt [(m:Int)] 0=some (m:Int)from rfl,AAK,Be d,AAK,Zk g j.1 j.2.2,AAK];have p:Dc w w.AA[m].cT w.AA[m].DL=Lr w m:=(by unfold Lr;rw[CH d]);rw[p];have:=Wd (CS.AU w n) a (Lr w m) ah BQ 0 c ah ah ah;rw[show((0:Nat):Int)=0 from rfl,AAr]at this;rw[this];unfold CS.J3;rw[AW ah];obtain⟨t,y⟩:=UO (Lr w m) c;exact ih (Mj c (Lr w m)) (a+1) aA (by have:=RR_add b i e;omega) h.2 ah;rw[AR ah,Po b];exact tR rfl
theorem mwork(v:WQ w)(H:n<w.AA.length):∀(b:Nat)(c:iT)(a:Nat)(r:AE)(A:jc),a<=c.length->RR w c a<b->vW w c->c.length+muS w.AA.length c<=5000->RW w r A->CX (BB.AU (n:Int) b r c (a:Int)) λd=>RW w d (λi k=>A i k\/k=n/\∃q∈(JS w b c a).drop a,Mb w q=some i):=by have P:=BN;intro b;induction b with|zero=>omega|succ b ih=>intro c a r A N O p F j;rw[BB.AU];unfold BB.L1;by_cases e:a<c.length;rw[Ay ah,Be e,AAK,j.s,mcand_eq v,AAK];(have next:∀(c':iT)(y:jc)(d:AE),(∃t,c'=c++t)->JS w (b+1) c a=JS w b c' (a+1)->(∀i k,y i k↔A i k\/k=n/\Mb w c[a]=some i)->RW w d (λi k=>y i k\/k=n/\∃q∈(JS w b c' (a+1)).drop (a+1),Mb w q=some i)->RW w d (λi k=>A i k\/k=n/\∃q∈(JS w (b+1) c a).drop a,Mb w q=some i):=by rintro c' y d ⟨t,rfl⟩ I G h;refine h.congr λi k _ _=>?_;obtain⟨u,L⟩:=work_pre (w:=w) b (c++t) (a+1);have hd:(JS w (b+1) c a).drop a=c[a]::(JS w b (c++t) (a+1)).drop (a+1):=(by rw[I,L,DQ (by simp;omega)];congr 1;rw[List.getElem_append_left (by simp;omega),List.getElem_append_left e]);rw[hd,G];constructor;grind;grind);refine nZ (f:=λu=>BB.J1 (BB.AU (n:Int) b) n a c r (IZ w c[a]) u) (λE=>?_) λm D=>?_;(unfold BB.J1 BB.J3;rw[AAQ rfl,AW ah];refine tM (ih c (a+1) r A ah (by have:=wE e p;omega) p F j) λd h=>next c A d ⟨[],ak⟩ (by rw[Ll e,E]) (λi k=>aA) h);obtain⟨o,g2⟩:=LG.1 D;obtain⟨B,M⟩:=V4 v o;have C:=lQ v o;have z:=Sj _ _ B p;unfold BB.J1;rw[AAP ak,g2,show gt [(m:Int)] 0=some (m:Int)from rfl,AAK];refine j.set o H λrow _ x=>?_;rw[j.s,Be o,AAK,AAi,AAi];rw[j.s]at x;rw[fN v x.s x.l C.1 C.2.2,AAK];have J:Dc w w.AA[m].cT w.AA[m].DL=Lr w m:=(by unfold Lr;rw[CH o]);rw[J];(have:=WX (BB.AU (n:Int) b) a (Lr w m,⟨w,r.ef,r.ep,r.d7.set m (row.set n true)⟩) aA BQ 0 c ah aA ah;rw[show((0:Nat):Int)=0 from rfl,AAr]at this;rw[this];unfold BB.J3;rw[AW ah];obtain⟨t,K⟩:=UO (Lr w m) c;refine tM (ih (Mj c (Lr w m)) (a+1) _ _ aA (by have:=RR_add e B p;omega) z.2 ah x) λd h=>next _ _ d ⟨t,K⟩ (by rw[Ll e,D]) (λi k=>?_) h);grind;rw[AR ah];refine tR (j.congr λi k _ _=>⟨.inl,?_⟩);rintro(g|⟨_,q,g,_⟩);exact g;rw[Po e,List.drop_eq_nil_of_le ah]at g;cases g
def Kv(w:AF)(j:Nat):List Int:=JS w BQ (Dc w (ix w.AA j).cT (ix w.AA j).D4) 0
theorem TD(a:WQ w)(b:n<w.AA.length):vW w (Dc w w.AA[n].cT w.AA[n].D4)/\(Dc w w.AA[n].cT w.AA[n].D4).length+muS w.AA.length (Dc w w.AA[n].cT w.AA[n].D4)<=5000:=by refine⟨λq c=>?_,?_⟩;obtain⟨k,l,h,_⟩:=WM q c;grind;(have d:=ZO w w.AA[n].cT w.AA[n].D4;have g:=(lQ a b).2.1.1;have i:muS w.AA.length (Dc w w.AA[n].cT w.AA[n].D4)<=w.AA.length:=by unfold muS;exact ABF (List.length_filter_le _ _) ak);have:=a.f.e;omega
theorem rNeeded_eq(b:WQ w)(a:n<w.AA.length):CS w (n:Int)=some (Kv w n):=by have i:=BN;obtain⟨c,d,h⟩:=lQ b a;obtain⟨e,f⟩:=TD b a;unfold CS Kv;rw[Be a,AAK,Zk b c d,AAK,CH a];obtain⟨r,g,rfl⟩:=rwork b BQ _ 0 ah (by unfold RR;omega) e f;exact g
theorem needs_tot(b:WQ w)(a:n<w.AA.length){A:jc}(c:RW w r A):CX (BB r (n:Int) w.AA[n]) λd=>RW w d (λi k=>A i k\/k=n/\∃q∈Kv w n,Mb w q=some i):=by have o:=BN;obtain⟨e,f,j⟩:=lQ b a;obtain⟨g,m⟩:=TD b a;unfold BB;rw[fN b c.s c.l e f,AAK];refine tM (mwork b a BQ (Dc w w.AA[n].cT w.AA[n].D4) 0 r A ah (by unfold RR;omega) g m c) λd h=>?_;unfold Kv;rw[CH a];grind
end
end Go.Abs
