/- What the typed programs give, in plain Lean. -/
import Derived.Test.YtdojkofgkcmagaaGreatDoorPlainD
import Derived.Test.YtdojkofgkcmagaaGreatDoorRows
import Derived.Test.YtdojkofgkcmagaaGreatDoorTie
import Derived.ProofKit
import Derived.LaidMore
import Derived.OpenShut
set_option linter.defProp false
set_option linter.unusedSimpArgs false
set_option linter.unusedVariables false
namespace Go.Abs
variable{w:AG}{m:AE}{k j:Nat}{v:Kk}{wv:AF}{p:AQ->Prop}{s:AQ}{th a ob i x:Int}{c c':Ac}{f g:Int->Bool}{b:Type}{l:Ca}{e:AH}
section
set_option maxHeartbeats 4000000
theorem hold_ok(d:WQ w):(∀k:Nat,k<w.db.de.AK.length->((ix w.db.de.AK (k:Int)).B9= -1\/Cp (ix w.db.de.AK (k:Int)).B9 w.cT.AA.length=true)/\∀u∈(ix w.db.de.AK (k:Int)).An,Cp u w.cT.AA.length=true)/\(w.db.de.Tx= -1\/Cp w.db.de.Tx w.cT.AA.length=true):=by
 have b:=d.g.v;unfold MJ aW at b;simp only[AAT]at b;obtain⟨_,_,_,⟨_,_,_,e,i,_⟩,_⟩:=b;have m:=d.f.l.c;have j:∀t,I4 w.db.dc t=true->Cp t w.cT.AA.length=true:=λt h=>by unfold I4 at h;simp_all
 have p:∀(l:iq)(a:Int),Jb w.db.dc a l=true->∀u∈l,Cp u w.cT.AA.length=true:=by
  intro l;induction l with
  |nil=>simp_all
  |cons t l ih=>intro a h u o;unfold Jb at h;grind
 refine⟨λk n=> ?_,?_⟩
 . have:=Iw.1 e k ah ah;unfold Ov at this;grind
 . unfold txW at i;grind
theorem held_tot(o:WQ w){A:iy}(I:RW w m A):B5 (DM m) λq=>RW w q (λi j=>A i j\/∃k:Int,0<=k/\k<=(w.cT.AK.length:Int)/\HB w k i j):=by
 have V:=BP;have hn:=o.f.e;have S:=o.f.l.l;have T:=o.f.l.s.l;obtain⟨H,K⟩:=hold_ok o;have key:∀(n b:Nat)(x:AE),b<=w.db.de.AK.length->w.db.de.AK.length<n+b->RW w x (λi j=>A i j\/∃k:Int,0<=k/\k<(b:Int)/\HB w k i j)->B5 (DM.AW m n x (b:Int)) λq=>RW w q (λi j=>A i j\/∃k:Int,0<=k/\k<=(w.cT.AK.length:Int)/\HB w k i j):=by
  intro n;induction n with
  |zero=>intro b x Q R;omega
  |succ n ih=>
   intro b x Q R D;rw[DM.AW];unfold DM.L1;rw[I.s];by_cases B:b<w.db.de.AK.length
   . obtain⟨O,E⟩:=H b B;rw[IK B]at O E;have W:=o.g.r w.db.de.AK[b] (AAi B);have p:∀u d,holdP w (b:Int) u d↔Cp u w.cT.AA.length=true/\(d=false/\w.db.de.AK[b].B9=u\/d=true/\u∈w.db.de.AK[b].An):=λu d=>(by unfold holdP;rw[AAa (by omega),IK B]);rw[BC ah,B4 B,AAS];have j1:∀y,RW w y (λi j=>(A i j\/∃k:Int,0<=k/\k<(b:Int)/\HB w k i j)\/Cp w.db.de.AK[b].B9 w.cT.AA.length=true/\HP w w.db.de.AK[b].B9 (b:Int) false i j)->B5 (DM.J1 (DM.AW m n) (b:Int) w.db.de.AK[b] y) λq=>RW w q (λi j=>A i j\/∃k:Int,0<=k/\k<=(w.cT.AK.length:Int)/\HB w k i j):=by
      intro y C;have U:∀(r t:Nat)(f:AE),t<=w.db.de.AK[b].An.length->w.db.de.AK[b].An.length<r+t->RW w f (λi j=>((A i j\/∃k:Int,0<=k/\k<(b:Int)/\HB w k i j)\/Cp w.db.de.AK[b].B9 w.cT.AA.length=true/\HP w w.db.de.AK[b].B9 (b:Int) false i j)\/∃u∈w.db.de.AK[b].An.take t,HP w u (b:Int) true i j)->
       B5 (DM.CC (DM.AW m n) (b:Int) w.db.de.AK[b] r f (t:Int)) λq=>RW w q (λi j=>A i j\/∃k:Int,0<=k/\k<=(w.cT.AK.length:Int)/\HB w k i j):=by
       intro r;induction r with
       |zero=>intro t f F g2;omega
       |succ r ih2=>
        intro t f F g2 N;rw[DM.CC];unfold DM.L2;by_cases J:t<w.db.de.AK[b].An.length
        . rw[BC ah,B4 J,AAS];refine tB (release_tot o (E _ (AAi J)) N) λP G=> ?_;rw[Af ah];refine ih2 (t+1) P ah ah (G.congr λi j _ _=> ?_);rw[List.take_succ_eq_append_getElem J];constructor
          . rintro((g|⟨u,a,c⟩)|g)
            . exact .inl g
            . exact .inr ⟨u,List.mem_append_left _ a,c⟩
            . exact .inr ⟨_,List.mem_append_right _ (AAw.2 rfl),g⟩
          . rintro(g|⟨u,a,c⟩)
            . exact .inl (.inl g)
            . rcases AAo.1 a with a|a
              . exact .inl (.inr ⟨u,a,c⟩)
              . rw[AAw.1 a]at c;exact .inr c
        . rw[Ad ah];unfold DM.J2;rw[Af ah];refine ih (b+1) f ah ah (N.congr λi j _ _=> ?_);rw[AA3 ah];constructor
          . rintro(((g|⟨k,a,c,q3⟩)|⟨F,g2⟩)|⟨u,a,c⟩)
            . exact .inl g
            . exact .inr ⟨k,a,ah,q3⟩
            . exact .inr ⟨b,ah,ah,_,false,(p _ _).2 ⟨F,.inl ⟨rfl,rfl⟩⟩,g2⟩
            . exact .inr ⟨b,ah,ah,u,true,(p _ _).2 ⟨E u a,.inr ⟨rfl,a⟩⟩,c⟩
          . rintro(g|⟨k,a,c,u,d,q3,q4⟩)
            . exact .inl (.inl (.inl g))
            . by_cases e:k=(b:Int)
              . subst e;obtain⟨L,⟨rfl,M⟩|⟨rfl,M⟩⟩:=(p _ _).1 q3
                . subst M;exact .inl (.inr ⟨L,q4⟩)
                . exact .inr ⟨u,M,q4⟩
              . exact .inl (.inl (.inr ⟨k,a,ah,u,d,q3,q4⟩))
      unfold DM.J1;exact U BT 0 y ah ah (C.congr λi j _ _=>⟨.inl,λg=>g.elim id λg=>by simp at g⟩)
     by_cases z:w.db.de.AK[b].B9>=0
     . have v:Cp w.db.de.AK[b].B9 w.cT.AA.length=true:=O.elim bN id;rw[BC z];refine tB (release_tot o v D) λy C=>j1 y (C.congr λi j _ _=>or_congr Iff.rfl ⟨λg=>⟨v,g⟩,λg=>g.2⟩)
     . rw[Ad z];refine j1 x (D.congr λi j _ _=>⟨.inl,λg=>g.elim id λg=> ?_⟩)
       have:=BI.1 g.1;omega
   . rw[Ad ah];obtain rfl:b=w.db.de.AK.length:=ah;have p:∀u d,holdP w (w.cT.AK.length:Int) u d↔Cp u w.cT.AA.length=true/\(w.db.de.Tx=u/\d=false):=λu d=>(by unfold holdP;rw[AAb rfl]);unfold DM.J3;rw[I.s];by_cases z:w.db.de.Tx>=0
     . have v:Cp w.db.de.Tx w.cT.AA.length=true:=K.elim bN id;rw[BC z,S];refine tB (release_tot o v D) λy C=>tR (C.congr λi j _ _=> ?_);constructor
       . rintro((g|⟨k,a,c,q3⟩)|g)
         . exact .inl g
         . exact .inr ⟨k,a,ah,q3⟩
         . exact .inr ⟨_,ah,Int.le_refl _,_,false,(p _ _).2 ⟨v,rfl,rfl⟩,g⟩
       . rintro(g|⟨k,a,c,u,d,q3,q4⟩)
         . exact .inl (.inl g)
         . by_cases e:k=(w.cT.AK.length:Int)
           . subst e;obtain⟨_,rfl,rfl⟩:=(p _ _).1 q3;exact .inr q4
           . exact .inl (.inr ⟨k,a,ah,u,d,q3,q4⟩)
     . rw[Ad z];refine tR (D.congr λi j _ _=> ?_);constructor
       . rintro(g|⟨k,a,c,q3⟩)
         . exact .inl g
         . exact .inr ⟨k,a,ah,q3⟩
       . rintro(g|⟨k,a,c,u,d,q3,q4⟩)
         . exact .inl g
         . by_cases e:k=(w.cT.AK.length:Int)
           . subst e;obtain⟨L,rfl,rfl⟩:=(p _ _).1 q3
             have:=BI.1 L;omega
           . exact .inr ⟨k,a,ah,u,d,q3,q4⟩
 unfold DM;exact key BT 0 m ah ah (I.congr λi j _ _=>⟨.inl,λg=>g.elim id λ⟨k,a,c,_⟩=>ah⟩)
def A1(w:AG)(i j:Nat):Prop:=(srcA w j i\/(∃q∈needS w j,oneS w q=some i)\/NF w j i)\/∃k:Int,0<=k/\k<=(w.cT.AK.length:Int)/\HB w k i j
theorem order_tot(o:WQ w):B5 (Hj w) λr=>RW w r (WN (A1 w) w.AB.length):=by
 have hB:=BP;have hn:=o.f.e;have S:=o.f.l.s.t
 -- the relation that is built, without pairs
 have W:∀(n d:Nat)(x:AE),d<=w.AB.length->w.AB.length<n+d->x.w=w->x.eb=(List.range w.cT.AA.length).map (λ(t:Nat)=>MR (t:Int) 0 (w.AB.take d))->x.ef.length=d->x.d4=List.replicate d (List.replicate w.AB.length false)->
  B5 (Hj.AW w n x (d:Int)) λr=>RW w r (WN (A1 w) w.AB.length):=by
  intro n;induction n with
  |zero=>omega
  |succ n ih=>
   intro d x h1 h2 J D P Q;rw[Hj.AW];unfold Hj.L1;by_cases hd:d<w.AB.length
   . have R:=(evQ o hd).1;have T:=BI.1 R;obtain⟨t,M⟩:∃t:Nat,w.AB[d].cr=(t:Int):=⟨w.AB[d].cr.toNat,ah⟩;have U:gt x.eb w.AB[d].cr=some (MR (t:Int) 0 (w.AB.take d)):=(by rw[D,M,Jz,AAf,List.getElem?_range (by omega)];rfl);have hl:=idxL_len (t:Int) (w.AB.take d) 0;have V:(w.AB.take d).length<=w.AB.length:=(by rw[List.length_take];omega);rw[BC ah,B4 hd,AAS,U,AAS,Ba ah,Ba ah,AAb ⟨ah,ah,Bs ah⟩,Ba aS,Af ah];have O:w.AB.take (d+1)=w.AB.take d++[w.AB[d]]:=List.take_succ_eq_append_getElem hd;have L:∀(u:Int),MR u 0 (w.AB.take (d+1))=MR u 0 (w.AB.take d)++(if w.AB[d].cr=u then[(d:Int)]else[]):=by
      intro u;rw[O];have C:∀(l:jm)(i:Nat),MR u i (l++[w.AB[d]])=MR u i l++(if w.AB[d].cr=u then[((i+l.length:Nat):Int)]else[]):=by
       intro l;induction l with
       |nil=>intro i;simp[MR]
       |cons y l ih=>intro i;simp only[ABE,MR,ih,ABU];grind
      rw[C];simp[Nat.min_eq_left (Nat.le_of_lt hd)]
     refine ih (d+1) _ ah ah J ?_ (by simp[P]) (by rw[Q,ABq]);dsimp only;rw[D,M,AA9];refine List.ext_getElem ak λm N X=> ?_;simp only[List.length_set,AA6,List.length_range]at N;rw[List.getElem_set];grind
   . rw[Ad ah];obtain rfl:d=w.AB.length:=ah;have h0:RW w x (λ_ _=>False):=by
      refine⟨J,by rw[D,AA3 (AAv _)];rfl,aS,λy p=> ?_,λi j hi E=> ?_⟩
      . simp_all
      . unfold relB;simp_all
     have k2:∀(m c:Nat)(y:AE),c<=w.AB.length->w.AB.length<m+c->RW w y (λi j=>j<c/\(srcA w j i\/(∃q∈needS w j,oneS w q=some i)\/NF w j i))->B5 (Hj.CC w m y (c:Int)) λr=>RW w r (WN (A1 w) w.AB.length):=by
      intro m;induction m with
      |zero=>omega
      |succ m ih2=>
       intro c y g1 g2 I;rw[Hj.CC];unfold Hj.L2;by_cases B:c<w.AB.length
       . rw[BC ah,B4 B,AAS];refine tB (sources_tot hn B I) λy1 G=>tB (needs_tot o B G) λy2 H=>tB (notified_tot o B H) λy3 Z=> ?_;rw[Af ah];refine ih2 (c+1) y3 ah ah (Z.congr λi j _ _=> ?_);grind
       . rw[Ad ah];unfold Hj.J2;refine tB (held_tot o I) λy1 G=>tB (close_tot hn G) λy2 H=>tR ?_;refine H.congr λi j hi E=> ?_;have K:∀a b,a<w.AB.length->b<w.AB.length->(((b<c/\(srcA w b a\/(∃q∈needS w b,oneS w q=some a)\/NF w b a))\/∃k:Int,0<=k/\k<=(w.cT.AK.length:Int)/\HB w k a b)↔A1 w a b):=λa b ha hb=>⟨λg=>g.imp (λg=>g.2) id,λg=>g.imp (λg=>⟨ah,g⟩) id⟩;exact⟨λg=>WN_least (λx y v p h=>WN_base _ _ ((K x y v p).1 h)) (λx z y v F p=>WN_trans _ _ z F x y) _ (AAv _) i j hi E g,λg=>WN_least (λx y v p h=>WN_base _ _ ((K x y v p).2 h)) (λx z y v F p=>WN_trans _ _ z F x y) _ (AAv _) i j hi E g⟩
     unfold Hj.J1;grind
 unfold Hj;rw[AAb ⟨ah,ah,Bs ah⟩];exact W BT 0 _ ah ah rfl (by refine List.ext_getElem (by simp) λm N X=> ?_;simp[MR]) rfl rfl
theorem validQ(a:WQ w):FU w=some true:=by rw[Valid_eq a.g.e (a.g.r.mono ah),a.g.v]
theorem before_tot(a:WQ w)(hi:k<w.AB.length)(d:j<w.AB.length):B5 (Es w (k:Int) (j:Int)) λb=>b=true↔WN (A1 w) w.AB.length k j:=by unfold Es Es.J1;rw[Ad ah,Ad ah,Ad ah,Ad ah,validQ a,AAS,AAa ak];refine tB (order_tot a) λr e=> ?_;refine e.get hi d λb c=>tR c
theorem MSpawns_tot(x:rC v)(u:v.ed.length<=4000000000000000000):B5 (Dt v) λb=>b=true:=by
 have B:=BP;unfold Dt;refine tB (XG x ah ah u) λw t=> ?_;have r:=t.q;have hn:=r.f.e;have y:∀(n i:Nat),i<=w.AB.length->w.AB.length<n+i->B5 (Dt.AW w n (i:Int)) λb=>b=true:=by
  intro n;induction n with
  |zero=>intro i k l;omega
  |succ n ih=>
   intro i k l;rw[Dt.AW];unfold Dt.L1;by_cases hi:i<w.AB.length
   . rw[BC ah,B4 hi,AAS];have z:∀(m j:Nat),j<=w.AB.length->w.AB.length<m+j->B5 (Dt.CC (Dt.AW w n) (i:Int) w w.AB[i] m (j:Int)) λb=>b=true:=by
      intro m;induction m with
      |zero=>intro j s g2;omega
      |succ m ih2=>
       intro j s g2;rw[Dt.CC];have g:∀(L1 L2:ir)(a d e:AH)(b c:Int),(decide (c<(w.AB.length:Int))=true)->gt w.AB c=some e->Dt.L2 L1 b w d L2 c=Dt.J1 L2 b c w (srcB d e):=(by intro L1 L2 a d e b c k l;unfold Dt.L2 srcB;rw[AAb k,l,AAS];cases e.da==1<;>cases e.da==21<;>cases e.da==23<;>cases d.da==20<;>cases d.da==2<;>cases d.da==22<;>cases d.dn==e.cr<;>cases d.cr==e.dn<;>rfl);by_cases p:j<w.AB.length
       . rw[g _ _ w.AB[i] w.AB[i] w.AB[j] _ _ an (B4 p)];unfold Dt.J1 Dt.J2;rw[Af ah];refine tI (λh=> ?_) λ_=>ih2 (j+1) ah ah;refine tB (before_tot r hi p) λb o=> ?_;have:b=true:=o.2 (WN_base _ _ (.inl (.inl (.inr (by unfold ev;rw[IK hi,IK p];exact h)))));rw[this,AAa ak];exact ih2 (j+1) ah ah
       . unfold Dt.L2;rw[Ad ah];unfold Dt.J3;rw[Af ah];exact ih (i+1) ah ah
     exact z BT 0 ah ah
   . rw[Ad ah];unfold Dt.J4;rw[awake27];exact tR rfl
 exact y BT 0 ah ah
theorem later{c a:AH->Prop}(g:∀s e,Hc wv s e=true->c e->p (F7 wv s e).de)(h:∀s e,Hc wv s e=true->p s.de->p (F7 wv s e).de/\¬a e):
 ∀(l:jm)(s:AD),dQ wv s l->((p s.de->∀e∈l,¬a e)/\∀(j i:Nat)(k:j<l.length)(hi:i<l.length),j<i->c l[j]->¬a l[i]):=by
 intro l;induction l with
 |nil=>simp_all
 |cons e l ih=>
  intro s b;obtain⟨d,o⟩:=ih _ b.2;refine⟨λf x J=> ?_,λj i k hi n m=> ?_⟩
  . obtain⟨q,r⟩:=h s e b.1 f;grind
  . cases i with
    |zero=>omega
    |succ i=>
     cases j with
     |zero=>exact d (g s e b.1 m) _ (AAi am)
     |succ j=>grind
theorem zI{n:Int}{r:AH}:∀(l:jm)(i k:Nat)(a:k<l.length),Rz w n r (i+k) l[k]=true->((i+k:Nat):Int)∈Le w n r i l:=by
 intro l;induction l with
 |nil=>simp_all
 |cons y l ih=>
  intro i k a h;unfold Le;cases k with
  |zero=>simp_all
  |succ k=>have:=ih (i+1) k aS aS;grind
def hold(wv:AF)(s:AQ)(k u:Int)(sh:Bool):Prop:=
 if k=(wv.AK.length:Int)then s.Tx=u/\sh=false else Cp k wv.AK.length=true/\(sh=false/\(ix s.AK k).B9=u\/sh=true/\(ix wv.AK k).RW=true/\u∈(ix s.AK k).An)
structure StepR (w:AG) (c c':Ac) (i:Nat) (wake:Int):Prop where
 hi:i<w.AB.length
 no:(i:Int)∉c.du
 pre:∀j:Nat,j<i->(ev w j).cr=(ev w i).cr->(j:Int)∈c.du
 en:B7 w.cT c.de (ev w i).cr (ev w i).da (ev w i).dn=true
 dp:∀q∈Iv w (ev w i).cr (ev w i).EA,ix c.Ej q=true
 sy:c'.de=(DR w.cT c.de (ev w i).cr (ev w i).da (ev w i).dn wake).1
 od:c'.du=c.du++[(i:Int)]
 ce:((ev w i).da=4/\∃x:FC,c'.df=c.df.set (ev w i).dn.toNat x/\(x.Pl=true->x.dh=(ev w i).dh/\∀q∈Iv w (ev w i).cr (ev w i).DW,ix c.Ej q=true))\/((ev w i).da≠4/\c'.df=c.df)
 fu:((ev w i).da=22/\∃x:FC,c'.AL=c.AL.set (ev w i).dn.toNat x/\(x.Pl=true->x.dh=(ev w i).dh/\∀q∈Iv w (ev w i).cr (ev w i).DW,ix c.Ej q=true))\/((ev w i).da≠22/\c'.AL=c.AL)
 fx:(∃b:Bool,c'.Ej=c.Ej.set i b/\((ev w i).da=3/\(b=true->(ix c.df (ev w i).dn).Pl=true/\(ix c.df (ev w i).dn).dh=(ev w i).dh)\/(ev w i).da=23/\(b=true->(ix c.AL (ev w i).dn).Pl=true/\(ix c.AL (ev w i).dn).dh=(ev w i).dh)))\/((ev w i).da≠3/\(ev w i).da≠23/\c'.Ej=c.Ej)
def startC(w:AG):Ac:=⟨w.db.de,w.db.df.map λx=>⟨x,true⟩,w.db.AL.map λx=>⟨x,true⟩,[],List.replicate w.AB.length false,List.replicate w.AB.length 0⟩
inductive Reach (w:AG):Ac->Prop
 |start:Reach w (startC w)
 |step {K:Nat} {c c':Ac} {i:Nat} {wake:Int} (g:GIw w K c) (h:Reach w c) (s:StepR w c c' i wake):Reach w c'
theorem Yy(h:B7 wv s th a ob=true):Cp th wv.AA.length=true/\Bm wv a ob=true/\Jh wv s th a ob=true/\HJ wv s=true:=by unfold B7 at h;simp only[AAT]at h;exact⟨h.2.1,h.2.2.1,h.2.2.2,h.1⟩
def eN(h:B7 wv s th a ob=true):True/\Cp th wv.AA.length=true/\Bm wv a ob=true/\Jh wv s th a ob=true/\HJ wv s=true:=⟨trivial,Yy h⟩
theorem zT(e:B7 wv s th a ob=true)(g:Cp x wv.AL.length=true):ix (DR wv s th a ob i).1.Bp x=if a=22/\ob=x then true else ix s.Bp x:=by
 have j:=(EO (eN e).2.2.2.2).2.1
 have:=BI.1 g;unfold DR LC LB;dsimp only;by_cases k:a=22
 . simp only[k];simp(decide:=true)only[AAy,AAk,ABK,true_and];unfold ix;by_cases b:ob=x
   . rw[AAb b,b,AAX ah];rfl
   . have f:Cp ob wv.AL.length=true:=by have d:=(eN e).2.2.1;unfold Bm at d;rw[k]at d;simpa(decide:=true)only[AAy,AAk,or_true,true_or,ABK]using d
     have:=BI.1 f;rw[AAa b,AAe ah]
 . rw[AAa (c:=a=22/\ob=x) λh=>k h.1,AAa (c:=a=22) k];simp only[apply_ite Prod.fst,apply_ite AQ.Bp,ite_self]
theorem reach_ord(h:Reach w c):∀x∈c.du,∃m:Nat,m<w.AB.length/\x=(m:Int):=by
 induction h with
 |start=>intro x a;cases a
 |step g h s ih=>
  intro x a;rw[s.od]at a;rcases AAo.1 a with a|a
  . exact ih x a
  . exact⟨_,s.hi,AAw.1 a⟩
theorem uT(e:Cp i w.cT.AL.length=true)(h:Reach w c):(∀o:Nat,(o:Int)∈c.du->¬((ev w o).da=22/\(ev w o).dn=i))->ix c.de.Bp i=ix w.db.de.Bp i:=by
 induction h with
 |start=>intro _;rfl
 | @step K c c' o wake g h s ih=>intro a;have b:=ih λm d=>a m (by rw[s.od];exact List.mem_append_left _ d);rw[s.sy,zT s.en e,AAa (a o (by rw[s.od];simp))];exact b
def IZ(P:Int->Bool)(l:Int)(ord:iq):Int:=ord.foldl (λl x=>if P x=true then x else l) l
theorem uD(P:Int->Bool)(l:Int)(a:iq)(x:Int):IZ P l (a++[x])=if P x=true then x else IZ P l a:=by simp[IZ,List.foldl_append]
theorem ZS(P:Int->Bool):∀(a:iq)(l:Int),(IZ P l a=l/\∀x∈a,P x=false)\/(IZ P l a∈a/\P (IZ P l a)=true):=by
 intro a;induction a with
 |nil=>exactλl=>.inl ⟨rfl,λx d=>by cases d⟩
 |cons x a ih=>
  intro l;have e:IZ P l (x::a)=IZ P (if P x=true then x else l) a:=rfl
  rw[e];cases d:P x with
  |true=>
   rw[AAb rfl];rcases ih x with⟨b,c⟩|⟨b,c⟩
   . exact .inr ⟨by rw[b];simp,by rw[b];exact d⟩
   . exact .inr ⟨ABg _ b,c⟩
  |false=>
   rw[AAa ak];rcases ih l with⟨b,c⟩|⟨b,c⟩
   . exact .inl ⟨b,λy f=>by rcases AAr.1 f with rfl|f;exact d;exact c y f⟩
   . exact .inr ⟨ABg _ b,c⟩
def lO(w:AG)(k o x:Int):Bool:=(ix w.AB x).da==k&&(ix w.AB x).dn==o
theorem oH(h:∀x,f x=g x)(l:Int)(a:iq):IZ f l a=IZ g l a:=by have:f=g:=funext h;rw[this]
def Mm(w:AG)(c:Ac)(k:Nat):Prop:=∀x∈Iv w (ev w k).cr (ev w k).DW,ix c.Ej x=true
structure CIw (w:AG) (c:Ac):Prop where
 o:∀q:Nat,q<w.AB.length->ix c.Ej (q:Int)=true->(q:Int)∈c.du
 ce:∀b,Cp b w.cT.df.length=true->(ix c.df b).Pl=true->(IZ (lO w 4 b) (-1) c.du= -1/\(ix c.df b).dh=ix w.db.df b)\/∃k:Nat,IZ (lO w 4 b) (-1) c.du=(k:Int)/\k<w.AB.length/\(ix c.df b).dh=(ev w k).dh/\Mm w c k
 fu:∀b,Cp b w.cT.AL.length=true->(ix c.AL b).Pl=true->(IZ (lO w 22 b) (-1) c.du= -1/\(ix c.AL b).dh=ix w.db.AL b)\/∃k:Nat,IZ (lO w 22 b) (-1) c.du=(k:Int)/\k<w.AB.length/\(ix c.AL b).dh=(ev w k).dh/\Mm w c k
 xr:∀q:Nat,q<w.AB.length->ix c.Ej (q:Int)=true->∃pre post,c.du=pre++(q:Int)::post/\IZ (λx=>KH (ix w.AB x) (ev w q)) (-1) pre∈QQ w (q:Int)/\∀k:Nat,IZ (λx=>KH (ix w.AB x) (ev w q)) (-1) pre=(k:Int)->(k:Int)∈pre/\Mm w c k
theorem Mm.mono(d:∀q:Nat,q<w.AB.length->ix c.Ej (q:Int)=true->ix c'.Ej (q:Int)=true)(h:Mm w c k):Mm w c' k:=by intro x b;obtain⟨m,a,e,_⟩:=lS x b;rw[e];exact d m a (by have:=h x b;rw[e]at this;exact this)
theorem CIw.step{w:AG}(hw:WQ w){K:Nat}{c c':Ac}{i:Nat}{wake:Int}(g:GIw w K c)(hr:Reach w c)(s:StepR w c c' i wake)(h:CIw w c):CIw w c':=by
 have hil:=s.hi;have v:=(Yy s.en).2.1
 -- what was fixed stays so
 have H:∀q:Nat,q<w.AB.length->q≠i->ix c'.Ej (q:Int)=ix c.Ej (q:Int):=by
  intro q f Me;rcases s.fx with⟨b,e,_⟩|⟨_,_,e⟩
  . rw[e];unfold ix;rw[show((q:Int)).toNat=q from by omega,AAe ah]
  . rw[e]
 have W:∀q:Nat,q<w.AB.length->ix c.Ej (q:Int)=true->ix c'.Ej (q:Int)=true:=by intro q f a;rw[H q f λe=>s.no (e▸h.o q f a)];exact a
 have G:∀q:Nat,q<w.AB.length->ix c'.Ej (q:Int)=true->ix c.Ej (q:Int)=true\/q=i:=by
  intro q f a;by_cases e:q=i
  . exact .inr e
  . rw[H q f e]at a;exact .inl a
 have lst:∀(k b:Int),IZ (lO w k b) (-1) c'.du=if(ev w i).da=k/\(ev w i).dn=b then(i:Int)else IZ (lO w k b) (-1) c.du:=by
  intro k b;rw[s.od,uD];unfold lO ev;by_cases e:(ix w.AB (i:Int)).da=k/\(ix w.AB (i:Int)).dn=b
  . rw[AAb e,AAb (by simp[e])]
  . rw[AAa e,AAa (by simpa using e)]
 -- contents
 have E:∀(k b:Int)(C D I:List FC)(V:iq)(n:Nat),Cp b n=true->C.length=n->
  ((ev w i).da=k/\(∃x:FC,D=C.set (ev w i).dn.toNat x/\(x.Pl=true->x.dh=(ev w i).dh/\∀q∈Iv w (ev w i).cr (ev w i).DW,ix c.Ej q=true))\/((ev w i).da≠k/\D=C))->
  ((ev w i).da=k->Cp (ev w i).dn n=true)->
  ((ix C b).Pl=true->(IZ (lO w k b) (-1) c.du= -1/\(ix C b).dh=ix V b)\/∃m:Nat,IZ (lO w k b) (-1) c.du=(m:Int)/\m<w.AB.length/\(ix C b).dh=(ev w m).dh/\Mm w c m)->
  (ix D b).Pl=true->(IZ (lO w k b) (-1) c'.du= -1/\(ix D b).dh=ix V b)\/∃m:Nat,IZ (lO w k b) (-1) c'.du=(m:Int)/\m<w.AB.length/\(ix D b).dh=(ev w m).dh/\Mm w c' m:=by
  intro k b C D I V n j hl hC L hold t;have lR:=BI.1 j;rw[lst k b];rcases hC with⟨F,x,J,Z⟩|⟨F,J⟩
  . have hO':=BI.1 (L F);by_cases eo:(ev w i).dn=b
    . rw[AAb ⟨F,eo⟩];have hx:ix D b=x:=(by rw[J,eo];unfold ix;rw[AAX (by omega)];rfl);rw[hx]at t |-;obtain⟨d,g2⟩:=Z t;exact .inr ⟨i,rfl,hil,d,Mm.mono W g2⟩
    . rw[AAa λx=>eo x.2];have hx:ix D b=ix C b:=(by rw[J];unfold ix;rw[AAe (by omega)]);rw[hx]at t |-;rcases hold t with y|⟨m,y,B,N,O⟩
      . exact .inl y
      . exact .inr ⟨m,y,B,N,O.mono W⟩
  . rw[AAa λx=>F x.1];rw[J]at t |-;rcases hold t with y|⟨m,y,B,N,O⟩
    . exact .inl y
    . exact .inr ⟨m,y,B,N,O.mono W⟩
 have hO4:(ev w i).da=4->Cp (ev w i).dn w.cT.df.length=true:=λk=>by unfold Bm at v;rw[k]at v;simpa using v
 have P:(ev w i).da=22->Cp (ev w i).dn w.cT.AL.length=true:=λk=>by unfold Bm at v;rw[k]at v;simpa using v
 refine⟨λq f a=> ?_,λb j t=>E 4 b c.df c'.df [] w.db.df _ j g.l s.ce hO4 (h.ce b j) t,λb j t=>E 22 b c.AL c'.AL [] w.db.AL _ j g.u s.fu P (h.fu b j) t,λq f a=> ?_⟩
 . rw[s.od];rcases G q f a with a|rfl
   . exact List.mem_append_left _ (h.o q f a)
   . exact List.mem_append_right _ ak
 . by_cases U:q=i
   . subst U;have eq:ix w.AB (q:Int)=ev w q:=rfl;have Su:Cp (q:Int) w.AB.length=true:=BI.2 ⟨ah,ah⟩;refine⟨c.du,[],s.od,?_⟩;rcases s.fx with⟨b,e,j⟩|⟨_,_,e⟩
     . have Q:b=true:=by rw[e]at a;unfold ix at a;rw[show((q:Int)).toNat=q from by omega,AAX (by rw[g.x];exact f)]at a;exact a
       -- the last write
       have mk:∀(k kd:Int)(o:Int),(ev w q).da=kd->(kd=3/\k=4\/kd=23/\k=22)->(ev w q).dn=o->
        ((IZ (lO w k o) (-1) c.du= -1/\Ri w (ev w q)=true)\/∃m:Nat,IZ (lO w k o) (-1) c.du=(m:Int)/\m<w.AB.length/\(ev w q).dh=(ev w m).dh/\Mm w c m)->
        IZ (λx=>KH (ix w.AB x) (ev w q)) (-1) c.du∈QQ w (q:Int)/\∀m:Nat,IZ (λx=>KH (ix w.AB x) (ev w q)) (-1) c.du=(m:Int)->(m:Int)∈c.du/\Mm w c' m:=by
        intro k kd o R S ho hl;have hP:∀x,KH (ix w.AB x) (ev w q)=lO w k o x:=(by intro x;unfold KH lO;rw[R,ho];rcases S with⟨rfl,rfl⟩|⟨rfl,rfl⟩<;>cases(ix w.AB x).dn==o<;>cases(ix w.AB x).da==4<;>cases(ix w.AB x).da==22<;>rfl);rw[oH hP];have z:(ix w.AB (q:Int)).da=3\/(ix w.AB (q:Int)).da=23:=by
         rw[eq,R];rcases S with⟨h,_⟩|⟨h,_⟩
         . exact .inl h
         . exact .inr h
        rcases hl with⟨y,B⟩|⟨m,y,B,N,O⟩
        . rw[y];refine⟨?_,λm hm=>ah⟩;unfold QQ;rw[AAb ⟨Su,z⟩,eq,AAb B];exact List.mem_append_left _ (AAw.2 rfl)
        . rcases ZS (lO w k o) c.du (-1)with⟨d,_⟩|⟨d,g2⟩
          . omega
          rw[y]at d g2 |-;refine⟨?_,λm' SF=> ?_⟩
          . unfold QQ;rw[AAb ⟨Su,z⟩,eq];refine List.mem_append_right _ ?_;have em:ev w m=w.AB[m]:=IK B;have eqq:ev w q=w.AB[q]:=IK f
            have:=zI (w:=w) (n:=(q:Int)) (r:=ev w q) w.AB 0 m B ?_
            . simpa using this
            . unfold Rz;rw[<- em];have N9:KH (ev w m) (ev w q)=true:=(by have:=hP (m:Int);rw[this];exact g2);rw[N9,N];simp only[BEq.rfl,AAq,ABG,Bool.and_eq_false_iff,ABZ,decide_eq_false_iff_not];by_cases ht:(ev w m).cr=(ev w q).cr
              . right
                intro EP;refine s.no (g.p q m ah B ?_ d);rw[<- em,<- eqq];exact ht.symm
              . exact .inl ht
          . obtain rfl:m'=m:=ah;exact⟨d,O.mono W⟩
       rcases j with⟨k3,j⟩|⟨lN,j⟩
       . obtain⟨b1,M⟩:=j Q;have L:Cp (ev w q).dn w.cT.df.length=true:=(by unfold Bm at v;rw[k3]at v;simpa using v);refine mk 4 3 _ k3 (.inl ⟨rfl,rfl⟩) rfl ?_;rcases h.ce _ L b1 with⟨d,g2⟩|⟨m,d,g2,g3,g4⟩
         . exact .inl ⟨d,by unfold Ri;rw[AAa ah,<- g2,M];simp⟩
         . exact .inr ⟨m,d,g2,by rw[<- M,g3],g4⟩
       . obtain⟨b1,M⟩:=j Q;have L:Cp (ev w q).dn w.cT.AL.length=true:=(by unfold Bm at v;rw[lN]at v;simpa using v);refine mk 22 23 _ lN (.inr ⟨rfl,rfl⟩) rfl ?_;rcases h.fu _ L b1 with⟨d,g2⟩|⟨m,d,g2,g3,g4⟩
         . refine .inl ⟨d,?_⟩;have hd:ix c.de.Bp (ev w q).dn=true:=(by have hR:=(Yy s.en).2.2.1;unfold Jh at hR;rw[lN]at hR;simp at hR;exact hR.2);have LM:∀m:Nat,(m:Int)∈c.du->¬((ev w m).da=22/\(ev w m).dn=(ev w q).dn):=by
            rcases ZS (lO w 22 (ev w q).dn) c.du (-1)with⟨_,k2⟩|⟨k1,k2⟩
            . intro m hm T
              have:=k2 _ hm;unfold lO at this;have F:(ix w.AB (m:Int))=ev w m:=rfl;rw[F,T.1,T.2]at this;simp at this
            . rw[d]at k1;obtain⟨m,_,hm⟩:=reach_ord hr _ k1;omega
           rw[uT L hr LM]at hd;unfold Ri;rw[AAb lN,hd,<- g2,M];simp
         . exact .inr ⟨m,d,g2,by rw[<- M,g3],g4⟩
     . rw[e]at a;exact absurd (h.o q f a) s.no
   . have hf':ix c.Ej (q:Int)=true:=(by rw[H q f U]at a;exact a);obtain⟨pre,X,F,J,Z⟩:=h.xr q f hf';refine⟨pre,X++[(i:Int)],by rw[s.od,F];simp,J,λk t=>⟨(Z k t).1,(Z k t).2.mono W⟩⟩
instance:Inhabited Dh:=⟨⟨0,0,[]⟩⟩
def accB(wv:AF)(e:AH):Bool:=(e.da==3||e.da==4)&& !(ix wv.df e.dn).Hk
def xZ(wv:AF)(i:Int)(e:AH)(h:Em)(s:nd):List Dh×List Int:=
 if accB wv e=true then
  let r:=PA (ix s.1 e.dn) e.cr (e.da==4) h
  (s.1.set e.dn.toNat r.1,if r.2=true/\ix s.2 e.dn<0 then s.2.set e.dn.toNat i else s.2)
 else s
def CE(wv:AF)(e:AH):Prop:=e.da=3\/e.da=4->Cp e.dn wv.df.length=true
structure WS (n:Nat) (s:List Dh×List Int):Prop where
 a:s.1.length=n
 b:s.2.length=n
 e:∀x∈s.1,EI x
theorem ix_mem[Inhabited b]{l:List b}(h:Cp i l.length=true):ix l i∈l:=by
 have:=B6 h;unfold gt at this;split at this
 . exact AAg this
 . cases this
theorem WS.step{n:Nat}{wv:AF}(hn:n=wv.df.length){s:nd}(c:WS n s){e:AH}(g:CE wv e){h:Em}(j:HL h)(i:Int):WS n (xZ wv i e h s):=by
 unfold xZ;split
 . rename_i d;have k:e.da=3\/e.da=4:=(by unfold accB at d;simp at d;exact d.1);have hi:Cp e.dn s.1.length=true:=(by rw[c.a,hn];exact g k);refine⟨by simpa using c.a,?_,λx f=> ?_⟩
   . simp only;split<;>simpa using c.b
   . rcases AA7 f with f|rfl
     . exact c.e x f
     . exact(c.e _ (ix_mem hi)).step j
 . exact c
theorem fill{L:Nat->List Int->Int->ABu b}{R:List Int->ABu b}(f:k<=1000)(c:∀(n i:Nat)(l:iq),i<k->l.length=k->L (n+1) l (i:Int)=L n (l.set i (-1)) ((i+1:Nat):Int))(a:∀n l,L (n+1) l (k:Int)=R l):∀(n i:Nat),i<=k->k<n+i->L n (List.replicate i (-1)++List.replicate (k-i) 0) (i:Int)=R (List.replicate k (-1))
 |0,i,h1,h2=>ah
 |n+1,i,h1,h2=>by
  by_cases hi:i<k
  . have d:k-i=(k-(i+1))+1:=ah;rw[c n i _ hi an,d,List.replicate_succ];have e:(List.replicate i (-1:Int)++(0:Int)::List.replicate (k-(i+1)) 0).set i (-1)=List.replicate (i+1) (-1)++List.replicate (k-(i+1)) 0:=(by have:=set_mid (List.replicate i (-1:Int)) 0 (-1) (List.replicate (k-(i+1)) 0);rw[ABd]at this;rw[this,ABq];simp);rw[e];exact fill f c a n (i+1) ah ah
  . obtain rfl:i=k:=ah;rw[a];simp
theorem AT.ce(h:AT l)(d:e∈l.AB):CE l.cT e:=by intro a;obtain⟨i,hi,rfl⟩:=ABX d;have b:=h.poss hi;unfold Hc B7 at b;simp only[AAT]at b;have c:=b.2.2.1.2.2.1;unfold Bm at c;rcases a with a|a<;>simpa[a]using c
theorem ix_set_eq[Inhabited b]{l:List b}(h:Cp i l.length=true)(a:b):ix (l.set i.toNat a) i=a:=by have h:=BI.1 h;unfold ix;rw[AAX ah];rfl
theorem fA[Inhabited b]{l:List b}(hi:0<=i)(c:0<=th)(h:i≠th)(a:b):ix (l.set i.toNat a) th=ix l th:=by unfold ix;rw[AAe ah]
def holdB(c k:Int)(x:AH×Em):Bool:= !((x.1.da==3||x.1.da==4)&&x.1.dn==c)||(x.2.F6.contains k||(x.1.da==3&&x.2.MG.contains k))
def DI(c k:Int)(s:nd):Prop:=((ix s.1 c).d8=0\/(ix s.1 c).d8=1\/k∈(ix s.1 c).AK)/\ix s.2 c<0
theorem DI.step{wv:AF}{c k:Int}{s:nd}(h:DI c k s)(r:WS wv.df.length s)(p:Cp c wv.df.length=true){e:AH}{hd:Em}(q:CE wv e)(d:holdB c k (e,hd)=true)(i:Int):DI c k (xZ wv i e hd s):=by
 unfold xZ;split
 . rename_i l;dsimp only;have f:e.da=3\/e.da=4:=(by unfold accB at l;simp at l;exact l.1);have hi:=q f;have t:=BI.1 hi;have u:=BI.1 p;by_cases b:e.dn=c
   . subst b;have m:k∈MT (e.da==4) hd:=by
      unfold holdB at d;simp only[ABM,Bool.and_true,AAt,ABG,AAT,AAu]at d;unfold MT;rw[Kg];rcases f with f|f
      . simp[f]at d |-;exact d
      . simp[f]at d |-;exact d
     have n:(PA (ix s.1 e.dn) e.cr (e.da==4) hd).2=false/\((PA (ix s.1 e.dn) e.cr (e.da==4) hd).1.d8=1\/k∈(PA (ix s.1 e.dn) e.cr (e.da==4) hd).1.AK):=by
      unfold PA;split
      . exact⟨rfl,.inl rfl⟩
      . rename_i hn;have o:k∈(if(ix s.1 e.dn).d8=1 then MT (e.da==4) hd else(ix s.1 e.dn).AK.filter (MT (e.da==4) hd).contains):=by
         split
         . exact m
         . rename_i j;rcases h.1 with g|g|g
           . exact absurd (.inl g) hn
           . exact absurd g j
           . exact List.mem_filter.2 ⟨g,by simpa using m⟩
        refine⟨?_,.inr o⟩;have:((if(ix s.1 e.dn).d8=1 then MT (e.da==4) hd else(ix s.1 e.dn).AK.filter (MT (e.da==4) hd).contains).length:Int)≠0:=by have:=List.length_pos_of_mem o;omega
        simp only[Bool.and_eq_false_iff,ABZ];exact .inr this
     unfold DI;dsimp only;rw[ix_set_eq (by rw[r.a];exact hi),AAa (by rw[n.1];simp)];exact⟨n.2.elim (λg=>.inr (.inl g)) λg=>.inr (.inr g),h.2⟩
   . unfold DI;dsimp only;rw[fA ah ah b];refine⟨h.1,?_⟩;split
     . rw[fA ah ah b];exact h.2
     . exact h.2
 . exact h
end
variable{o:ja}
section
open Go.Proofs Go.RowKit
set_option maxRecDepth 100000
set_option maxHeartbeats 4000000
theorem kH{e:b->List AV}{ok:b->Prop}:∀(rows:i6),(∀row∈rows,∃x:b,row=e x/\ok x)->∃l:List b,rows=l.map e/\∀x∈l,ok x
 |[],_=>⟨[],rfl,λ_ h=>by simp at h⟩
 |r::rs,h=>by
  obtain⟨l,d,f⟩:=kH rs (λrow g=>h row (by simp[g]));obtain⟨x,i,a⟩:=h r ak;refine⟨x::l,by rw[i,d];rfl,λy c=> ?_⟩;rcases AAr.1 c with rfl|c
  . exact a
  . exact f y c
def PT(x:Int):Prop:=(Lit.int .u8 x).wf=true
structure Kw (x:List Int):Prop where
 len:x.length*1<=reachBytes
 all:∀y∈x,PT y
structure jY (x:Kk):Prop where
 f0:Kw x.ed
 f1:Kw x.GM
 f2:Kw x.mA
 f3:PT x.B3
 f4:PT x.dW
def op5:OP Tryz.prog 5 (λa=>∃x:Int,a=[.sc (.int .u8 x)]/\PT x):=(lT Tryz.underlying5).mono λ_ ⟨n,h,b⟩=>⟨n,h,b⟩
theorem op22:OP Tryz.prog 22 (λb=>∃x:List Int,b=[vS 1 iX x]/\Kw x):=by
 refine(fK (k:=1) Tryz.underlying22 (by kernel_rfl) ah op5).mono ?_;rintro b ⟨rows,rfl,f,c⟩;obtain⟨l,rfl,d⟩:=kH (e:=iX) (ok:=PT) rows λrow h=>(f row h).1;have a:Tryz.prog.bytesOf 5=1:=by kernel_rfl
 rw[a,AA6]at c;exact⟨l,rfl,c,d⟩
theorem op24:OP Tryz.prog 24 (λa=>∃x:Kk,a=Yx x/\jY x):=by refine(kB (Xs:=[λa=>∃x:List Int,a=[vS 1 iX x]/\Kw x,λa=>∃x:List Int,a=[vS 1 iX x]/\Kw x,λa=>∃x:List Int,a=[vS 1 iX x]/\Kw x,λa=>∃x:Int,a=[.sc (.int .u8 x)]/\PT x,λa=>∃x:Int,a=[.sc (.int .u8 x)]/\PT x]) Tryz.underlying24 ⟨by kernel_rfl,op22,⟨by kernel_rfl,op22,⟨by kernel_rfl,op22,⟨by kernel_rfl,op5,⟨by kernel_rfl,op5,trivial⟩⟩⟩⟩⟩ (by kernel_rfl)).mono ?_;rintro a ⟨a0,p,rfl,⟨g,rfl,b⟩,⟨l,q,rfl,⟨h,rfl,c⟩,⟨m,r,rfl,⟨i,rfl,d⟩,⟨n,s,rfl,⟨j,rfl,e⟩,⟨o,t,rfl,⟨k,rfl,f⟩,rfl⟩⟩⟩⟩⟩;exact⟨⟨g,h,i,j,k⟩,rfl,⟨b,c,d,e,f⟩⟩
theorem arg24(a:i5):bU Tryz.prog 24 a= .agg a:=by unfold bU;rw[Tryz.underlying24];rfl
theorem laid:laidOutB Tryz.prog=true:=by kernel_rfl
theorem own0:ownKnob Tryz.prog.godebug=none:=by kernel_rfl
abbrev oG:List (String×DataW Unit):=[("interleave/token.keywords",Go.Proofs.YtdojkofgkcmagaaGreatDoor.Rows.laid_interleave_token_keywords)]
theorem gName:Tryz.prog.globalNamed "interleave/token.keywords" =some 0:=by kernel_rfl
theorem gType:(Tryz.prog.globals[0]?).map (·.type)=some 293:=by kernel_rfl
theorem laidDatum:(Go.Proofs.YtdojkofgkcmagaaGreatDoor.Rows.laid_interleave_token_keywords:DataW Unit)= .agg (Mw.map λs=>.lit (.string s.data.toList)):=rfl
theorem sX(h:laidMetH Tryz.prog oG o):GI o (Old o):=by
 rw[MakeChecks.laidMetH_plain _ _ _ (by kernel_rfl)]at h;obtain⟨G,⟨g0,I,c,f0,F,H,i,n,W,f,_,_⟩,_,_⟩:=h;obtain rfl:=AAW (gName.symm.trans i);obtain rfl:=AAW (gType.symm.trans n);obtain⟨w,m,rfl,p,t,hn,g⟩:=DataW.trod_array Tryz.underlying293 f;have ce:Tryz.prog.cellsOf 9=1:=by kernel_rfl
 rw[laidDatum]at p;simp only[AAj,DataW.agg.injEq]at p;have r:∀(j:Nat) s,Mw[j]? =some s->o.cell? ⟨0,j,none⟩=some (.string s):=by
  intro j s b;have k:j<22:=by have:=(AAV.1 b).1;exact this
  have a:(w.map (·.1))[j]? =some (.lit (.string s.data.toList)):=by rw[<- p.1,AAf,b];rfl
  rw[AAf]at a;cases hxs:w[j]? with
  |none=>rw[hxs]at a;cases a
  |some y=>have u:=g j k;rw[hxs,ce]at u;obtain⟨e,B,D,_⟩:=DataW.trod_string Tryz.underlying9 u;rw[hxs]at a;simp only[AA1,AAU]at a;rw[D]at a;simp only[DataW.lit.injEq,Lit.string.injEq]at a;have l:e=s:=ByteArray.ext (Array.toList_inj.1 a);subst l;rw[World.var?_cell gName W j];have:(c.toList.drop (j*1)).take 1=[.string e]:=B;rw[Nat.mul_one]at this;have d:c.toList[j]? =some (.string e):=(by have C:((c.toList.drop j).take 1)[0]? =some (.string e):=(by rw[this];rfl);simpa using C);simpa using d
 intro x q;have:x=(0,Mw.map Value.string):=by simpa[Gam]using q
 subst this;have d:=r 0 _ rfl;obtain⟨_,z⟩:=wE d;refine⟨z,?_⟩;unfold World.cell? at d;cases hb:o.heap[0]? with
 |none=>simp[hb]at d
 |some NU=>
  cases NU with
  |cells arr E fz=>
   refine⟨arr,E,fz,rfl,λj v b=> ?_⟩;rw[AAf]at b;cases hs:Mw[j]? with
   |none=>rw[hs]at b;cases b
   |some s=>
    rw[hs]at b;simp only[AA1,AAU]at b;subst b
    have:=r j s hs;unfold World.cell? at this;simpa[hb]using this
  |_=>simp[hb]at d
end
theorem u8_of(h:PT x):0<=x/\x<256:=by unfold PT Lit.wf at h;simp only[AAT,AAl]at h;have c:=h.1;have d:=h.2;have a:IntKind.u8.min=0:=rfl;have b:IntKind.u8.max=255:=rfl;omega
variable{n:ABu Bool}
theorem true_of(h:B5 n λb=>b=true):n=some true:=by obtain⟨b,h,rfl⟩:=h;exact h
variable{d:iq}
def Zc(h:Kw d):TC d:=λx a=>u8_of (h.all x a)
theorem len_in(h:Kw d):d.length<=4000000000000000000:=by have:=h.len;unfold reachBytes at this;omega
def view_in(h:jY v):rC v:=⟨Zc h.f0,Zc h.f1,Zc h.f2,u8_of h.f3,u8_of h.f4⟩
def MSpawns_law(h:jY v):Dt v=some true:=true_of (MSpawns_tot (view_in h) (len_in h.f0))
end Go.Abs
