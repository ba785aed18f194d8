/- What the typed programs give, in plain Lean. -/
import Derived.Test.YtdadohkcmclilaaGreatDoorWalkR
import Derived.Test.YtdadohkcmclilaaGreatDoorPlainA
import Derived.KernelRfl
import Derived.Shelf.Slices.SearchI
set_option linter.unusedSimpArgs false
set_option linter.unusedVariables false
namespace Go.Abs
set_option maxHeartbeats 4000000
theorem Lw {b:Type} [Inhabited b] {l:List b} {i j:Int} {a:b} (hi:Ee i l.length=true) (c:Ee j l.length=true):ix (l.set i.toNat a) j=if j=i then a else ix l j:=by
 have hi:=B9.1 hi;have c:=B9.1 c;unfold ix;by_cases e:j=i
 . subst e;rw[AAY rfl,AAS (by omega)];rfl
 . rw[AAX e,AAV (by omega)]
theorem ix_map {a c:Type} [Inhabited a] [Inhabited c] {l:List a} {j:Int} {f:a->c} (b:Ee j l.length=true):ix (l.map f) j=f (ix l j):=by
 have b:=B9.1 b;have:j.toNat<l.length:=by omega
 unfold ix;rw[AAZ,AAT this];rfl
structure TI (wv:AD) (B:Int->Prop) (L:List AW) (u:Int) (x:AE):Prop where
 s:0≤x.Status/\x.Status≤5
 b:B u↔2≤x.Status
 z:u=0->x.Status≠0
 c:x.Status=3∨x.Status=4->Ee x.D8 wv.Af.length=true/\(ix L (ix wv.Af x.D8).Mutex).CW≠u
 n:x.Status≠3->x.Status≠4->x.D8=0
 a:x.Atomic=true->2≤x.Status
structure LI (wv:AD) (B:Int->Prop) (i:Int) (x:AW):Prop where
 o:x.CW≠ -1->B x.CW
 w:x.As≠[]->(ix wv.AG i).RW=true/\x.CW= -1
 p:x.As.Pairwise (· < ·)
 r:∀y∈x.As,B y
structure YI (wv:AD) (B:Int->Prop) (s:AN):Prop where
 t:∀u,Ee u wv.AA.length=true->TI wv B s.AG u (ix s.AA u)
 l:∀i,Ee i wv.AG.length=true->LI wv B i (ix s.AG i)
 x:s.Tx≠ -1->B s.Tx
 b:∀u,B u->Ee u wv.AA.length=true
section
variable {wv:AD} {B:Int->Prop} {s:AN}
theorem YI.LB (h:YI wv B s) (hn:s.AA.length=wv.AA.length) {d:Int} {f:AE->AE} (hd:Ee d wv.AA.length=true) (c:TI wv B s.AG d (f (ix s.AA d))):YI wv B (LB s d f):=by
 refine⟨λu a=> ?_,h.l,h.x,h.b⟩;show TI wv B s.AG u (ix (s.AA.set d.toNat (f (ix s.AA d))) u);rw[Lw (by rw[hn];exact hd) (by rw[hn];exact a)];by_cases e:u=d
 . rw[AAY e,e];exact c
 . rw[AAX e];exact h.t u a
theorem YI.Kc (h:YI wv B s) (r:∀o,Ee o wv.Af.length=true->Ee (ix wv.Af o).Mutex wv.AG.length=true) (hn:s.AG.length=wv.AG.length) {i:Int} {f:AW->AW} (hi:Ee i wv.AG.length=true) (v:LI wv B i (f (ix s.AG i)))
 (k:(f (ix s.AG i)).CW= -1∨(f (ix s.AG i)).CW=(ix s.AG i).CW∨Ee (f (ix s.AG i)).CW wv.AA.length=true/\(ix s.AA (f (ix s.AG i)).CW).Status=2):YI wv B (Kc s i f):=by
 refine⟨λu m=> ?_,λj p=> ?_,h.x,h.b⟩
 . have g:=h.t u m;refine⟨g.s,g.b,g.z,λd=>⟨(g.c d).1,?_⟩,g.n,g.a⟩;have d:(ix s.AA u).Status=3∨(ix s.AA u).Status=4:=d;have w:=r _ (g.c d).1;show(ix (s.AG.set i.toNat (f (ix s.AG i))) (ix wv.Af (ix s.AA u).D8).Mutex).CW≠u;rw[Lw (by rw[hn];exact hi) (by rw[hn];exact w)];by_cases e:(ix wv.Af (ix s.AA u).D8).Mutex=i
   . rw[AAY e];have m:=B9.1 m;rcases k with k|k|k
     . omega
     . rw[k,← e];exact(g.c d).2
     . intro q;rw[q]at k;omega
   . rw[AAX e];exact(g.c d).2
 . show LI wv B j (ix (s.AG.set i.toNat (f (ix s.AG i))) j);rw[Lw (by rw[hn];exact hi) (by rw[hn];exact p)];by_cases e:j=i
   . rw[AAY e,e];exact v
   . rw[AAX e];exact h.l j p
theorem YI.congr {a:Int->Prop} (h:YI wv B s) (b:∀u,a u↔B u):YI wv a s:=by have:a=B:=funext λu=>propext (b u);rw[this];exact h
end
theorem Zc (l:List Int):(UE l).Pairwise (· < ·):=by exact NK l
theorem gA {wv:AD} {s:AN} (h:G8 wv s=true) (t k o wake:Int):G8 wv (EN wv s t k o wake).1=true:=by
  have e:wv.Af.all (λc=>Ee c.Mutex wv.AG.length)=true:=by unfold G8 at h;simp only[AAP]at h;exact h.1
  have key:∀(p:Prop) [Decidable p] (a b:AN×Int),G8 wv a.1=true->G8 wv b.1=true->G8 wv (if p then a else b).1=true:=by intro p _ a b j l;split<;>assumption
  obtain⟨f,g,i⟩:=FA h;unfold EN
  repeat' refine key _ _ _ ?_ ?_
  all_goals first
    |exact h
    | (simp[G8,LB,Kc,e,f,g,i];done)
    | (by_cases d:Bz o 0 s.AA=[]
       . simp only[d,AAs];exact h
       . simp[d,G8,LB,e,f,g,i])
theorem yK {wv:AD} {s:AN} (h:G8 wv s=true):∀o,Ee o wv.Af.length=true->Ee (ix wv.Af o).Mutex wv.AG.length=true:=λ_ a=>HH h a
theorem AAK {wv:AD} {s:AN} (hn:s.AA.length=wv.AA.length) {o u:Int} (h:u∈Bz o 0 s.AA):Ee u wv.AA.length=true/\(ix s.AA u).Status=3:=by
 have key:∀(T:List AE) (i:Nat) (u:Int),u∈Bz o i T->∃x,T[(u-i).toNat]? =some x/\x.Status=3:=by
  intro T;induction T with
  |nil=>intro i u h;cases h
  |cons x r ih=>
   intro i u h;unfold Bz at h;have key:u∈Bz o (i+1) r->∃y,(x::r)[(u-i).toNat]? =some y/\y.Status=3:=(by intro h;have e:=(Ie o r (i+1) u h).1;obtain⟨y,y1,y2⟩:=ih (i+1) u h;refine⟨y,?_,y2⟩;rw[show(u-(i:Int)).toNat=(u-((i+1:Nat):Int)).toNat+1 from by omega,ABA];exact y1);split at h
   . rename_i a;rcases AAp.1 h with rfl|h
     . refine⟨x,by simp,?_⟩;unfold Ia at a;simp only[AAP]at a;exact eq_of_beq a.1
     . exact key h
   . exact key h
 obtain⟨x,b,d⟩:=key _ _ _ h;have c:=Ie o s.AA 0 u h;have b:s.AA[u.toNat]? =some x:=by simpa using b
 refine⟨B9.2 (by simp at c;omega),?_⟩;unfold ix;rw[b];exact d
theorem nN {wake:Int} {W:List Int} (h:W≠[]):EX wake W∈W:=by
 unfold EX;rw[AAX h];split
 . rename_i h;simpa using h
 . cases W with
   |nil=>exact absurd rfl h
   |cons a r=>simp
theorem YI.apply {wv:AD} {B:Int->Prop} {s:AN} {t k o wake:Int} (hq:∀o,Ee o wv.Af.length=true->(ix wv.AG (ix wv.Af o).Mutex).RW=false) (h:YI wv B s) (he:DC wv s t k o=true):YI wv (λu=>B u∨u=t) (EN wv s t k o wake).1:=by
 unfold DC at he;simp only[AAP]at he;obtain⟨hf,m,g,j⟩:=he;obtain⟨M,l2,v⟩:=FA hf;have I:=yK hf;have T:=h.t t m;unfold EN;by_cases Q:k=1
 . rw[AAY Q];have hs:(ix s.AA t).Status=1:=(by simpa[Kb,Q]using j);have up:∀{u},B u->B u∨u=t:=.inl;refine⟨λu J=> ?_,λi hi=> ?_,λhx=>up (h.x hx),λu J=>J.elim (h.b u) λe=>e▸m⟩
   . show TI wv _ s.AG u (ix (s.AA.set t.toNat _) u);rw[Lw (by rw[v];exact m) (by rw[v];exact J)];have U:=h.t u J;by_cases e:u=t
     . rw[AAY e];exact⟨by simp,by simp[e],by simp,by simp,λ_ _=>T.n (by omega) (by omega),by simp⟩
     . rw[AAX e];exact⟨U.s,by simp[e,U.b],U.z,U.c,U.n,U.a⟩
   . have L:=h.l i hi;exact⟨λh=>up (L.o h),L.w,L.p,λy q=>up (L.r y q)⟩
 rw[AAX Q];have N:k≠17->(ix s.AA t).Status=2:=by intro C;unfold Kb at j;simp only[AAX Q,AAX C,AAP]at j;exact eq_of_beq j.1
 have h4:k=17->(ix s.AA t).Status=4/\(ix s.AA t).D8=o:=by intro C;unfold Kb at j;simp only[AAX Q,AAY C,AAP]at j;exact⟨eq_of_beq j.1,eq_of_beq j.2.1⟩
 have G:B t:=T.b.2 (by
  by_cases C:k=17
  . have:=h4 C;omega
  . have:=N C;omega)
 refine YI.congr (B:=B) ?_ λu=>⟨λh=>h.elim id λe=>e▸G,.inl⟩;have own:∀{i},Ee i wv.AG.length=true->(ix s.AG i).As=[]->k≠17->YI wv B (Abs.Kc s i λx=>⟨t,x.As⟩):=λhi RF C=>
  h.Kc I M hi ⟨λ_=>G,λh=>absurd RF h,(h.l _ hi).p,(h.l _ hi).r⟩ (.inr (.inr ⟨m,N C⟩))
 have off:∀{i},Ee i wv.AG.length=true->YI wv B (Abs.Kc s i λx=>⟨-1,x.As⟩):=λhi=>
  h.Kc I M hi ⟨λh=>absurd rfl h,λP=>⟨((h.l _ hi).w P).1,rfl⟩,(h.l _ hi).p,(h.l _ hi).r⟩ (.inl rfl)
 by_cases k2:k=2
 . rw[AAY k2];have N:=N (by omega);dsimp only;apply h.LB v m;exact⟨by simp,by simp[G],by simp,by simp,λ_ _=>T.n (by omega) (by omega),by simp⟩
 rw[AAX k2];by_cases X:k=6∨k=10
 . rw[AAY X];have hi:Ee o wv.AG.length=true:=(by rcases X with rfl|rfl<;>simp[CF]at g<;>exact g.1);refine own hi ?_ (by omega);rcases X with rfl|rfl
   . have E:(ix wv.AG o).RW=false:=(by simp[CF]at g;exact g.2);by_cases e:(ix s.AG o).As=[]
     . exact e
     . have:=(h.l o hi).w e;rw[E]at this;simp at this
   . simp[Kb]at j;exact j.2.2
 rw[AAX X];by_cases k7:k=7∨k=11
 . rw[AAY k7];refine off ?_;rcases k7 with rfl|rfl<;>simp[CF]at g<;>exact g.1
 rw[AAX k7];by_cases k8:k=8
 . rw[AAY k8];subst k8;simp[CF]at g;simp[Kb]at j;have L:=h.l o g.1;dsimp only;applyλx=>h.Kc I M g.1 x (.inr (.inl rfl));refine⟨L.o,λ_=>⟨g.2,j.2.1⟩,Zc _,?_⟩;intro y q;have q:y∈(ix s.AG o).As++[t]:=(Pb _ y).1 q;rcases AAj.1 q with q|q
   . exact L.r y q
   . rw[AA4.1 q];exact G
 rw[AAX k8];by_cases k9:k=9
 . rw[AAY k9];subst k9;simp[CF]at g;have L:=h.l o g.1;dsimp only;applyλx=>h.Kc I M g.1 x (.inr (.inl rfl));exact⟨L.o,λP=>L.w λe=>P (by simp[e]),L.p.sublist List.filter_sublist,λy q=>L.r y (List.mem_filter.1 q).1⟩
 rw[AAX k9];by_cases R:k=12
 . rw[AAY R];exact⟨h.t,h.l,λ_=>G,h.b⟩
 rw[AAX R];by_cases S:k=13
 . rw[AAY S];exact⟨h.t,h.l,λh=>absurd rfl h,h.b⟩
 rw[AAX S];by_cases V:k=14
 . rw[AAY V];have N:=N (by omega);dsimp only;apply h.LB v m;exact⟨T.s,T.b,T.z,T.c,T.n,λ_=>by simp only;omega⟩
 rw[AAX V];by_cases W:k=15
 . rw[AAY W];dsimp only;apply h.LB v m;exact⟨T.s,T.b,T.z,T.c,T.n,λh=>by cases h⟩
 rw[AAX W];by_cases K:k=16
 . rw[AAY K];have H:Ee o wv.Af.length=true:=(by simpa[CF,K]using g);have d:=I o H;dsimp only;apply(off d).LB v m;refine⟨by simp,by simp[G],by simp,λ_=>⟨H,?_⟩,by simp,by simp⟩;show(ix (s.AG.set _ _) _).CW≠t;rw[Lw (by rw[M];exact d) (by rw[M];exact d),AAY rfl]
   have:=B9.1 m;simp only;omega
 rw[AAX K];by_cases C:k=17
 . rw[AAY C];have H:Ee o wv.Af.length=true:=(by simpa[CF,C]using g);have d:=I o H;have q:=h.LB v m (f:=λx=>⟨2,0,x.Atomic⟩) ⟨by simp,by simp[G],by simp,by simp,by simp,by simp⟩;refine q.Kc I M (f:=λx=>⟨t,x.As⟩) d ⟨λ_=>G,λP=> ?_,(h.l _ d).p,(h.l _ d).r⟩ (.inr (.inr ⟨m,?_⟩))
   . have E:=((h.l _ d).w P).1;rw[hq o H]at E;cases E
   . show(ix (s.AA.set t.toNat _) t).Status=2;rw[Lw (by rw[v];exact m) (by rw[v];exact m),AAY rfl]
 rw[AAX C];by_cases UR:k=18
 . rw[AAY UR];by_cases hW:Bz o 0 s.AA=[]
   . simp only[hW,AAs];exact h
   . simp only[hW,AAe];obtain⟨d1,Z⟩:=AAK v (nN (wake:=wake) hW);have D:=h.t _ d1;apply h.LB v d1;exact⟨by simp[Hv],by simp[Hv];exact D.b.2 (by omega),by simp[Hv],λ_=>D.c (.inl Z),by simp[Hv],by simp[Hv]⟩
 rw[AAX UR];by_cases jK:k=19
 . rw[AAY jK];refine⟨λu J=> ?_,h.l,h.x,h.b⟩;show TI wv B s.AG u (ix (s.AA.map (IM o)) u);rw[ix_map (by rw[v];exact J)];have U:=h.t u J;unfold IM;by_cases E:Ia (ix s.AA u) o=true
   . have Z:(ix s.AA u).Status=3:=(by unfold Ia at E;simp only[AAP]at E;exact eq_of_beq E.1);rw[AAY E];exact⟨by simp[Hv],by simp[Hv];exact U.b.2 (by omega),by simp[Hv],λ_=>U.c (.inl Z),by simp[Hv],by simp[Hv]⟩
   . rw[AAX E];exact U
 rw[AAX jK];by_cases F:k=20
 . rw[AAY F];have H:Ee o wv.AA.length=true:=(by simpa[CF,F]using g);have O:=h.t o H;have hs:(ix s.AA o).Status=0:=(by simp[Kb,F]at j;exact j.2.2);have nb:¬B o:=λh=>(by have:=O.b.1 h;omega);dsimp only;apply h.LB v H;exact⟨by simp,by simp[nb],by simp,by simp,λ_ _=>O.n (by omega) (by omega),λh=>by have:=O.a h;omega⟩
 rw[AAX F];by_cases Tk:k=22
 . rw[AAY Tk];exact⟨h.t,h.l,h.x,h.b⟩
 rw[AAX Tk];exact h
def begB (wv:AD) (c:List Int) (u:Int):Prop:=Ee u wv.AA.length=true/\1≤ix c u
structure WI (wv:AD) (pre:List AH) (s:AB):Prop where
 f:MJ wv s=true
 c:∀u,Ee u wv.AA.length=true->ix s.Count u=((OB pre u).length:Int)
 m:s.Count.sum=(pre.length:Int)
 y:YI wv (begB wv s.Count) s.Sync
 d:∀i,Ee i wv.AK.length=true->ix s.Sync.Bq i=false->ix s.AK i=0
theorem sum_set {l:List Int}:∀{i:Nat} {x:Int},i<l.length->(l.set i x).sum=l.sum+(x-l.getD i 0):=by
 induction l with
 |nil=>intro i x h;simp at h
 |cons a r ih=>
  intro i x h;cases i with
  |zero=>simp;omega
  |succ i=>have:=ih (i:=i) (x:=x) (by simpa using h);simp only[List.set_cons_succ,List.sum_cons,List.getD_cons_succ,this];omega
theorem V6 {b:Type} [Inhabited b] {n:Nat} {a:b} {i:Int} (h:Ee i n=true):ix (List.replicate n a) i=a:=by have:=B9.1 h;unfold ix;rw[List.getElem?_replicate,AAY (by omega)];rfl
theorem PK {wv:AD} (h:Ck wv=true):wv.Af.all (NY wv)=true/\1≤wv.AA.length:=by
 unfold Ck at h;simp only[AAP,AAf]at h;obtain⟨a,h⟩:=h;refine⟨?_,by omega⟩;split at h
 . simp only[AAP]at h;exact h.1.2
 . cases h
theorem Vk {wv:AD} (h:Ck wv=true):∀o,Ee o wv.Af.length=true->(ix wv.AG (ix wv.Af o).Mutex).RW=false:=by
 intro o c;have b:=(PK h).1
 have:=B9.1 c;have a:o.toNat<wv.Af.length:=by omega
 have:=AAU.1 b (ix wv.Af o) (by unfold ix;rw[AAT a];exact AAi a);unfold NY at this;simp only[AAP,ABU]at this;exact this.2
theorem WI.start {wv:AD} (h:Ck wv=true):WI wv [] (Gg wv):=by
 have l:=EC h;have b:=Vk h;have j:=(PK h).2;have d:∀u,¬begB wv (Gg wv).Count u:=λu ⟨a,k⟩=>by have:ix (Gg wv).Count u=0:=V6 a;omega
 have f:wv.Af.all (λc=>Ee c.Mutex wv.AG.length)=true:=by
  have b:=(PK h).1;refine AAU.2 λx g=> ?_
  have:=AAU.1 b x g;unfold NY at this;simp only[AAP]at this;exact this.1
 refine⟨?_,λu a=>V6 a,?_,⟨λu a=> ?_,λi hi=> ?_,λh=>absurd rfl h,λu a=>a.1⟩,λi hi _=>V6 hi⟩
 . unfold MJ G8 Gg Mj;simp[f]
 . show(List.replicate wv.AA.length (0:Int)).sum=0;induction wv.AA.length with
   |zero=>rfl
   |succ n ih=>rw[List.replicate_succ,List.sum_cons,ih];rfl
 . show TI wv _ _ u (ix ((List.replicate wv.AA.length (⟨0,0,false⟩:AE)).set (0:Int).toNat ⟨1,0,false⟩) u);rw[Lw (B9.2 (by simp;omega)) (by simpa using a)];by_cases e:u=0
   . rw[AAY e];exact⟨by simp,by simp[d],by simp,by simp,by simp,by simp⟩
   . rw[AAX e,V6 a];exact⟨by simp,by simp[d],λh=>absurd h e,by simp,by simp,by simp⟩
 . show LI wv _ i (ix (List.replicate wv.AG.length (⟨-1,[]⟩:AW)) i);rw[V6 hi];exact⟨by simp,by simp,by simp,by simp⟩
theorem WI.next {wv:AD} {f:List AH} {s:AB} {e:AH} (K:∀o,Ee o wv.Af.length=true->(ix wv.AG (ix wv.Af o).Mutex).RW=false) (h:WI wv f s) (N:f.length≤100000) (J:Kf wv s e=true):WI wv (f++[e]) (GL wv s e):=by
 have w:=J;unfold Kf at w;simp only[AAP]at w;obtain⟨I,l,r,_,_,_⟩:=w;obtain⟨x,F,t,v⟩:=Nn I;obtain⟨O,E,P⟩:=FA x;have L:=Ly f e.Thread;have B:=h.c e.Thread l;have D:Ap (ix s.Count e.Thread+1)=((OB f e.Thread).length:Int)+1:=by rw[B,DR (by omega) (by omega)]
 have q:∀u,Ee u wv.AA.length=true->ix (GL wv s e).Count u=if u=e.Thread then((OB f e.Thread).length:Int)+1 else ix s.Count u:=by intro u j;show ix (s.Count.set e.Thread.toNat _) u=_;rw[Lw (by rw[v];exact l) (by rw[v];exact j),D]
 refine⟨?_,λu j=> ?_,?_,?_,λi hi hd=> ?_⟩
 . have:=gA x e.Thread e.Kind e.Obj (if e.Kind=18 then e.Value else -1)
   unfold MJ GL;simp only[this,AA0,List.length_set,v,ABB,Bool.and_true,AAP,AAd];constructor
   . split<;>simp[F]
   . split<;>simp[t]
 . rw[q u j,NF];by_cases g:u=e.Thread
   . rw[AAY g,AAY g.symm];simp[g]
   . rw[AAX g,AAX (λh=>g h.symm),h.c u j]
 . show(s.Count.set e.Thread.toNat _).sum=_;have hi:=B9.1 l;have:ix s.Count e.Thread=s.Count.getD e.Thread.toNat 0:=(by unfold ix;rw[List.getD_eq_getElem?_getD];rfl);rw[sum_set (by omega),h.m,D,← this,B];simp;omega
 . refine(h.y.apply K r (wake:=if e.Kind=18 then e.Value else -1)).congr λu=> ?_
   constructor
   . rintro⟨j,n⟩;rw[q u j]at n;by_cases g:u=e.Thread
     . exact .inr g
     . rw[AAX g]at n;exact .inl ⟨j,n⟩
   . rintro(⟨j,n⟩|rfl)
     . refine⟨j,?_⟩;rw[q u j];split<;>omega
     . refine⟨l,?_⟩;rw[q _ l,AAY rfl];omega
 . unfold DC at r;simp only[AAP]at r;obtain⟨_,_,z,L⟩:=r;have G:(EN wv s.Sync e.Thread e.Kind e.Obj (if e.Kind=18 then e.Value else -1)).1.Bq=if e.Kind=22 then s.Sync.Bq.set e.Obj.toNat true else s.Sync.Bq:=by
    unfold EN;by_cases k:e.Kind=22
    . simp[k]
    . rw[AAX k,AAX k];have key:∀(p:Prop) [Decidable p] (a b:AN×Int),a.1.Bq=s.Sync.Bq->b.1.Bq=s.Sync.Bq->(if p then a else b).1.Bq=s.Sync.Bq:=by intro p _ a b z M;split<;>assumption
      repeat' refine key _ _ _ ?_ ?_
      all_goals first
       |rfl
       | (by_cases H:Bz e.Obj 0 s.Sync.AA=[]<;>simp only[H,AAs,AAe]<;>rfl)
   have hd:ix (if e.Kind=22 then s.Sync.Bq.set e.Obj.toNat true else s.Sync.Bq) i=false:=by rw[← G];exact hd
   show ix (if e.Kind=22 then s.AK.set e.Obj.toNat e.Value else s.AK) i=0
   by_cases k:e.Kind=22
   . rw[AAY k]at hd ⊢;have C:Ee e.Obj wv.AK.length=true:=(by simpa[CF,k]using z);rw[Lw (by rw[E];exact C) (by rw[E];exact hi)]at hd;rw[Lw (by rw[t];exact C) (by rw[t];exact hi)];by_cases g:i=e.Obj
     . rw[AAY g]at hd;cases hd
     . rw[AAX g]at hd ⊢;exact h.d i hi hd
   . rw[AAX k]at hd ⊢;exact h.d i hi hd
def Gw (t:Az) (n:Nat):AB:=(t.AF.take n).foldl (GL t.World) (Gg t.World)
theorem OH {t:Az} {n:Nat} (h:n<t.AF.length):Gw t (n+1)=GL t.World (Gw t n) t.AF[n]:=by unfold Gw;rw[← AAk h,List.foldl_append];rfl
theorem eU {t:Az} (d:Ck t.World=true) (g:t.AF.length≤400) (e:Hg t.World [] (Gg t.World) t.AF=(0,0)):∀n,n≤t.AF.length->WI t.World (t.AF.take n) (Gw t n)/\Hg t.World (t.AF.take n) (Gw t n) (t.AF.drop n)=(0,0):=by
 have f:=Vk d;intro n;induction n with
 |zero=>intro _;exact⟨WI.start d,e⟩
 |succ n ih=>
  intro hn;obtain⟨a,b⟩:=ih (by omega);rw[ABH (by omega),Hg]at b;split at b
  . rename_i c;rw[AAP]at c;rw[OH (by omega),← AAk (by omega)];exact⟨a.next f (by simp;omega) c.1,b⟩
  . exact absurd (congrArg Prod.snd b) (λh:(12:Int)=0=>by cases h)
def winS (t:Az) (size i:Nat):AO:=⟨t.World,(i:Int),Gw t i,(t.AF.drop i).take size⟩
structure WinF (w:AO):Prop where
 v:Ck w.World=true
 f:MJ w.World w.Init=true
 e:w.AF.length≤16
structure l7 (w:AO):Prop where
 s:Small w.World
 l:w.Init.Sync.AG.length=w.World.AG.length
 d:w.Init.Sync.Bq.length=w.World.AK.length
 t:w.Init.Sync.AA.length=w.World.AA.length
 u:w.Init.AK.length=w.World.AK.length
 c:w.Init.Count.length=w.World.AA.length
 m:∀o,Ee o w.World.Af.length=true->Ee (ix w.World.Af o).Mutex w.World.AG.length=true
theorem WinF.l {w:AO} (h:WinF w):l7 w:=by obtain⟨a,j,b,c⟩:=Nn h.f;obtain⟨e,g,i⟩:=FA a;exact⟨EC h.v,e,g,i,b,c,λo d=>HH a d⟩
theorem sL {c:Int}:∀(D:List Int) (a:Int),Gb c a D=true->∀k∈D,a<k/\k<c:=by
 intro D;induction D with
 |nil=>intro _ _ k b;cases b
 |cons x r ih=>
  intro a h k b;unfold Gb at h;simp only[AAP,AAf]at h;rcases AAp.1 b with rfl|b
  . exact⟨h.1,h.2.1⟩
  . have:=ih x h.2.2 k b;exact⟨by omega,this.2⟩
def CI (c:List Int) (nt:Nat) (pre:List AH) (s:AB):Prop:=s.Count.length=nt/\∀u,Ee u nt=true->ix s.Count u=ix c u+((OB pre u).length:Int)
theorem CI.next {wv:AD} {c:List Int} {nt:Nat} {a:List AH} {s:AB} (h:CI c nt a s) {x:AH} (b:Ee x.Thread nt=true) (f:∀u,Ee u nt=true->0≤ix c u/\ix c u≤400) (m:a.length≤1000):CI c nt (a++[x]) (GL wv s x):=by
 refine⟨by simpa[GL]using h.1,λu d=> ?_⟩;obtain⟨i,j⟩:=B9.1 b;obtain⟨k,l⟩:=B9.1 d;rw[NF];show ix (s.Count.set x.Thread.toNat (Ap (ix s.Count x.Thread+1))) u=_;have n:=f _ b;have g:=h.2 _ b;have hn:=Ly a x.Thread;by_cases e:x.Thread=u
 . subst e;rw[AAY rfl];unfold ix;rw[AAS (by have:=h.1;omega)];show Ap (ix s.Count x.Thread+1)=ix c x.Thread+_;rw[g,DR (by omega) (by omega)];simp only[AA1,AA7,ABR];omega
 . rw[AAX e,← h.2 u d];unfold ix;rw[AAV (by omega)]
section
variable {w:AO}
end
theorem nL (wv:AD) (l:List AH):∀a s,Hg wv a s l=(0,0)∨(Hg wv a s l).2=12/\(a.length:Int)≤(Hg wv a s l).1:=by
 induction l with
 |nil=>exactλ_ _=>.inl rfl
 |cons x r ih=>
  intro a s;unfold Hg;split
  . refine(ih (a++[x]) _).imp id λh=>⟨h.1,?_⟩
    have:=h.2;simp at this ⊢;omega
  . exact .inr ⟨rfl,by simp⟩
structure AT (t:Az):Prop where
 w:Ck t.World=true
 l:t.AF.length≤400
 c:Hg t.World [] (Gg t.World) t.AF=(0,0)
 e:∀e∈t.AF,S7 e
theorem AT.of {t:Az} (a:∀e∈t.AF,S7 e) (h:(Io t).2=0):AT t:=by
 unfold Io at h;split at h
 . cases h
 . split at h
   . rename_i c b;rcases nL t.World t.AF [] (Gg t.World)with hc|⟨hc,_⟩
     . exact⟨b,by omega,hc,a⟩
     . rw[hc]at h;cases h
   . cases h
theorem AT.check {t:Az} (h:AT t):Io t=(0,0):=by unfold Io;rw[AAX (by have:=h.l;omega),AAY h.w,h.c]
theorem AT.poss {t:Az} (h:AT t) {i:Nat} (hi:i<t.AF.length):Kf t.World (Gw t i) t.AF[i]=true:=by
 obtain⟨_,b⟩:=eU h.w h.l h.c i (by omega);rw[ABH hi,Hg]at b;split at b
 . rename_i a;rw[AAP]at a;exact a.1
 . exact absurd (congrArg Prod.snd b) (λh:(12:Int)=0=>by cases h)
theorem AT.rb {t:Az}:∀i,i≤t.AF.length->RB i (Gw t i).Sync
 |0,_=>RB.start _
 |i+1,hi=>by rw[OH (by omega)];exact(AT.rb i (by omega)).apply _ _ _ _ _
theorem AT.step {t:Az} (h:AT t) {i:Nat} (hi:i<t.AF.length):XV t.World (Gw t i) t.AF[i]=(Gw t (i+1),true):=by unfold XV;rw[AAY (h.poss hi),OH hi]
theorem AT.vstep {t:Az} (h:AT t) {i:Nat} (hi:i<t.AF.length):BQ t.World (Gw t i) t.AF[i]=some (Gw t (i+1),true):=by rw[qZ _ (EC h.w) _ ((AT.rb i (by omega)).mono (by have:=h.l;omega)) _ (h.e _ (AAi hi)),h.step hi]
theorem copyWorld_eq {wv:AD} (a:Small wv):IJ wv=some wv:=by have b:=a.c;have e:=a.l;have g:=a.d;have h:=a.f;have i:=a.t;have j:=a.s;unfold IJ Ig Ii Ih slices_Clone_string Ij;rw[BL (by omega),BL (by omega),BL (by omega),BL (by omega),BL (by omega),BL (by omega)];rfl
structure mG (s:AB):Prop where
 c:s.Cells.length≤100
 f:s.AK.length≤100
 n:s.Count.length≤100
 d:s.Sync.Bq.length≤100
 t:s.Sync.AA.length≤100
 l:s.Sync.AG.length≤100
 r:RB 1000000 s.Sync
theorem dX {s:AB} (h:mG s) (tx:Int) (D:List Bool) (T:List AE) (C F N:List Int):∀(n i:Nat),i≤s.Sync.AG.length->s.Sync.AG.length<n+i->Cy.Aa s n ⟨⟨s.Sync.AG.take i,tx,D,T⟩,C,F,N⟩ (i:Int)=some ⟨⟨s.Sync.AG,tx,D,T⟩,C,F,N⟩
 |0,i,h1,h2=>by omega
 |n+1,i,h1,h2=>by
  have a:=h.l;rw[Cy.Aa];unfold Cy.L1;by_cases hi:i<s.Sync.AG.length
  . have b:=h.r _ (AAi hi);unfold slices_Clone_int;rw[BC (by omega),CU hi,AAO,BL (by omega),AAO,BL (by simp;omega),Ao (by omega)];have e:s.Sync.AG.take i++[AW.mk s.Sync.AG[i].CW s.Sync.AG[i].As]=s.Sync.AG.take (i+1):=AAk hi;rw[e];exact dX h tx D T C F N n (i+1) (by omega) (by omega)
  . rw[Ac (by omega),AA3 (by omega)];rfl
theorem copySnap_eq {s:AB} (h:mG s):Cy s=some s:=by have a:=h.c;have b:=h.f;have e:=h.n;have g:=h.d;have i:=h.t;unfold Cy Eo slices_Clone_int HA EB;rw[BL (by omega),AAO,BL (by omega),AAO,BL (by omega),AAO,BL (by omega),AAO,BL (by omega),AAO];exact dX h _ _ _ _ _ _ BT 0 (by omega) (by have:=B1;have:=h.l;omega)
def q7 (e:AH):Prop:=e.D9.length≤1000/\e.Db.length≤1000
theorem Zm {l:List AH} (b:l.length≤1000) (h:∀e∈l,q7 e):∀(n i:Nat),i≤l.length->l.length<n+i->Dn.Aa l n (l.take i) (i:Int)=some l
 |0,i,h1,h2=>by omega
 |n+1,i,h1,h2=>by
  rw[Dn.Aa];unfold Dn.L1;by_cases hi:i<l.length
  . have a:=h _ (AAi hi);have c:=a.1;have d:=a.2;unfold slices_Clone_int;rw[BC (by omega),CU hi,AAO,BL (by omega),AAO,BL (by omega),AAO,BL (by simp;omega),Ao (by omega)];have e:l.take i++[AH.mk l[i].Thread l[i].Kind l[i].Obj l[i].Value l[i].Site l[i].D9 l[i].Db]=l.take (i+1):=AAk hi;rw[e];exact Zm b h n (i+1) (by omega) (by omega)
  . rw[Ac (by omega),AA3 (by omega)];rfl
theorem copyEvents_eq {l:List AH} (a:l.length≤1000) (h:∀e∈l,q7 e):Dn l=some l:=by unfold Dn;rw[AAY ⟨by omega,by omega,DK (by omega)⟩];exact Zm a h BT 0 (by omega) (by have:=B1;omega)
theorem yN {c:Int}:∀(D:List Int) (a:Int),a<c->Gb c a D=true->(D.length:Int)+a+1≤c:=by
 intro D;induction D with
 |nil=>intro a h _;simp;omega
 |cons x r ih=>
  intro a h hn;unfold Gb at hn;simp only[AAP,AAf]at hn
  have:=ih x hn.2.1 hn.2.2;simp only[AA7];omega
theorem AT.small {t:Az} (h:AT t) {i:Nat} (hi:i≤t.AF.length):mG (Gw t i):=by obtain⟨a,_⟩:=eU h.w h.l h.c i hi;obtain⟨e,g,j,k⟩:=Nn a.f;obtain⟨r,s,u⟩:=FA e;have b:=EC h.w;have m:=b.c;have n:=b.l;have o:=b.d;have p:=b.f;have q:=b.t;exact⟨by omega,by omega,by omega,by omega,by omega,by omega,(AT.rb i hi).mono (by have:=h.l;omega)⟩
theorem AT.ev {t:Az} (h:AT t) {e:AH} (m:e∈t.AF):q7 e:=by
 obtain⟨i,hi,rfl⟩:=List.getElem_of_mem m;obtain⟨a,_⟩:=eU h.w h.l h.c i (by omega);have b:=h.poss hi;have k:=a.c _ (Pc b);have n:=Ly (t.AF.take i) t.AF[i].Thread;have o:=h.l;rw[List.length_take_of_le (by omega)]at n;unfold Kf FN at b;simp only[AAP]at b;obtain⟨_,_,_,_,⟨⟨_,d⟩,_,f⟩,_⟩:=b;rw[k]at d f;have key:∀D:List Int,Gb ((OB (t.AF.take i) t.AF[i].Thread).length:Int) 0 D=true->D.length≤1000:=by
  intro D g;cases D with
  |nil=>simp
  |cons x r=>
   have j:0<((OB (t.AF.take i) t.AF[i].Thread).length:Int):=by have:=sL _ _ g x (by simp);omega
   have:=yN _ _ j g;omega
 exact⟨key _ d,key _ f⟩
def Uw (k i:Nat):Nat:=(i+k-1)/k
theorem winN_mul {k:Nat} (a:0<k) (q:Nat):Uw k (q*k)=q:=by unfold Uw;rw[show q*k+k-1=k*q+(k-1)from by rw[ABD];omega,Nat.mul_add_div a,Nat.div_eq_of_lt (by omega),Nat.add_zero]
theorem sN {k:Nat} (a:0<k) (q r:Nat) (b:0<r) (c:r≤k):Uw k (q*k+r)=q+1:=by unfold Uw;rw[show q*k+r+k-1=k*q+(r-1+k)from by rw[ABD];omega,Nat.mul_add_div a,Nat.add_div_right _ a,Nat.div_eq_of_lt (by omega)]
theorem winN_at {k i:Nat} (a:0<k) (h:i%k=0):Uw k (i+1)=Uw k i+1/\Uw k i*k=i:=by obtain⟨q,rfl⟩:∃q,i=q*k:=⟨i/k,by have:=ABW i k;rw[ABD];omega⟩;rw[winN_mul a,sN a q 1 (by omega) (by omega)];exact⟨rfl,rfl⟩
theorem winN_off {k i:Nat} (a:0<k) (h:i%k≠0):Uw k (i+1)=Uw k i:=by have b:=Nat.mod_lt i a;obtain⟨q,r,rfl,c,d⟩:∃q r,i=q*k+r/\0<r/\r<k:=⟨i/k,i%k,by have:=ABW i k;rw[ABD (i/k)];omega,by omega,b⟩;rw[sN a q _ (by omega) (by omega),Nat.add_assoc,sN a q _ (by omega) (by omega)]
theorem winN_le {k:Nat} (a:0<k) (i:Nat):Uw k i≤i+k:=by unfold Uw;exact ABO (Nat.div_le_self _ _) (by omega)
def PJ (t:Az) (k i:Nat):List AO:=(List.range (Uw k i)).map λj=>winS t k (j*k)
theorem Tm (t:Az) (k i:Nat):(PJ t k i).length=Uw k i:=by simp[PJ]
theorem range_snoc (n:Nat):List.range (n+1)=List.range n++[n]:=List.range_succ
theorem slice_eq {l:List AH} {i k:Nat} (hi:i≤l.length):(l.drop i).take (((if(l.length:Int)<(i:Int)+(k:Int)then(l.length:Int)else(i:Int)+(k:Int)).toNat)-i)=(l.drop i).take k:=by
 split
 . rw[AA3 (by simp),AA3 (by simp;omega)]
 . rw[show((i:Int)+(k:Int)).toNat-i=k from by omega]
theorem jD {t:Az} (h:AT t) {k:Nat} (a:0<k) (b:k≤16):∀(n i:Nat),i≤t.AF.length->t.AF.length<n+i->Df.Aa (k:Int) t n (PJ t k i) (Gw t i) (i:Int)=some (PJ t k t.AF.length,0)
 |0,i,h1,h2=>by omega
 |n+1,i,h1,h2=>by
  have j:=h.l;rw[Df.Aa];unfold Df.L1 Df.J2;by_cases hi:i<t.AF.length
  . have m:=winN_le a i;rw[BC (by omega),CU hi,AAO,AAY (by omega),h.vstep hi,AAO,Ao (by omega),← Int.ofNat_tmod,DR (n:=(i:Int)+(k:Int)) (by omega) (by omega)];by_cases g:i%k=0
    . obtain⟨c,d⟩:=winN_at a g;rw[AAY (by simp[g]),copyWorld_eq (EC h.w),AAO,copySnap_eq (h.small (by omega)),AAO,ABE,slice_eq (by omega),AAY (by split<;>omega),copyEvents_eq (by simp;omega) (λe f=>h.ev (List.mem_of_mem_drop (ABc f))),AAO,BL (by rw[Tm];omega)];have e:PJ t k i++[AO.mk t.World (i:Int) (Gw t i) ((t.AF.drop i).take k)]=PJ t k (i+1):=(by unfold PJ;rw[c,range_snoc,AA9,List.map_singleton,d];rfl);rw[e];exact jD h a b n (i+1) (by omega) (by omega)
    . rw[AAX (by simp;omega)];have e:PJ t k i=PJ t k (i+1):=(by unfold PJ;rw[winN_off a g]);rw[e];exact jD h a b n (i+1) (by omega) (by omega)
  . have:i=t.AF.length:=(by omega);subst this;rw[Ac (by omega)];rfl
def Ze (t:Az) (size:Int):List AO×Int:=if(Io t).2≠0 then([],12)else if size<1∨size>16 then([],1)else(PJ t size.toNat t.AF.length,0)
theorem Split_eq (t:Az) (f:∀e∈t.AF,S7 e) (n:Int):Df t n=some (Ze t n):=by
 unfold Df Ze;rw[Check_eq t f,AAO];by_cases a:(Io t).2=0
 . have h:=AT.of f a;rw[AAX (c:=((Io t).2 != 0)=true) (by simp[a]),AAX (c:=(Io t).2≠0) (by simp[a])];unfold Df.J1;by_cases b:n<1
   . rw[BC b,AAY rfl,AAY (.inl b)]
   . rw[Ac b];by_cases d:n>16
     . rw[AAY (by simpa using d),AAY (.inr d)]
     . rw[AAX (by simpa using d),AAX (by omega),MN _ (EC h.w),AAO]
       have:=jD h (k:=n.toNat) (by omega) (by omega) BT 0 (by omega) (by have:=B1;have:=h.l;omega);rw[show((n.toNat:Nat):Int)=n from by omega]at this;have e:PJ t n.toNat 0=[]:=(by unfold PJ;rw[show Uw n.toNat 0=0 from by unfold Uw;exact Nat.div_eq_of_lt (by omega)];rfl);rw[e]at this;exact this
 . rw[AAY (c:=((Io t).2 != 0)=true) (by simp[a]),AAY (c:=(Io t).2≠0) a]
theorem dW (l:List Int) (a:l.length≤1000000000):∀n i:Nat,i≤l.length->l.length<n+i->Cb.Aa l l n (i:Int)=some true
 |0,i,h1,h2=>by omega
 |n+1,i,h1,h2=>by
  rw[Cb.Aa];unfold Cb.L1;by_cases hi:i<l.length
  . rw[BC (by omega),CU hi,AAO,AAO,AAX (by simp),Ao (by omega)];exact dW l a n (i+1) (by omega) (by omega)
  . rw[Ac (by omega)];rfl
theorem Ti (l:List Int) (a:l.length≤1000000000):Cb l l=some true:=by unfold Cb;rw[AAX (by simp)];exact dW l a BT 0 (by omega) (by have:=B1;omega)
theorem Z4 (l:List Int) (a:l.length≤1000000000):∀n i:Nat,i≤l.length->l.length<n+i->Cs.Aa l l n (i:Int)=some true
 |0,i,h1,h2=>by omega
 |n+1,i,h1,h2=>by
  rw[Cs.Aa];unfold Cs.L1;by_cases hi:i<l.length
  . rw[BC (by omega),CU hi,AAO,AAO,AAX (by simp),Ao (by omega)];exact Z4 l a n (i+1) (by omega) (by omega)
  . rw[Ac (by omega)];rfl
theorem Z5 (l:List Int) (a:l.length≤1000000000):Cs l l=some true:=by unfold Cs;rw[AAX (by simp)];exact Z4 l a BT 0 (by omega) (by have:=B1;omega)
theorem Nq {L:Nat->Int->ABp Bool} {N:Nat} {R:ABp Bool} (b:∀(n i:Nat),i<N->L (n+1) (i:Int)=L n ((i+1:Nat):Int)) (a:∀n,L (n+1) (N:Int)=R):∀n i:Nat,i≤N->N<n+i->L n (i:Int)=R
 |0,i,h1,h2=>by omega
 |n+1,i,h1,h2=>by
  by_cases hi:i<N
  . rw[b n i hi];exact Nq b a n (i+1) (by omega) (by omega)
  . have:i=N:=(by omega);subst this;exact a n
theorem Same8_self {s:AN} (d:s.AG.length≤100) (e:s.Bq.length≤100) (f:s.AA.length≤100) (c:RB 1000000 s):Da s s=some true:=by
 have g:=B1;have b:Da.Gm s s BT 0=some true:=Nq (L:=Da.Gm s s) (N:=s.AA.length) (λn i hi=>by
  rw[Da.Gm];unfold Da.L3;rw[BC (by omega),CU hi,AAO,AAO,Ao (by omega)];simp) (λn=>by
  rw[Da.Gm];unfold Da.L3;rw[Ac (by omega)];rfl) BT 0 (by omega) (by omega)
 have a:Da.C2 s s BT 0=some true:=Nq (L:=Da.C2 s s) (N:=s.Bq.length) (λn i hi=>by
  rw[Da.C2];unfold Da.L2;rw[BC (by omega),CU hi,AAO,AAO,Ao (by omega)];simp) (λn=>by
  rw[Da.C2];unfold Da.L2;rw[Ac (by omega)];exact b) BT 0 (by omega) (by omega)
 unfold Da Da.J1;simp only[bne_self_eq_false,AAW,AAe];refine Nq (L:=Da.Aa s s) (N:=s.AG.length) (λn i hi=> ?_) (λn=>by rw[Da.Aa];unfold Da.L1;rw[Ac (by omega)];exact a) BT 0 (by omega) (by omega);rw[Da.Aa];unfold Da.L1 Da.J2;have h:=c _ (AAi hi);rw[BC (by omega),CU hi,AAO,AAO,AAX (by simp),Ti _ (by omega),AAO,Ao (by omega)];rfl
theorem qY {s:AB} (h:mG s):C6 s s=some true:=by have a:=h.c;have b:=h.f;have e:=h.n;unfold C6;rw[Same8_self h.l h.d h.t h.r,Z5 _ (by omega),Z5 _ (by omega),Ti _ (by omega)];rfl
theorem sW {e:AH} (h:q7 e):Fg e e=some true:=by unfold Fg;rw[Ti _ (by have:=h.1;omega),Ti _ (by have:=h.2;omega)];simp;rfl
theorem Zl (l:List AH) (a:l.length≤1000000) (h:∀e∈l,q7 e):∀n i:Nat,i≤l.length->l.length<n+i->Cq.Aa l l n (i:Int)=some true
 |0,i,h1,h2=>by omega
 |n+1,i,h1,h2=>by
  rw[Cq.Aa];unfold Cq.L1;by_cases hi:i<l.length
  . rw[BC (by omega),CU hi,AAO,AAO,sW (h _ (AAi hi)),AAO,AAX (by simp),Ao (by omega)];exact Zl l a h n (i+1) (by omega) (by omega)
  . rw[Ac (by omega)];rfl
theorem rJ (l:List AH) (a:l.length≤1000000) (h:∀e∈l,q7 e):Cq l l=some true:=by unfold Cq;rw[AAX (by simp)];exact Zl l a h BT 0 (by omega) (by have:=B1;omega)
end Go.Abs
namespace Go.Abs
theorem AAL:Ew=some true:=by decide +kernel
end Go.Abs
namespace Go.Abs
set_option maxHeartbeats 4000000
def D6 {α:Type} (o:ABp α) (Q:α->Prop):Prop:=∃r,o=some r/\Q r
theorem tR {a:Type} {r:a} {Q:a->Prop} (h:Q r):D6 (some r) Q:=⟨r,rfl,h⟩
theorem tB {a b:Type} {o:ABp a} {Q:a->Prop} {f:a->ABp b} {R:b->Prop} (h:D6 o Q) (k:∀x,Q x->D6 (f x) R):D6 (o.bind f) R:=by obtain⟨x,rfl,c⟩:=h;exact k x c
theorem tG {a b:Type} {l:List a} {i:Int} {f:a->ABp b} {R:b->Prop} (h:0≤i/\i<(l.length:Int)) (k:∀x,x∈l->D6 (f x) R):D6 ((gt l i).bind f) R:=by
 obtain⟨n,rfl⟩:∃n:Nat,i=n:=⟨i.toNat,by omega⟩;have hn:n<l.length:=by omega
 rw[CU hn,AAO];exact k _ (AAi hn)
theorem tC {b:Type} {p:Prop} [Decidable p] {a:ABp b} {R:b->Prop} (h:p) (k:D6 a R):D6 (if p then a else none) R:=by rw[AAY h];exact k
theorem tI {d:Type} {c:Bool} {a b:ABp d} {R:d->Prop} (e:c=true->D6 a R) (f:c=false->D6 b R):D6 (if c=true then a else b) R:=by
 cases c with
 |true=>simpa using e rfl
 |false=>simpa using f rfl
theorem tM {a:Type} {o:ABp a} {Q R:a->Prop} (h:D6 o Q) (k:∀x,Q x->R x):D6 o R:=by obtain⟨x,e,b⟩:=h;exact⟨x,e,k x b⟩
structure OG (t:EH):Prop where
 l:t.L.length≤4000000000000000000
 a:0≤t.At/\t.At≤t.L.length
 u:∀x∈t.L,0≤x/\x<256
theorem Kv {t:EH} (b:OG t) {n:Int} (hn:0<n/\n<1000):D6 (BU t n) λr=>(0≤r.1/\r.1<n)/\OG r.2:=by
 have e:=b.l;have f:=b.a;unfold BU BU.J1;rw[DR (n:=t.At+1) (by omega) (by omega),DR (n:=t.At+1-1) (by omega) (by omega)];refine tI (λ_=> ?_) λh=> ?_
 . exact tI (λ_=>tR ⟨⟨by omega,hn.1⟩,b⟩) λh=>by cases h
 . have d:¬t.At≥(t.L.length:Int):=(by simpa using h);refine tI (λh=>absurd (AAa h) (by omega)) λ_=> ?_;refine tG (by omega) λx c=>tC (by omega) (tR ⟨?_,b.l,by simp only;omega,b.u⟩);have c:=b.u x c;rw[DR (by omega) (by omega)];exact⟨Int.tmod_nonneg _ c.1,Int.tmod_lt_of_pos _ hn.1⟩
def qS:ABq:=⟨#[113]⟩
def vN:List ABq:=[⟨#[97]⟩,⟨#[98]⟩,⟨#[120]⟩,⟨#[121]⟩,⟨#[118]⟩]
theorem sK {l k:List ABq} (h:(l.all λx=>k.any λy=>decide (x=y))=true) {x:ABq} (c:x∈l):x∈k:=by obtain⟨y,a,b⟩:=List.any_eq_true.1 (AAU.1 h x c);rw[AAa b];exact a
theorem yH {x:ABq} (h:(vN.any λy=>decide (x=y))=true):x∈vN:=sK (l:=[x]) (by simpa using h) (AA4.2 rfl)
def Zw:Nat->A4->Prop
 |0,_=>False
 |n+1,e=>e.Op=1/\e.L=[]∨(e.Op=2/\e.L=[]/\e.Name∈vN)∨(e.Op=3/\e.Name=qS/\∃a,e.L=[a]/\Zw n a)∨(e.Op∈[(6:Int),7,8,11,13,17]/\∃a b,e.L=[a,b]/\Zw n a/\Zw n b)
theorem okE_mono {n:Nat}:∀{e:A4},Zw n e->Zw (n+1) e:=by
 induction n with
 |zero=>exactλh=>h.elim
 |succ n ih=>
  intro e h;rcases h with h|h|⟨c,d,a,f,g⟩|⟨c,a,b,d,f,g⟩
  . exact .inl h
  . exact .inr (.inl h)
  . exact .inr (.inr (.inl ⟨c,d,a,f,ih g⟩))
  . exact .inr (.inr (.inr ⟨c,a,b,d,ih f,ih g⟩))
def rC (m m':AM):Prop:=OG m'.t/\m'={m with t:=m'.t}
theorem nX {R:AM->Int->ABp (A4×AM)} {a:Int} {m:AM} {v:Int×EH} (d:OG v.2) (D:0≤v.1/\v.1<10) {c:Bool} {j:Nat}
 (h:c=false->7≤v.1->∀k f,(f=0∨f=Ap (a-1))->OG k.t->D6 (R k f) λr=>Zw j r.1/\rC k r.2):
 D6 (ED.J1 R a m v c) λr=>Zw (j+1) r.1/\rC m r.2:=by
 unfold ED.J1 Kh Ja JB;simp only[AAO];refine tI (λ_=> ?_) λw=>tI (λ_=> ?_) λl=> ?_
 . refine tB (Kv d (by omega)) ?_;rintro n ⟨_,b⟩;exact tR ⟨.inl ⟨rfl,rfl⟩,b,rfl⟩
 . refine tB (Kv d (by omega)) ?_;rintro n ⟨g,b⟩;exact tG g λx i=>tR ⟨.inr (.inl ⟨rfl,rfl,sK (by decide) i⟩),b,rfl⟩
 . have l:=of_decide_eq_false l;have h:=h w (by omega);refine tI (λ_=> ?_) λ_=> ?_
   . refine tB (h _ _ (.inl rfl) d) ?_;rintro e ⟨b,s,u⟩;exact tR ⟨.inr (.inr (.inl ⟨rfl,rfl,_,rfl,b⟩)),s,by rw[u]⟩
   . refine tB (Kv d (by omega)) ?_;rintro n ⟨g,b⟩;refine tG g λx i=>tB (h _ _ (.inr rfl) b) ?_;rintro e ⟨o,p,q⟩;refine tB (h _ _ (.inr rfl) p) ?_;rintro C ⟨y,z,B⟩;exact tR ⟨.inr (.inr (.inr ⟨i,_,_,rfl,o,y⟩)),z,by rw[B,q]⟩
theorem okE_le {a b:Nat} (h:a≤b) {e:A4} (c:Zw a e):Zw b e:=by
 induction h with
 |refl=>exact c
 |step _ ih=>exact okE_mono ih
theorem nW {n:Nat} {m:AM} (hn:0<n) (c:OG m.t):D6 (CT n m 0) λr=>Zw 1 r.1/\rC m r.2:=by
 obtain⟨n,rfl⟩:∃k,n=k+1:=⟨n-1,by omega⟩;show D6 (ED (CT n) m 0) _;unfold ED;refine tB (Kv c (by omega)) ?_;rintro v ⟨a,b⟩;refine tI (λ_=>nX b a (λh=>by cases h)) λ_=>tI (λ_=>nX b a λh d=> ?_) λh=> ?_
 . exact absurd (of_decide_eq_false h) (by omega)
 . simp at h
theorem expr_tot (d:Nat):∀(n:Nat) (m:AM),d<n->d<100->OG m.t->D6 (CT n m d) λr=>Zw (d+1) r.1/\rC m r.2:=by
 induction d with
 |zero=>exactλn m hn _ a=>nW hn a
 |succ d ih=>
  intro n m hn hd a;obtain⟨n,rfl⟩:∃k,n=k+1:=⟨n-1,by omega⟩;show D6 (ED (CT n) m _) _;unfold ED;refine tB (Kv a (by omega)) ?_;rintro v ⟨f,i⟩;have key:∀c,D6 (ED.J1 (CT n) ((d+1:Nat):Int) m v c) λr=>Zw (d+1+1) r.1/\rC m r.2:=by
   intro c;refine nX i f λ_ _ g j e b=> ?_;rcases e with rfl|rfl
   . exact tM (nW (by omega) b) λr h=>⟨okE_le (by omega) h.1,h.2⟩
   . rw[DR (by omega) (by omega),show((d+1:Nat):Int)-1=(d:Int)from by omega];exact ih n g (by omega) (by omega) b
  exact tI (λ_=>key _) λ_=>tI (λ_=>key _) λ_=>key _
theorem TD {m:AM} {d:Int} (hd:d=0∨d=1) (a:OG m.t):D6 (CT BT m d) λr=>Zw 2 r.1/\rC m r.2:=by
 have b:=B1;rcases hd with rfl|rfl
 . exact tM (nW (by omega) a) λr h=>⟨okE_le (by omega) h.1,h.2⟩
 . exact expr_tot 1 BT m (by omega) (by omega) a
theorem Yw (l:List ABq) (s:ABq) (d:l.length<1000000):D6 (Ca l s) λr=> -1≤r/\r<l.length:=by
 have c:=B1;have key:∀n (i:Nat),l.length<n+i->i≤l.length->D6 (Ca.Aa l s n i) λr=> -1≤r/\r<l.length:=by
  intro n;induction n with
  |zero=>intro i a b;omega
  |succ n ih=>intro i a b;unfold Ca.Aa Ca.L1 Ca.J1;refine tI (λh=> ?_) λ_=>tR (by omega);have h:=AAa h;refine tG (by omega) λx _=>tI (λ_=>tR (by omega)) λ_=> ?_;rw[Ao (by omega)];exact ih (i+1) (by omega) (by omega)
 exact key BT 0 (by omega) (by omega)
theorem dD {m:AM} (a:m.held.length<1000) (s:ABq):D6 (Dw m s) λr=>r.2=m:=by unfold Dw;exact tB (Yw _ _ (by omega)) λ_ _=>tR rfl
def cN:ABq:=⟨#[99]⟩
def noE:A4:=⟨0,0,⟨#[]⟩,[]⟩
def nmF (T:ABq->Prop) (o:Int) (s a:ABq) (i:List A4):Prop:=
 (o=1->i=[]->s∈vN)/\(o=4->s=⟨#[109]⟩∨s=⟨#[110]⟩)/\(o=5∨o=6->s=⟨#[114]⟩)/\(o=12∨o=13->T s)/\(o=14->s=⟨#[102]⟩)/\(o=15->s=⟨#[97]⟩/\a=⟨#[102]⟩)
def bdF (o:Int) (b e:List AP):Prop:=(o∉[(2:Int),3,4,5,6,7,8]->b=[])/\(o≠2->e=[])
def K8 (T:ABq->Prop):Nat->AP->Prop
 |0,_=>False
 |n+1,s=>(1≤s.Op/\s.Op≤15)/\(s.Index=[]∨s.Op=1/\s.Name=qS/\∃a,s.Index=[a]/\Zw 2 a)/\(Zw 2 s.Expr∨s.Op∉[(1:Int),2,3,14]/\s.Expr=noE)/\(s.Op∈[(9:Int),10,11]->s.Name=cN)/\
  s.Body.length≤4/\s.Else.length≤4/\(∀x∈s.Body,K8 T n x)/\(∀x∈s.Else,K8 T n x)/\bdF s.Op s.Body s.Else/\nmF T s.Op s.Name s.Arg s.Index
structure MK (H:Nat) (m:AM):Prop where
 t:OG m.t
 h:m.held.length≤H/\H≤500
structure MQ (m m':AM):Prop where
 t:OG m'.t
 h:m'.held=m.held
theorem rC.keep {m a:AM} (h:rC m a):MQ m a:=⟨h.1,by rw[h.2]⟩
theorem MQ.mk' {H:Nat} {m a:AM} (b:MK H m) (h:MQ m a):MK H a:=⟨h.t,by rw[h.h];exact b.h⟩
theorem MQ.trans {a b c:AM} (h:MQ a b) (g:MQ b c):MQ a c:=⟨g.t,g.h.trans h.h⟩
def okL (T:ABq->Prop) (k:Nat) (l:List AP):Prop:=l.length≤2/\∀x∈l,K8 T k x
theorem VL {T:ABq->Prop} {s:ABq} {e:A4} (h:Zw 2 e) (a:s∈vN) (k:Nat):K8 T (k+1) ⟨1,0,s,⟨#[]⟩,[],e,[],[]⟩:=⟨⟨by simp,by simp⟩,.inl rfl,.inl h,by simp,by simp,by simp,by simp,by simp,⟨λ_=>rfl,λ_=>rfl⟩,λ_ _=>a,by simp,by simp,by simp,by simp,by simp⟩
theorem cB {T:ABq->Prop} {o l:Int} {s a:ABq} (h:1≤o/\o≤15) (b:o∉[(1:Int),2,3,14]) (c:o∈[(9:Int),10,11]->s=cN) (d:nmF T o s a []) {k:Nat}:K8 T (k+1) ⟨o,l,s,a,[],noE,[],[]⟩:=
 ⟨h,.inl rfl,.inr ⟨b,rfl⟩,c,by simp,by simp,by simp,by simp,⟨λ_=>rfl,λ_=>rfl⟩,d⟩
theorem dF {T:ABq->Prop} {o l:Int} {s a:ABq} (i:o∈[(2:Int),3,4,5,6,7,8]) (h:1≤o/\o≤15) (d:o∉[(1:Int),2,3,14]) (e:o∉[(9:Int),10,11]) (f:nmF T o s a []) {k:Nat} {b:List AP} (g:b.length≤4) (c:∀x∈b,K8 T k x):K8 T (k+1) ⟨o,l,s,a,[],noE,b,[]⟩:=
 ⟨h,.inl rfl,.inr ⟨d,rfl⟩,λh=>absurd h e,g,by simp,c,by simp,⟨λh=>absurd i h,λ_=>rfl⟩,f⟩
section
variable {T:ABq->Prop} {R158:AM->ABq->Int->ABp (List AP×AM)} {R86:AM->Int->Int->ABp (List AP×AM)} {depth:Int} {nested:Bool} {k H:Nat}
structure Z2 (T:ABq->Prop) (R158:AM->ABq->Int->ABp (List AP×AM)) (R86:AM->Int->Int->ABp (List AP×AM)) (depth:Int) (k H:Nat):Prop where
 d:0≤depth/\depth<100
 b:0<depth->∀m s,MK H m->D6 (R158 m s (depth-1)) λr=>okL T (k+1) r.1/\MQ m r.2
 s:0<depth->∀m d n,MK H m->(d=0∨d=depth-1)->(n=1∨n=2)->D6 (R86 m d n) λr=>okL T (k+1) r.1/\MQ m r.2
abbrev Good (T:ABq->Prop) (k:Nat) (m:AM) (r:AP×AM):Prop:=K8 T (k+2) r.1/\MQ m r.2
theorem J12_tot {m:AM} (a:MK H m) (b:Bool):D6 (BW.J12 m b) (Good T k m):=by unfold BW.J12 Fh;refine tI (λ_=>tR ⟨cB (by decide) (by decide) (by decide) (by simp[nmF]),a.t,rfl⟩) λ_=> ?_;refine tB (TD (.inr rfl) a.t) ?_;rintro e ⟨c,d⟩;exact tR ⟨VL c (yH (by decide)) _,d.keep⟩
theorem sH {m:AM} (a:MK H m) (v:Int×EH) (b:Bool):D6 (BW.jJ m v b) (Good T k m):=by
 unfold BW.jJ;refine tI (λ_=> ?_) λ_=>tI (λ_=>tI (λ_=> ?_) λ_=>J12_tot a _) λ_=>J12_tot a _
 . refine tB (TD (.inr rfl) a.t) ?_;rintro e ⟨d,c⟩;exact tR ⟨⟨⟨by simp,by simp⟩,.inl rfl,.inl d,by simp,by simp,by simp,by simp,by simp,⟨λ_=>rfl,λ_=>rfl⟩,by simp[nmF]⟩,c.1,by rw[c.2]⟩
 . refine tB (Kv a.t (by omega)) ?_;rintro e ⟨_,c⟩;exact tM (J12_tot (k:=k) (m:={m with t:=e.2}) ⟨c,a.h⟩ _) λr h=>⟨h.1,h.2.t,h.2.h⟩
theorem J10_tot {m:AM} (a:MK H m) (v:Int×EH) (b:Bool):D6 (BW.Th v m b) (Good T k m):=by unfold BW.Th;refine tI (λ_=> ?_) λ_=>tI (λ_=>tI (λ_=>tI (λ_=>sH a _ _) λ_=>sH a _ _) λ_=>sH a _ _) λ_=>sH a _ _;refine tB (Kv a.t (by omega)) ?_;rintro e ⟨f,d⟩;refine tR ⟨dF (by decide) (by decide) (by decide) (by decide) (by simp[nmF]) (by simp) ?_,d,rfl⟩;intro x c;simp only[AA4]at c;subst c;rw[DR (by omega) (by omega)];refine cB (by omega) ?_ (λ_=>rfl) ⟨by omega,by omega,by omega,by omega,by omega,by omega⟩;simp;omega
theorem J9_tot {m:AM} (a:MK H m) (v:Int×EH) (b:Bool):D6 (BW.J9 nested v m b) (Good T k m):=by
 unfold BW.J9 Ja Fh;refine tI (λ_=> ?_) λ_=>tI (λ_=>tI (λ_=> ?_) λ_=>J10_tot a _ _) λ_=>J10_tot a _ _
 . simp only[AAO];refine tR ⟨dF (by decide) (by decide) (by decide) (by decide) (by simp[nmF]) (by simp) ?_,a.t,rfl⟩;intro x c;simp only[AAp,ABn,ABd]at c;rcases c with rfl|rfl
   . exact cB (by decide) (by decide) (λ_=>rfl) (by simp[nmF])
   . exact VL (.inr (.inl ⟨rfl,rfl,yH (by decide)⟩)) (yH (by decide)) _
 . refine tB (dD (by have:=a.h;omega) _) ?_;rintro e rfl;exact J10_tot a _ _
theorem J8_tot (g:Z2 T R158 R86 depth k H) (hn:nested=true->0<depth) {m:AM} (a:MK H m) (v:Int×EH) {b:Bool} (i:b=true->0<depth):D6 (BW.J8 R86 depth m nested v b) (Good T k m):=by
 have hd:=g.d;unfold BW.J8;refine tI (λh=> ?_) λ_=>tI (λ_=>tI (λ_=>tI (λ_=> ?_) λ_=>J9_tot a _ _) λ_=>J9_tot a _ _) λ_=>J9_tot a _ _
 . refine tB (g.s (i h) _ _ _ ⟨a.t,a.h⟩ (.inr (DR (by omega) (by omega))) (.inr rfl)) ?_;rintro e ⟨c,f⟩;exact tR ⟨dF (by decide) (by decide) (by decide) (by decide) (by simp[nmF]) (by have:=c.1;omega) c.2,f.t,f.h⟩
 . refine tB (dD (by have:=a.h;omega) _) ?_;rintro e rfl;exact J9_tot a _ _
theorem J7_tot (d:Z2 T R158 R86 depth k H) (hn:nested=true->0<depth) {m:AM} (a:MK H m) (v:Int×EH) {b:Bool} (i:b=true->0<depth):D6 (BW.J7 R86 depth m nested v b) (Good T k m):=by unfold BW.J7;refine tI (λh=> ?_) λ_=>tI (λ_=>tI (λh=>J8_tot d hn a _ λ_=>hn h) λ_=>J8_tot d hn a _ (by simp)) λ_=>J8_tot d hn a _ (by simp);refine tB (Kv a.t (by omega)) ?_;rintro g ⟨j,c⟩;refine tB (d.s (i h) {m with t:=g.2,tx:=true} _ _ ⟨c,a.h⟩ (.inl rfl) (by rw[DR (by omega) (by omega)];omega)) ?_;rintro e ⟨c,f⟩;exact tR ⟨dF (by decide) (by decide) (by decide) (by decide) (by simp[nmF]) (by have:=c.1;omega) c.2,f.t,f.h⟩
theorem J6_tot (c:Z2 T R158 R86 depth k H) (hn:nested=true->0<depth) {m:AM} (f:MK H m) (v:Int×EH) {b:Bool} (l:b=true->0<depth/\(v.1=10∨v.1=11)):D6 (BW.J6 R158 R86 depth nested v m b) (Good T k m):=by have hd:=c.d;unfold BW.J6;refine tI (λh=> ?_) λ_=>tI (λ_=>J7_tot c hn f _ hn) λ_=>J7_tot c hn f _ (by simp);obtain⟨j,a⟩:=l h;rw[DR (n:=depth-1) (by omega) (by omega)];refine tB (c.b j m _ f) ?_;rintro e ⟨g,i⟩;refine tR ⟨?_,i⟩;rcases a with a|a<;>rw[a]<;>exact dF (by decide) (by decide) (by decide) (by decide) (by first| (rw[show Ap (Ap ((10:Int)-10)+5)=5 from rfl];simp[nmF])| (rw[show Ap (Ap ((11:Int)-10)+5)=6 from rfl];simp[nmF])) (by have:=g.1;omega) g.2
theorem J5_tot (f:Z2 T R158 R86 depth k H) (hn:nested=true->0<depth) {m:AM} (a:MK H m) (v:Int×EH) {b:Bool} (t:b=true->0<depth/\(v.1=8∨v.1=9)):D6 (BW.J5 R158 R86 depth nested v m b) (Good T k m):=by
 have hd:=f.d;have w:=a.h;have o:∀{c:Bool} {i:Int},(v.1==i)=true->(i=10∨i=11)->nested=true->c=true->0<depth/\(v.1=10∨v.1=11):=λg r s _=>⟨hn s,by have:=eq_of_beq g;omega⟩;unfold BW.J5;refine tI (λh=> ?_) λ_=>tI (λj=>tI (λl=> ?_) λ_=>J6_tot f hn a _ (by simp)) λ_=>tI (λj=>tI (λl=> ?_) λ_=>J6_tot f hn a _ (by simp)) λ_=>J6_tot f hn a _ (by simp)
 . obtain⟨g,r⟩:=t h;rw[DR (n:=depth-1) (by omega) (by omega),DR (by omega) (by omega)];refine tG (by simp;omega) λx u=>tB (f.b g m _ a) ?_;rintro e ⟨p,q⟩;exact tR ⟨dF (by decide) (by decide) (by decide) (by decide) ⟨by simp,λ_=>by simpa using u,by simp,by simp,by simp,by simp⟩ (by have:=p.1;omega) p.2,q⟩
 all_goals
  refine tB (dD (by omega) _) ?_;rintro e rfl;exact J6_tot f hn a _ (o j (by omega) l)
theorem J4_tot (a:Z2 T R158 R86 depth k H) (hn:nested=true->0<depth) {m:AM} (l:MK H m) {v:Int×EH} (u:OG v.2) {b:Bool} (C:b=true->0<depth):D6 (BW.J4 R158 R86 depth m nested v b) (Good T k m):=by
 have hd:=a.d;have F:=l.h;have o:∀{c:Bool} {i:Int},(v.1==i)=true->(i=8∨i=9)->nested=true->c=true->0<depth/\(v.1=8∨v.1=9):=λy E z _=>⟨hn z,by have:=eq_of_beq y;omega⟩;have g:MK H (AM.mk v.2 m.BV (Ap (m.left-1)) m.HY m.tx m.atomic m.loop m.held):=⟨u,l.h⟩;have w:∀{r:AP×AM},Good T k (AM.mk v.2 m.BV (Ap (m.left-1)) m.HY m.tx m.atomic m.loop m.held) r->Good T k m r:=λh=>⟨h.1,h.2.t,h.2.h⟩;unfold BW.J4;refine tI (λh=> ?_) λ_=>tI (λj=>tI (λn=> ?_) λ_=>tM (J5_tot a hn g _ (by simp)) λ_=>w) λ_=>tI (λj=>tI (λn=> ?_) λ_=>tM (J5_tot a hn g _ (by simp)) λ_=>w) λ_=>tM (J5_tot a hn g _ (by simp)) λ_=>w
 . unfold Ja Kh JB Fh;simp only[AAO];refine tB (a.s (C h) _ _ _ ⟨u,l.h⟩ (.inr (DR (by omega) (by omega))) (.inl rfl)) ?_;rintro e ⟨p,q⟩
   have:=p.1;refine tC (DK (by omega)) (tR ⟨⟨by simp,.inl rfl,.inl ?_,by simp,by simp;omega,by simp,?_,by simp,⟨λh=>absurd (by simp) h,λ_=>rfl⟩,by simp[nmF]⟩,q.t,q.h⟩)
   . exact .inr (.inr (.inr ⟨by simp,_,_,rfl,.inr (.inl ⟨rfl,rfl,yH (by decide)⟩),.inl ⟨rfl,rfl⟩⟩))
   . intro x f;rcases AAj.1 f with f|f
     . exact p.2 x f
     . simp only[AA4]at f;subst f;exact VL (.inr (.inr (.inr ⟨by decide,_,_,rfl,.inr (.inl ⟨rfl,rfl,yH (by decide)⟩),.inl ⟨rfl,rfl⟩⟩))) (yH (by decide)) _
 all_goals
  have B:=eq_of_beq j;rw[B];refine tG (by decide) λx _=>tB (dD (by simpa using by omega) _) ?_;rintro e D;rw[D];exact tM (J5_tot a hn g _ (o j (by omega) n)) λ_=>w
theorem J2_tot (a:Z2 T R158 R86 depth k H) (hn:nested=true->0<depth) {m:AM} (f:MK H m) {v:Int×EH} (g:OG v.2) {b:Bool} (z:b=true->0<depth):D6 (BW.J2 R158 R86 depth m nested v b) (Good T k m):=by have hd:=a.d;unfold BW.J2 BW.J3;refine tI (λh=> ?_) λ_=>tI (λ_=>J4_tot a hn f g λh=>by simpa using h) λ_=>J4_tot a hn f g (by simp);have h:=z h;refine tB (TD (.inr rfl) (m:=AM.mk v.2 m.BV (Ap (m.left-1)) m.HY m.tx m.atomic m.loop m.held) g) ?_;rintro e ⟨o,y⟩;have p:=y.keep;have u:MK H (AM.mk v.2 m.BV (Ap (m.left-1)) m.HY m.tx m.atomic m.loop m.held):=⟨g,f.h⟩;rw[DR (n:=depth-1) (by omega) (by omega)];refine tB (a.s h _ _ _ (MQ.mk' u p) (.inr rfl) (.inl rfl)) ?_;rintro w ⟨⟨w,j⟩,q⟩;refine tB (Kv q.t (by omega)) ?_;rintro c ⟨_,l⟩;have i:=q.h.trans p.h;refine tI (λ_=> ?_) λ_=>tR ⟨⟨by simp,.inl rfl,.inl o,by simp,by simp;omega,by simp,j,by simp,⟨λh=>absurd (by simp) h,λ_=>rfl⟩,by simp[nmF]⟩,l,i⟩;refine tB (a.s h _ _ _ ⟨l,by rw[show _=m.held from i];exact f.h⟩ (.inr rfl) (.inl rfl)) ?_;rintro d ⟨⟨d1,x⟩,r⟩;exact tR ⟨⟨by simp,.inl rfl,.inl o,by simp,by simp;omega,by simp;omega,j,x,⟨λh=>absurd (by simp) h,λh=>absurd rfl h⟩,by simp[nmF]⟩,r.t,r.h.trans i⟩
theorem J1_tot (n:Z2 T R158 R86 depth k H) (hn:nested=true->0<depth) {m:AM} (f:MK H m) {v:Int×EH} (r:0≤v.1) (d:OG v.2):D6 (BW.J1 R158 R86 depth m v nested) (Good T k m):=by
 have j:MK H (AM.mk v.2 m.BV (Ap (m.left-1)) m.HY m.tx m.atomic m.loop m.held):=⟨d,f.h⟩;unfold BW.J1 Fh;refine tI (λh=> ?_) λ_=>tI (λ_=> ?_) λ_=>tI (λ_=> ?_) λ_=>tI (λ_=>J2_tot n hn f d λh=>by simpa using h) λ_=>J2_tot n hn f d (by simp)
 . have h:=AAa h;refine tG (by simp;omega) λx i=>tB (TD (.inr rfl) j.t) ?_;rintro e ⟨b,a⟩;exact tR ⟨VL b (sK (by decide) i) _,a.keep.t,a.keep.h⟩
 . refine tB (Kv d (by omega)) ?_;rintro c ⟨o,p⟩;refine tG o λx i=>tB (TD (.inr rfl) p) ?_;rintro e ⟨b,a⟩;exact tR ⟨VL b (sK (by decide) i) _,a.keep.t,a.keep.h⟩
 . refine tB (TD (.inl rfl) j.t) ?_;rintro e ⟨b,a⟩;refine tB (TD (.inr rfl) a.keep.t) ?_;rintro g ⟨q,l⟩;exact tR ⟨⟨by simp,.inr ⟨rfl,rfl,_,rfl,b⟩,.inl q,by simp,by simp,by simp,by simp,by simp,⟨λ_=>rfl,λ_=>rfl⟩,by simp[nmF]⟩,l.keep.t,l.keep.h.trans a.keep.h⟩
theorem stmt_tot (b:Z2 T R158 R86 depth k H) {m:AM} (a:MK H m):D6 (BW R158 R86 m depth) (Good T k m):=by unfold BW;refine tB (Kv a.t (by omega)) ?_;rintro v ⟨c,d⟩;exact tI (λh=>tI (λ_=>J1_tot b (λ_=>by simpa using h) a c.1 d) λ_=>J1_tot b (by simp) a c.1 d) λ_=>J1_tot b (by simp) a c.1 d
end
section
variable {T:ABq->Prop}
theorem stmts_tot {R:AM->Int->ABp (AP×AM)} {a:Int} {k H:Nat} (w:∀m,MK H m->D6 (R m a) λr=>K8 T k r.1/\MQ m r.2) {m:AM} (p:MK H m) {c:Int} (hn:0≤c/\c≤3):
 D6 (DM R m a c) λr=>((r.1.length:Int)≤c/\∀x∈r.1,K8 T k x)/\MQ m r.2:=by
 have o:=B1;have key:∀n (i:Nat) (f:AM) (l:List AP),10<n+i->(i:Int)≤c->l.length≤i->(∀x∈l,K8 T k x)->MQ m f->D6 (DM.Aa R a c n f l i) λr=>((r.1.length:Int)≤c/\∀x∈r.1,K8 T k x)/\MQ m r.2:=by
  intro n;induction n with
  |zero=>intro i f l u v;omega
  |succ n ih=>
   intro i f l u v y j g;have J:∀b,(b=true->(i:Int)<c)->D6 (DM.J1 (DM.Aa R a c n) R a i l f b) λr=>((r.1.length:Int)≤c/\∀x∈r.1,K8 T k x)/\MQ m r.2:=by
    intro b o;unfold DM.J1 DM.J2;refine tI (λh=> ?_) λ_=>tR ⟨⟨by simp only;omega,j⟩,g⟩;have h:=o h;refine tB (w _ (MQ.mk' p g)) ?_;rintro e ⟨q,s⟩;refine tC (DK (by omega)) ?_;rw[Ao (by omega)];refine ih (i+1) _ _ (by omega) (by omega) (by simp;omega) ?_ (g.trans s);intro x d;rcases AAj.1 d with d|d
    . exact j x d
    . simp only[AA4]at d;subst d;exact q
   unfold DM.Aa DM.L1;exact tI (λh=>tI (λ_=>J _ λ_=>by simpa using h) λ_=>J _ λ_=>by simpa using h) λ_=>J _ (by simp)
 exact key BT 0 m [] (by omega) (by omega) (by simp) (by simp) ⟨p.t,rfl⟩
theorem okS_mono {n:Nat}:∀{s:AP},K8 T n s->K8 T (n+1) s:=by
 induction n with
 |zero=>exactλh=>h.elim
 |succ n ih=>exactλ⟨h1,h2,h3,h4,h5,h6,h7,h8,h9⟩=>⟨h1,h2,h3,h4,h5,h6,λx a=>ih (h7 x a),λx a=>ih (h8 x a),h9⟩
theorem okS_le {a b:Nat} (h:a≤b) {s:AP} (c:K8 T a s):K8 T b s:=by
 induction h with
 |refl=>exact c
 |step _ ih=>exact okS_mono ih
theorem block_tot {R86:AM->Int->Int->ABp (List AP×AM)} {d:Int} {k H:Nat} {m:AM} (b:MK H m) (i:H<500) (s:ABq)
 (h:∀m n,MK (H+1) m->(n=1∨n=2)->D6 (R86 m d n) λr=>okL T k r.1/\MQ m r.2):D6 (IB R86 m s d) λr=>okL T k r.1/\MQ m r.2:=by
 have j:=b.h;unfold IB;refine tC (DK (by omega)) (tB (Kv b.t (by omega)) ?_);rintro v ⟨l,g⟩;refine tB (h (AM.mk v.2 m.BV m.left m.HY m.tx m.atomic m.loop (m.held++[s])) _ ⟨g,by simp;omega⟩ (by rw[DR (by omega) (by omega)];omega)) ?_;rintro e ⟨c,a⟩;have f:e.2.held=m.held++[s]:=a.h;simp only[f,AA1,AA7,ABR];rw[DR (by omega) (by omega)];refine tC (by omega) (tR ⟨c,a.t,?_⟩);show(m.held++[s]).take _=m.held;rw[show(((m.held.length+(0+1):Nat):Int)-1).toNat=m.held.length from by omega,List.take_left]
theorem made0_tot {H n:Nat} (c:H<500) (d:3≤n):
 (∀m,MK H m->D6 (ID n m (0:Nat)) (Good T 0 m))/\∀m a,MK H m->0≤a/\a≤3->D6 (FP (n+1) m (0:Nat) a) λr=>((r.1.length:Int)≤a/\∀x∈r.1,K8 T 2 x)/\MQ m r.2:=by
 have key:∀m,MK H m->D6 (ID n m (0:Nat)) (Good T 0 m):=by intro m b;obtain⟨n,rfl⟩:∃k,n=k+1:=⟨n-1,by omega⟩;exact stmt_tot (R158:=La n) (R86:=FP n) (H:=H) ⟨by omega,λh=>by simp at h,λh=>by simp at h⟩ b
 exact⟨key,λm a b hn=>stmts_tot (R:=ID n) key b hn⟩
theorem made_tot (d:Nat):∀(H n:Nat),d<50->H+d<500->3*d+3≤n->
 (∀m,MK H m->D6 (ID n m d) (Good T d m))/\∀m a,MK H m->0≤a/\a≤3->D6 (FP (n+1) m d a) λr=>((r.1.length:Int)≤a/\∀x∈r.1,K8 T (d+2) x)/\MQ m r.2:=by
 induction d with
 |zero=>exactλH n _ g i=>made0_tot (by omega) (by omega)
 |succ d ih=>
  intro H n p g i;have sub:∀(f c:Nat) (m:AM) (e a:Int),f≤H+1->3*d+4≤c->MK f m->(e=0∨e=((d+1:Nat):Int)-1)->(a=1∨a=2)->D6 (FP c m e a) λr=>okL T (d+2) r.1/\MQ m r.2:=by
   intro f c m e a l o b hd hn;obtain⟨c,rfl⟩:∃k,c=k+1:=⟨c-1,by omega⟩;rcases hd with rfl|rfl
   . exact tM ((made0_tot (n:=c) (by omega) (by omega)).2 m a b (by omega)) λr h=>⟨⟨by have:=h.1.1;omega,λx j=>okS_le (by omega) (h.1.2 x j)⟩,h.2⟩
   . rw[show((d+1:Nat):Int)-1=(d:Int)from by omega];exact tM ((ih f c (by omega) (by omega) (by omega)).2 m a b (by omega)) λr h=>⟨⟨by have:=h.1.1;omega,h.1.2⟩,h.2⟩
  have key:∀m,MK H m->D6 (ID n m (d+1:Nat)) (Good T (d+1) m):=by
   intro m b;obtain⟨n,rfl⟩:∃k,n=k+2:=⟨n-2,by omega⟩;refine stmt_tot (R158:=La (n+1)) (R86:=FP (n+1)) (H:=H) (k:=d+1) ⟨by omega,λ_ m s b=> ?_,λ_ m e a b hd hn=> ?_⟩ b
   . exact block_tot (R86:=FP n) b (by omega) s λm a b hn=>sub (H+1) n m _ a (by omega) (by omega) b (.inr rfl) hn
   . exact sub H (n+1) m e a (by omega) (by omega) b hd hn
  exact⟨key,λm a b hn=>stmts_tot (R:=ID n) key b hn⟩
end
section
variable {T:ABq->Prop}
abbrev TT {α:Type} (o:ABp α):Prop:=D6 o λ_=>True
theorem tD {c:Type} {p:Prop} [Decidable p] {a b:ABp c} {R:c->Prop} (d:p->D6 a R) (e:¬p->D6 b R):D6 (if decide p=true then a else b) R:=by
 by_cases h:p
 . simpa[h]using d h
 . simpa[h]using e h
theorem NN {a b:Type} {o:ABp a} {f:a->ABp b} {R:b->Prop} (h:TT o) (k:∀x,D6 (f x) R):D6 (o.bind f) R:=tB h λx _=>k x
theorem tE {a b:Type} {o:ABp a} {y:a} {f:a->ABp b} {R:b->Prop} (h:o=some y) (k:D6 (f y) R):D6 (o.bind f) R:=by rw[h];exact k
theorem jM {a b:Type} {l:List a} {i:Nat} {f:a->ABp b} {R:b->Prop} (h:i<l.length) (k:D6 (f l[i]) R):D6 ((gt l (i:Int)).bind f) R:=by rw[CU h];exact k
theorem tL {b:Type} {Q:b->Prop} (N:Nat) {F:Nat->Int->ABp b} (e:N<1000000000000) (h:∀n (i:Nat),i≤N->(i<N->D6 (F n (Ap (i+1))) Q)->D6 (F (n+1) i) Q):D6 (F BT 0) Q:=by
 have f:=B1;have key:∀n (i:Nat),N<n+i->i≤N->D6 (F n i) Q:=by
  intro n;induction n with
  |zero=>intro i c a;omega
  |succ n ih=>intro i c a;refine h n i a λd=> ?_;rw[Ao (by omega)];exact ih (i+1) (by omega) d
 exact key BT 0 (by omega) (by omega)
theorem tLk {σ c:Type} {Q:c->Prop} (N j:Nat) (I:Nat->σ->Prop) {F:Nat->σ->Int->ABp c} (m:N<1000000000000) (l:j≤N) {s0:σ} (d:I j s0)
 (h:∀n (i:Nat) s,i≤N->I i s->(∀a,i<N->I (i+1) a->D6 (F n a (Ap (i+1))) Q)->D6 (F (n+1) s i) Q):D6 (F BT s0 j) Q:=by
 have o:=B1;have key:∀n (i:Nat) s,N<n+i->i≤N->I i s->D6 (F n s i) Q:=by
  intro n;induction n with
  |zero=>intro i s e b;omega
  |succ n ih=>intro i s e b f;refine h n i s b f λa g k=> ?_;rw[Ao (by omega)];exact ih (i+1) a (by omega) g k
 exact key BT j s0 (by omega) l d
theorem XN {σ b:Type} {Q:b->Prop} (N:Nat) (I:Nat->σ->Prop) {F:Nat->σ->Int->ABp b} (d:N<1000000000000) {s0:σ} (c:I 0 s0)
 (h:∀n (i:Nat) s,i≤N->I i s->(∀a,i<N->I (i+1) a->D6 (F n a (Ap (i+1))) Q)->D6 (F (n+1) s i) Q):D6 (F BT s0 0) Q:=tLk N 0 I d (by omega) c h
theorem WO (s:ABq):TT (Bp s):=⟨_,QP s,trivial⟩
def dE:Nat->A4->Prop
 |0,_=>False
 |n+1,e=>e.L.length≤2/\∀x∈e.L,dE n x
theorem Zw.d {n:Nat}:∀{e:A4},Zw n e->dE n e:=by
 induction n with
 |zero=>exactλh=>h.elim
 |succ n ih=>
  intro e h;rcases h with⟨_,h⟩|⟨_,h,_⟩|⟨_,_,a,h,c⟩|⟨_,a,b,h,c,f⟩<;>refine⟨by simp[h],?_⟩<;>rw[h]<;>simp
  . exact ih c
  . exact⟨ih c,ih f⟩
theorem K8.e {n:Nat} {s:AP} (h:K8 T n s):dE 2 s.Expr:=by
 cases n with
 |zero=>exact h.elim
 |succ n=>
  rcases h.2.2.1 with h|⟨_,h⟩
  . exact h.d
  . rw[h];exact⟨by simp[noE],by simp[noE]⟩
theorem K8.i {n:Nat} {s:AP} (h:K8 T n s):s.Index=[]∨∃a,s.Index=[a]/\dE 2 a:=by
 cases n with
 |zero=>exact h.elim
 |succ n=>exact h.2.1.imp id λ⟨_,_,a,h,k⟩=>⟨a,h,k.d⟩
theorem zO (d:EM):TT (Dc d):=by
 have a:∀b,TT (Dc.J2 d b):=by
  intro b;unfold Dc.J2 Dc.J3
  repeat' first|exact tR trivial|refine tI (λ_=> ?_) λ_=> ?_
 have j1:∀b,TT (Dc.J1 d b):=by
  intro b;unfold Dc.J1
  repeat' first|exact tR trivial|exact a _|refine NN (WO _) λ_=> ?_|refine tI (λ_=> ?_) λ_=> ?_
 unfold Dc
 repeat' first|exact j1 _|refine NN (WO _) λ_=> ?_|refine tI (λ_=> ?_) λ_=> ?_
theorem Operands_tot (o:Int):TT (Ez o):=by
 unfold Ez Ez.J1 Ez.J2 Ez.J3
 repeat' first|exact tR trivial|refine tI (λ_=> ?_) λ_=> ?_
theorem sX (d:Nat):∀(n:Nat) (e:A4),d≤n->dE d e->TT (Dm n e):=by
 induction d with
 |zero=>exactλn e _ h=>h.elim
 |succ d ih=>
  intro n e hn ⟨h1,h2⟩;obtain⟨n,rfl⟩:∃k,n=k+1:=⟨n-1,by omega⟩;show TT (DN (Dm n) e);have c:∀b,TT (DN.J2 (Dm n) e b):=by intro b;unfold DN.J2;refine tI (λ_=>tR trivial) λ_=>tL e.L.length (by omega) λm i hi k=> ?_;unfold DN.Aa DN.L1;refine tD (λ_=>tG (by omega) λx a=>NN (ih n x (by omega) (h2 x a)) λ_=>tI (λ_=>tR trivial) λ_=>k (by omega)) λ_=>tR trivial
  have j1:∀b,TT (DN.J1 (Dm n) e b):=by
   intro b;unfold DN.J1;refine NN (Operands_tot _) λ_=> ?_
   repeat' first|exact c _|refine NN (WO _) λ_=> ?_|refine tI (λ_=> ?_) λ_=> ?_
  unfold DN;exact tI (λ_=>j1 _) λ_=>j1 _
theorem XR {n:Nat} (h:n≤1000):n≤BT:=by have:=B1;omega
theorem SE_tot {e:A4} (h:dE 2 e):TT (Dm BT e):=sX 2 _ e (XR (by omega)) h
theorem sY {k:Nat} {s:AP} {R:List AP->ABp Bool} (d:K8 T k s) (j:TT (R s.Body)) (l:TT (R s.Else)):TT (Ba R s):=by
 have r:∀b,TT (Ba.J9 R s b):=by
  intro b;unfold Ba.J9 Ba.Th
  repeat' first|exact tR trivial|refine NN j λ_=> ?_|refine NN l λ_=> ?_|refine tI (λ_=> ?_) λ_=> ?_
 have q:∀b,TT (Ba.J8 R s b):=by
  intro b;unfold Ba.J8
  repeat' first|exact r _|refine tI (λ_=> ?_) λ_=> ?_
 have c:∀b,TT (Ba.J7 R s b):=by
  intro b;unfold Ba.J7
  repeat' first|exact tR trivial|exact q _|refine tI (λ_=> ?_) λ_=> ?_
 have p:∀b,TT (Ba.J6 R s b):=by
  intro b;unfold Ba.J6;refine tI (λ_=>NN (SE_tot d.e) λ_=>tI (λ_=>c _) λ_=>c _) λ_=>NN ?_ λ_=>c _;unfold Ho Ho.J1
  repeat' first|exact tR trivial|refine tI (λ_=> ?_) λ_=> ?_
 have f:∀b,TT (Ba.J5 R s b):=by
  intro b;unfold Ba.J5
  repeat' first|exact tR trivial|exact p _|refine tI (λ_=> ?_) λ_=> ?_
 have o:∀b,TT (Ba.J4 R s b):=by
  intro b;unfold Ba.J4;rcases d.i with h|⟨a,h,g⟩<;>rw[h]
  . repeat' first|exact tR trivial|exact f _|refine tI (λ_=> ?_) λ_=> ?_|contradiction
  . repeat' first|exact tR trivial|exact f _|refine tI (λ_=> ?_) λ_=> ?_|refine tE (y:=a) rfl ?_|refine NN (SE_tot g) λ_=> ?_
 have n:∀b,TT (Ba.J3 R s b):=by
  intro b;unfold Ba.J3
  repeat' first|exact tR trivial|exact o _|refine tI (λ_=> ?_) λ_=> ?_|refine NN (WO _) λ_=> ?_
 have m:∀b,TT (Ba.J2 R s b):=by
  intro b;unfold Ba.J2
  repeat' first|exact n _|refine tI (λ_=> ?_) λ_=> ?_|refine NN (WO _) λ_=> ?_
 have j1:∀b,TT (Ba.J1 R s b):=by
  intro b;unfold Ba.J1
  repeat' first|exact tR trivial|exact m _|refine tI (λ_=> ?_) λ_=> ?_
 unfold Ba;exact tI (λ_=>j1 _) λ_=>j1 _
def dT (T:ABq->Prop) (k:Nat) (l:List AP):Prop:=l.length≤10/\∀x∈l,K8 T k x
theorem K8.body {k:Nat} {s:AP} (h:K8 T (k+1) s):dT T k s.Body:=⟨by have:=h.2.2.2.2.1;omega,h.2.2.2.2.2.2.1⟩
theorem K8.els {k:Nat} {s:AP} (h:K8 T (k+1) s):dT T k s.Else:=⟨by have:=h.2.2.2.2.2.1;omega,h.2.2.2.2.2.2.2.1⟩
theorem rK (d:Nat):∀(n:Nat) (l:List AP),2*d+1≤n->dT T d l->TT (HP n l):=by
 induction d with
 |zero=>intro n l hn ⟨_,h⟩;obtain⟨n,rfl⟩:∃k,n=k+1:=⟨n-1,by omega⟩;have:l=[]:=ABj.2 λx a=>(h x a).elim;subst this;show TT (DU (Li n) []);exact tR trivial
 |succ d ih=>intro n l hn ⟨h1,h2⟩;obtain⟨n,rfl⟩:∃k,n=k+2:=⟨n-2,by omega⟩;show TT (DU (Li (n+1)) l);unfold DU;refine tL l.length (by omega) λm i hi k=> ?_;unfold DU.Aa DU.L1 DU.J1;refine tD (λ_=>tG (by omega) λx a=> ?_) λ_=>tR trivial;refine NN (sY (R:=HP n) (h2 x a) (ih n _ (by omega) (h2 x a).body) (ih n _ (by omega) (h2 x a).els)) λ_=>tI (λ_=>tR trivial) λ_=>k (by omega)
def XO:List ABq:=[⟨#[109,97,105,110]⟩,⟨#[116,49]⟩,⟨#[116,50]⟩,⟨#[116,51]⟩]
def sB:List ABq:=[⟨#[97]⟩,⟨#[98]⟩]
structure MP (p:AQ):Prop where
 d:G0=some p.Decls
 t:p.AA.length≤4
 l:∀t∈p.AA,t.HB.length≤2
 b:∀t∈p.AA,dT (λs=>s∈p.AA.map (·.Name)) 4 t.Body
 nm:∃n,1≤n/\n≤4/\p.AA.map (·.Name)=XO.take n
 lo:∀t∈p.AA,t.HB=sB
theorem MP.dl {p:AQ} (h:MP p):p.Decls.length=9:=by have h:=h.d;unfold G0 at h;rw[← AAR h];rfl
theorem sZ {p:AQ} (h:MP p):TT (D3 p):=by
 have hd:=h.dl;have e:=h.t;have c:∀{F:Int->ABp Bool} {i:Int} (b:Bool),TT (F (Ap (i+1)))->TT (D3.J3 F i b):=by intro F i b k;unfold D3.J3 D3.J4;exact tI (λ_=>tR trivial) λ_=>k
 unfold D3;refine tL 9 (by omega) λm i hi k=> ?_;unfold D3.Aa D3.L1 D3.J1;refine tD (λ_=>tG (by omega) λx a=>NN (zO x) λ_=>tI (λ_=>tR trivial) λ_=>k (by omega)) λ_=>tL p.AA.length (by omega) λm i hi k=> ?_;unfold D3.C2 D3.L2 D3.J5;refine tD (λ_=>tG (by omega) λx a=>tL x.HB.length (by have:=h.l x a;omega) λm i hi d=> ?_) λ_=>tR trivial;unfold D3.Gm D3.L3 D3.J2;refine tD (λ_=>tG (by omega) λx a=>NN (WO _) λ_=>tI (λ_=>tR trivial) λ_=>d (by omega)) λ_=>NN (WO _) λ_=>tI (λ_=>c _ (k (by omega))) λ_=>NN (rK 4 _ _ (XR (by omega)) (h.b x a)) λ_=>c _ (k (by omega))
end
section
variable {T:ABq->Prop}
theorem eF (l:List EM) (s:ABq) (a:l.length<1000000):D6 (DJ l s) λr=> -1≤r/\r<l.length:=by unfold DJ;refine tL l.length (by omega) λn i hi k=> ?_;unfold DJ.Aa DJ.L1 DJ.J1;exact tD (λ_=>tG (by omega) λx _=>tI (λ_=>tR (by omega)) λ_=>k (by omega)) λ_=>tR (by omega)
theorem Uy (l:List CZ) (s:ABq) (a:l.length<1000000):D6 (Cu l s) λr=> -1≤r/\r<l.length:=by unfold Cu;refine tL l.length (by omega) λn i hi k=> ?_;unfold Cu.Aa Cu.L1 Cu.J1;exact tD (λ_=>tG (by omega) λx _=>tI (λ_=>tR (by omega)) λ_=>k (by omega)) λ_=>tR (by omega)
theorem decls_tot {p:AQ} (h:MP p):TT (Hp p.Decls):=by have hd:=h.dl;have key:D6 (G0.bind Hp) λ_=>True:=⟨(0,0),by decide +kernel,trivial⟩;rw[h.d]at key;exact key
theorem rE {p:AQ} (h:MP p):TT (DO p):=by
 have hd:=h.dl;have g:=h.t;have j1:∀{F:Int->ABp (Int×Int)} {i:Int} {x:CZ} (b:Bool),TT (F (Ap (i+1)))->TT (DO.J1 F i x b):=by intro F i x b k;unfold DO.J1;exact tI (λ_=>tR trivial) λ_=>k
 have c:∀{F:Int->ABp (Int×Int)} {i:Int} {x:CZ} (b:Bool),TT (F (Ap (i+1)))->TT (DO.J3 F i x b):=by intro F i x b k;unfold DO.J3;exact tI (λ_=>tR trivial) λ_=>k
 unfold DO;refine tL p.AA.length (by omega) λn i hi k=> ?_;unfold DO.Aa DO.L1 DO.J2;refine tD (λ_=>tG (by omega) λx a=>tB (eF _ _ (by omega)) λ_ _=>tI (λ_=>j1 _ (k (by omega))) λ_=>tC (by omega) (tB (Uy _ _ (by simp;omega)) λ_ _=>j1 _ (k (by omega)))) λ_=> ?_;refine tL p.AA.length (by omega) λn i hi k=> ?_;unfold DO.C2 DO.L2;refine tD (λ_=>tG (by omega) λx a=>tI (λ_=>tR trivial) λ_=>tL x.HB.length (by have:=h.l x a;omega) λm j e d=> ?_) λ_=>tR trivial;have f:=h.l x a;unfold DO.Gm DO.L3 DO.J4;refine tD (λ_=>tG (by omega) λy o=>tB (eF _ _ (by omega)) λ_ _=>tI (λ_=>c _ (d (by omega))) λ_=>tB (Uy _ _ (by omega)) λ_ _=>tI (λ_=>c _ (d (by omega))) λ_=>tC (by omega) (tB (Yw _ _ (by simp;omega)) λ_ _=>c _ (d (by omega)))) λ_=>k (by omega)
theorem Count_tot (d:Nat):∀(n:Nat) (l:List AP),d+1≤n->dT T d l->TT (IF n l):=by
 induction d with
 |zero=>intro n l hn ⟨_,h⟩;obtain⟨n,rfl⟩:∃k,n=k+1:=⟨n-1,by omega⟩;have:l=[]:=ABj.2 λx a=>(h x a).elim;subst this;show TT (EU (IF n) []);exact tR trivial
 |succ d ih=>intro n l hn ⟨h1,h2⟩;obtain⟨n,rfl⟩:∃k,n=k+1:=⟨n-1,by omega⟩;show TT (EU (IF n) l);unfold EU;refine XN l.length (λ_ _=>True) (F:=λn s i=>EU.Aa _ l n s i) (by omega) trivial λm i s hi _ k=> ?_;unfold EU.Aa EU.L1 EU.J1;exact tD (λ_=>tG (by omega) λx a=>NN (ih n _ (by omega) (h2 x a).body) λ_=>NN (ih n _ (by omega) (h2 x a).els) λ_=>k _ (by omega) trivial) λ_=>tR trivial
theorem inside_tot {wv:BA} (h:wv.GH.length≤100) (a b:Int) (s:ABq):D6 (Bj wv a b s) λr=>r.2=wv:=by
 have j1:∀{F:Int->ABp (Bool×BA)} {i:Int} (b:Bool),D6 (F (Ap (i+1))) (λr=>r.2=wv)->D6 (Bj.J1 F i wv b) λr=>r.2=wv:=by intro F i b k;unfold Bj.J1;exact tI (λ_=>tR rfl) λ_=>k
 unfold Bj;refine tL wv.GH.length (by omega) λn i hi k=> ?_;unfold Bj.Aa Bj.L1 Bj.J2;refine tD (λ_=>tG (by omega) λx c=> ?_) λ_=>tR rfl
 repeat' first|exact j1 _ (k (by omega))|refine tI (λ_=> ?_) λ_=> ?_
theorem KindOf_tot {p:AQ} (h:MP p) (t:Int) (s:ABq):TT (Ft p t s):=by
 have hd:=h.dl;have d:=h.t;have j1:∀b,TT (Ft.J1 p s b):=by
  intro b;unfold Ft.J1;refine tI (λ_=>tR trivial) λ_=>tB (eF _ _ (by omega)) λv e=>tD (λ_=>tB (Uy _ _ (by omega)) λ_ _=>tI (λ_=>tR trivial) λ_=>tR trivial) λ_=>tG (by omega) λx _=> ?_;have c:∀b,TT (Ft.J2 p v b):=by intro b;unfold Ft.J2;exact tI (λ_=>tG (by omega) λ_ _=>tR trivial) λ_=>tR trivial
  repeat' first|exact tR trivial|exact c _|refine tI (λ_=> ?_) λ_=> ?_
 unfold Ft;exact tD (λ_=>tD (λ_=>tG (by omega) λx a=>tB (Yw _ _ (by have:=h.l x a;omega)) λ_ _=>j1 _) λ_=>j1 _) λ_=>j1 _
theorem UG {p:AQ} (h:MP p) (t:Int) (s:ABq) (a b:Int):TT (DH p t s a b):=by
 unfold DH DH.J1;refine NN (KindOf_tot h t s) λ_=> ?_
 repeat' first|exact tR trivial|refine tI (λ_=> ?_) λ_=> ?_
theorem Nodes_tot (d:Nat):∀(n:Nat) (e:A4),d≤n->dE d e->TT (Kr n e):=by
 induction d with
 |zero=>exactλn e _ h=>h.elim
 |succ d ih=>intro n e hn ⟨h1,h2⟩;obtain⟨n,rfl⟩:∃k,n=k+1:=⟨n-1,by omega⟩;show TT (Gf (Kr n) e);unfold Gf;refine XN e.L.length (λ_ _=>True) (F:=λn (s:Int×Int) i=>Gf.Aa _ e n s.1 s.2 i) (by omega) (s0:=(1,0)) trivial λm i s hi _ k=> ?_;unfold Gf.Aa Gf.L1 Gf.J1;exact tD (λ_=>tG (by omega) λx a=>NN (ih n x (by omega) (h2 x a)) λv=>k (_,_) (by omega) trivial) λ_=>tR trivial
theorem names_tot {p:AQ} (h:MP p) (t:Int) (d:Nat):∀(n:Nat) (e:A4),d≤n->dE d e->TT (KE n p t e):=by
 induction d with
 |zero=>exactλn e _ h=>h.elim
 |succ d ih=>
  intro n e hn ⟨h1,h2⟩;obtain⟨n,rfl⟩:∃k,n=k+1:=⟨n-1,by omega⟩;show TT (Fi (KE n) p t e);have j1:∀r,TT (Fi.J1 (KE n) e p t r):=by intro r;unfold Fi.J1;refine XN e.L.length (λ_ _=>True) (F:=λm s i=>Fi.Aa _ e p t m s i) (by omega) trivial λm i s hi _ k=> ?_;unfold Fi.Aa Fi.L1 Fi.J2 Fi.J3;exact tD (λ_=>tI (λ_=>tG (by omega) λx a=>NN (ih n x (by omega) (h2 x a)) λv=>k _ (by omega) trivial) λ_=>tR trivial) λ_=>tI (λh=>by cases h) λ_=>tR trivial
  unfold Fi;exact tI (λ_=>NN (UG h _ _ _ _) λ_=>j1 _) λ_=>tI (λ_=>NN (UG h _ _ _ _) λ_=>j1 _) λ_=>j1 _
theorem Expr_tot {p:AQ} (h:MP p) (t:Int) {e:A4} (a:dE 2 e):TT (FZ p t e):=by
 have j1:∀b,TT (FZ.J1 e p t b):=by intro b;unfold FZ.J1;exact tI (λ_=>tR trivial) λ_=>NN (names_tot h t 2 _ e (XR (by omega)) a) λ_=>tR trivial
 unfold FZ;exact NN (SE_tot a) λ_=>tI (λ_=>tR trivial) λ_=>NN (Nodes_tot 2 _ e (XR (by omega)) a) λ_=>tI (λ_=>j1 _) λ_=>j1 _
theorem ZO (a b:Int):TT (E0 a b):=by unfold E0;exact tI (λ_=>tR trivial) λ_=>tR trivial
theorem Oi (b:Bool):TT (Bm b):=by unfold Bm;exact tI (λ_=>tR trivial) λ_=>tR trivial
structure WK (p:AQ) (A K:Nat) (wv:BA):Prop where
 p:wv.p=p
 a:wv.GH.length=A
 s:wv.LM.length≤K
 t:wv.XM.length≤K
theorem WK.mono {p:AQ} {A K L:Nat} {wv:BA} (h:WK p A K wv) (b:K≤L):WK p A L wv:=⟨h.p,h.a,by have:=h.s;omega,by have:=h.t;omega⟩
theorem one_tot {p:AQ} (h:MP p) {A K:Nat} {wv:BA} (f:WK p A K wv) (H:A≤100) (J:K≤900000) {k:Nat} {s:AP} (o:K8 T (k+1) s):D6 (B2 wv s) λr=>WK p A (K+1) r.2:=by
 have hd:=h.dl;have n:=h.t;have m:=f.a;have F:=f.s;have G:=f.t;obtain rfl:=f.p;have W:WK wv.p A (K+1) wv:=f.mono (by omega);have I:=λa b s=>inside_tot (wv:=wv) (by omega) a b s;have E:=Expr_tot h wv.BV o.e;have j:∀(b:Bool) e,D6 (B2.J12 s (b,wv) wv e) λr=>WK wv.p A (K+1) r.2:=by intro b e;unfold B2.J12;exact tC (DK (by simp only;omega)) (NN E λ_=>NN (ZO _ _) λ_=>tR ⟨rfl,m,W.s,by simp;omega⟩)
 have g:∀(b c:Bool) e,D6 (B2.jJ e s (b,wv) wv c) λr=>WK wv.p A (K+1) r.2:=by intro b c e;unfold B2.jJ;exact tI (λ_=>j _ _) λ_=>j _ _
 have q:∀(b:Bool) e,D6 (B2.Th s (b,wv) wv e) λr=>WK wv.p A (K+1) r.2:=by intro b e;unfold B2.Th;exact tI (λ_=>tB (Yw _ _ (by simp only;omega)) λ_ _=>g _ _ _) λ_=>g _ _ _
 have D:∀(b c:Bool),D6 (B2.J8 s (b,wv) c) λr=>WK wv.p A (K+1) r.2:=by intro b c;unfold B2.J8;exact tI (λ_=>tR W) λ_=>tB (Yw _ _ (by simp only;omega)) λ_ _=>tI (λ_=>tR W) λ_=>tC (DK (by simp only;omega)) (tR ⟨rfl,m,by simp;omega,W.t⟩)
 have z:s.Op∈[(9:Int),10,11]->D6 (DJ wv.p.Decls s.Name) λr=>0≤r/\r<9:=by
  intro B;rw[o.2.2.2.1 B];have key:G0.bind (λl=>DJ l cN)=some 7:=by decide +kernel
  rw[h.d]at key;exact⟨7,key,by omega⟩
 have C:∀(b c d t:Bool),(t=true->s.Op∈[(9:Int),10,11])->D6 (B2.J6 s (b,wv) (c,wv) (d,wv) wv t) λr=>WK wv.p A (K+1) r.2:=by
  intro b c d t v;unfold B2.J6 B2.J7 B2.J9;refine tI (λn=>NN (UG h _ _ _ _) λ_=>tI (λ_=>tR W) λ_=>tB (z (v n)) λ_ _=>tG (by omega) λx _=>tB (I _ _ _) ?_) λ_=> ?_
  . rintro⟨e,_⟩ rfl
    repeat' first|exact tR W|refine NN (Oi _) λ_=> ?_|refine tI (λ_=> ?_) λ_=> ?_
  . repeat' first|exact tR W|refine NN (UG h _ _ _ _) λ_=> ?_|refine NN (Oi _) λ_=> ?_|refine NN (ZO _ _) λ_=> ?_|exact D _ _|exact q _ _|refine tB (Uy _ _ (by omega)) λ_ _=> ?_|refine tI (λ_=> ?_) λ_=> ?_
 have u:∀(b c d t:Bool),D6 (B2.J3 s (b,wv) (c,wv) (d,wv) wv t) λr=>WK wv.p A (K+1) r.2:=by
  intro b c d t;unfold B2.J3 B2.J4 B2.J5;refine tI (λn=>NN (UG h _ _ _ _) λ_=>tI (λ_=>NN (Oi _) λ_=>NN (ZO _ _) λ_=>tR W) λ_=>tB (I _ _ _) ?_) λ_=> ?_
  . rintro⟨e,_⟩ rfl;exact NN (Oi _) λ_=>NN (ZO _ _) λ_=>tR W
  . repeat' first|exact tR W|refine NN (Oi _) λ_=> ?_|exact C _ _ _ _ (λh=>by simp_all)|refine tI (λ_=> ?_) λ_=> ?_
 have j1:∀(b c d t:Bool),D6 (B2.J1 s (b,wv) (c,wv) (d,wv) wv t) λr=>WK wv.p A (K+1) r.2:=by intro b c d t;unfold B2.J1 B2.J2;refine tI (λn=>NN E λ_=>tR W) λ_=>tI (λ_=>NN (UG h _ _ _ _) λ_=>tI (λ_=>NN (Oi _) λ_=>NN (ZO _ _) λ_=>tR W) λ_=>tB (I _ _ _) ?_) λ_=>tI (λ_=>u _ _ _ _) λ_=>u _ _ _ _;rintro⟨e,_⟩ rfl;exact NN (Oi _) λ_=>NN (ZO _ _) λ_=>tR W
 unfold B2;refine tB (I _ _ _) ?_;rintro⟨b,w⟩ e;obtain rfl:wv=w:=e.symm;refine tB (I _ _ _) ?_;rintro⟨c,w⟩ e;obtain rfl:wv=w:=e.symm;refine tB (I _ _ _) ?_;rintro⟨d,w⟩ e;obtain rfl:wv=w:=e.symm;refine tI (λ_=> ?_) λ_=>tI (λ_=>j1 _ _ _ _) λ_=>j1 _ _ _ _;refine tI (λ_=>NN (UG h _ _ _ _) λ_=>NN E λ_=>NN (ZO _ _) λ_=>tR W) λhi=>NN (UG h _ _ _ _) λ_=> ?_;rcases o.i with e|⟨a,e,m⟩
 . rw[e]at hi;cases hi
 . rw[e];exact tE (y:=a) rfl (NN (Expr_tot h wv.BV m) λ_=>NN E λ_=>NN (ZO _ _) λ_=>NN (ZO _ _) λ_=>tR W)
def MS:Nat->Nat
 |0=>0
 |d+1=>1+20*MS d
theorem all_tot {p:AQ} (h:MP p) (d:Nat):∀(n A K:Nat) (wv:BA) (l:List AP),d+1≤n->A+d≤50->K+10*MS d≤900000->WK p A K wv->dT T d l->D6 (GY n wv l) λr=>WK p A (K+10*MS d) r.2.2:=by
 induction d with
 |zero=>intro n A K wv l hn B C b ⟨_,h⟩;obtain⟨n,rfl⟩:∃k,n=k+1:=⟨n-1,by omega⟩;have:l=[]:=ABj.2 λx j=>(h x j).elim;subst this;show D6 (Cv (GY n) wv []) _;exact tR b
 |succ d ih=>
  intro n A K wv l hn B C b ⟨h1,h2⟩;obtain⟨n,rfl⟩:∃k,n=k+1:=⟨n-1,by omega⟩;show D6 (Cv (GY n) wv l) _;unfold Cv;have H:MS (d+1)=1+20*MS d:=rfl;refine XN l.length (λi wv=>WK p A (K+i*MS (d+1)) wv) (F:=λn s i=>Cv.Aa _ l n s i) (by omega) (by simpa using b) λm i s hi u k=> ?_;have J:i*MS (d+1)≤10*MS (d+1):=ABN _ (by omega);have o:∀{w},WK p A (K+i*MS (d+1)) w->WK p A (K+10*MS (d+1)) w:=λh=>h.mono (by omega);unfold Cv.Aa Cv.L1 Cv.J3;refine tD (λE=>tG (by omega) λx j=>tB (one_tot h u (by omega) (by omega) (h2 x j)) λv f=> ?_) λ_=>tR (o u);have G:(i+1)*MS (d+1)≤10*MS (d+1):=ABN _ (by omega);have I:(i+1)*MS (d+1)=i*MS (d+1)+MS (d+1):=ABa _ _;have y:∀(w:BA) (e c:Int),WK p (A+1) (K+(i+1)*MS (d+1)) w->D6 (Cv.J2 (Cv.Aa (GY n) l m) i w e c) λr=>WK p A (K+10*MS (d+1)) r.2.2:=by intro w e c b;have D:=b.a;unfold Cv.J2;rw[DR (n:=(w.GH.length:Int)-1) (by omega) (by omega)];have z:WK p A (K+(i+1)*MS (d+1)) (BA.mk w.p w.BV (w.GH.take ((w.GH.length:Int)-1).toNat) w.LM w.XM):=⟨b.p,by simp;omega,b.s,b.t⟩;exact tC (by omega) (tI (λ_=>tR (z.mono (by omega))) λ_=>k _ (by omega) z)
  have j1:∀e,D6 (Cv.J1 (Cv.Aa (GY n) l m) (GY n) i v x e) λr=>WK p A (K+10*MS (d+1)) r.2.2:=by intro e;have D:=f.a;unfold Cv.J1;refine tI (λ_=>tR (f.mono (by omega))) λ_=>tC (DK (by omega)) (tG (by simp;omega) λ_ _=> ?_);refine tB (ih n (A+1) (K+i*MS (d+1)+1) _ _ (by omega) (by omega) (by omega) ⟨f.p,by simp;omega,f.s,f.t⟩ (h2 x j).body) λL g=> ?_;refine tI (λ_=> ?_) λ_=>y _ _ _ (g.mono (by omega));exact tB (ih n (A+1) _ _ _ (by omega) (by omega) (by omega) g (h2 x j).els) λM q=>y _ _ _ (q.mono (by omega))
  exact tI (λ_=>j1 _) λ_=>j1 _
theorem check_tot {p:AQ} (h:MP p):TT (Bg p):=by have hd:=h.dl;have j:=h.t;have g:MS 4=8421:=rfl;unfold Bg;refine NN (sZ h) λ_=>tI (λ_=>tR trivial) λ_=>NN (decls_tot h) λ_=>tI (λ_=>tR trivial) λ_=>tI (λ_=>tR trivial) λ_=>NN (rE h) λ_=>tI (λ_=>tR trivial) λ_=> ?_;refine XN p.AA.length (λ_ _=>True) (F:=λn s i=>Bg.Aa p n s i) (by omega) trivial λm i s hi _ k=> ?_;unfold Bg.Aa Bg.L1 Bg.J1;refine tD (λ_=>tG (by omega) λx d=>NN (Count_tot 4 _ _ (XR (by omega)) (h.b x d)) λ_=>k _ (by omega) trivial) λ_=>tI (λ_=>tR trivial) λ_=> ?_;refine XN p.AA.length (λi w=>WK p 0 (i*84210) w) (F:=λn s i=>Bg.C2 p n s i) (by omega) ⟨rfl,rfl,by simp,by simp⟩ λm i s hi c k=> ?_;unfold Bg.C2 Bg.L2 Bg.J2;refine tD (λf=>tG (by omega) λx d=> ?_) λ_=>tR trivial;refine tB (all_tot h 4 _ 0 (i*84210) _ _ (XR (by omega)) (by omega) (by omega) ⟨c.p,c.a,c.s,c.t⟩ (h.b x d)) λv e=>tI (λ_=>tR trivial) λ_=>k _ (by omega) (e.mono (by omega))
end
section
variable {T:ABq->Prop}
structure MK1 (N i:Nat) (m:AM) (p:AQ):Prop where
 t:OG m.t
 h:m.held=[]
 d:G0=some p.Decls
 n:p.AA.length=i
 b:∀t∈p.AA,dT (λs=>s∈XO.take N) 4 t.Body
 nm:p.AA.map (·.Name)=XO.take i
 lo:∀t∈p.AA,t.HB=sB
theorem take_thr {i:Nat} (h:i<XO.length):XO.take i++[XO[i]]=XO.take (i+1):=AAk h
abbrev MPO (p:AQ):Prop:=MP p/\∃l,Bg p=some (0,l)
theorem Program_tot {l:List Int} (V:l.length≤4000000000000000000) (W:∀x∈l,0≤x/\x<256):D6 (C5 l) MPO:=by
 have hd:∃D,G0=some D:=⟨_,rfl⟩;obtain⟨D,r⟩:=hd;have J:XO.length=4:=rfl;unfold C5;refine tE r (tB (Kv (t:=⟨l,0⟩) ⟨V,by simp,W⟩ (by omega)) ?_);rintro⟨v,H⟩ ⟨X,u⟩;simp only at X u;have O:Ap (2+v)=2+v:=DR (by omega) (by omega);refine XN (2+v).toNat (λi (s:AM×AQ)=>MK1 (2+v).toNat i s.1 s.2) (F:=λn s i=>C5.Aa (v,H) n s.1 s.2 i) (by omega) (s0:=(_,_)) ⟨u,rfl,r,rfl,by simp,rfl,by simp⟩ λn i s hi f k=> ?_;unfold C5.Aa C5.L1;simp only[O]
 -- the end
 have Z:¬(i:Int)<2+v->D6 (C5.J5 s.2) MPO:=by
  intro l8;have hi:i=(2+v).toNat:=by omega
  have N:MP s.2:=⟨f.d,by have:=f.n;omega,λt E=>by rw[f.lo t E];simp[sB],by rw[f.nm,hi];exact f.b,⟨i,by omega,by omega,f.nm⟩,f.lo⟩;unfold C5.J5 Kh Fh;obtain⟨q,C,_⟩:=check_tot N;refine tE C (tI (λ_=>tE r ?_) λh=>tR ⟨N,q.2,C.trans (congrArg some (Prod.ext (by simpa using h) rfl))⟩);simp only[AAO];have key:G0.bind (λD=>Bg ⟨D,[⟨⟨#[109,97,105,110]⟩,0,[⟨#[97]⟩,⟨#[98]⟩],[⟨1,0,⟨#[120]⟩,⟨#[]⟩,[],⟨1,1,⟨#[]⟩,[]⟩,[],[]⟩]⟩]⟩)=some (0,0):=by decide +kernel
  rw[r,AAO]at key;refine tR ⟨⟨r,by simp,by simp,?_,⟨1,by omega,by omega,rfl⟩,by simp[sB]⟩,0,key⟩;simp only[AA4,forall_eq];refine⟨by simp,?_⟩;simp only[AA4,forall_eq];exact VL (.inl ⟨rfl,rfl⟩) (yH (by decide)) _
 have G:∀m t,(hi:i<(2+v).toNat)->OG m.t->m.held=[]->(t.HB=sB/\t.Name=XO[i]'(by omega))->dT (λs=>s∈XO.take (2+v).toNat) 4 t.Body->D6 (C5.J3 (λm p i=>C5.Aa (v,H) n m p i) i s.2 m t) MPO:=by
  intro m t j o I w J;unfold C5.J3 C5.J4;have hn:=f.n;refine tC (DK (by omega)) (k (m,_) j ⟨o,I,f.d,by simp;omega,?_,?_,?_⟩)
  . simp only[AAj,AA4];rintro x (e|rfl)
    . exact f.b x e
    . exact J
  . simp only[AA9,f.nm,AAg,AA2,w.2];exact take_thr _
  . simp only[AAj,AA4];rintro x (e|rfl)
    . exact f.lo x e
    . exact w.1
 have j1:∀t,(hi:i<(2+v).toNat)->(t.HB=sB/\t.Name=XO[i]'(by omega))->t.Body.length≤3->(∀x∈t.Body,K8 (λs=>s∈XO.take (2+v).toNat) 4 x)->D6 (C5.J1 (λm p i=>C5.Aa (v,H) n m p i) i s.1 s.2 t) MPO:=by
  intro t j o I w;have M:s.1.held=[]:=f.h;unfold C5.J1;refine tB (Kv f.t (by omega)) λa U=> ?_;rw[DR (n:=1+a.1) (by omega) (by omega)];have K:=B1;obtain⟨R,B⟩:∃n,BT=n+1:=⟨BT-1,by omega⟩;rw[B];refine tB ((made_tot (T:=λs=>s∈XO.take (2+v).toNat) 2 0 R (by omega) (by omega) (by omega)).2 (AM.mk a.2 i s.1.left s.1.HY s.1.tx s.1.atomic s.1.loop s.1.held) (1+a.1) ⟨U.2,by rw[show _=s.1.held from rfl,M];simp⟩ (by omega)) λb K=> ?_;obtain⟨⟨g1,S⟩,z⟩:=K;have g:b.2.held=[]:=z.h.trans M;have y:∀x∈t.Body++b.1,K8 (λs=>s∈XO.take (2+v).toNat) 4 x:=λx e=>(AAj.1 e).elim (w x) (S x);refine tC (DK (by omega)) (tI (λ_=>tB (Kv z.t (by omega)) λc L=> ?_) λ_=> ?_)<;>unfold C5.J2
  . refine tI (λ_=>tC (DK (by simp;omega)) (G _ _ j L.2 g o ⟨by simp;omega,?_⟩)) λ_=>G _ _ j L.2 g o ⟨by simp;omega,y⟩;intro x e;rcases AAj.1 e with e|e
    . exact y x e
    . rw[AA4.1 e];refine cB (by decide) (by decide) (by decide) ⟨by simp,by simp,by simp,λ_=> ?_,by simp,by simp⟩;exact List.mem_take_iff_getElem.2 ⟨1,by omega,rfl⟩
  . exact tI (λh=>by cases h) λ_=>G _ _ j z.t g o ⟨by simp;omega,y⟩
 refine tD (λh=>jM (l:=XO) (by omega) (tI (λ_=> ?_) λ_=>j1 _ (by omega) ⟨rfl,rfl⟩ (by simp) (by simp))) Z;refine tLk (2+v).toNat 1 (λk (t:CZ)=>(t.HB=sB/\t.Name=XO[i]'(by omega))/\t.Body.length+1≤k/\∀x∈t.Body,K8 (λs=>s∈XO.take (2+v).toNat) 4 x) (F:=λn t k=>C5.C2 _ _ _ _ _ n t k) (by omega) (by omega) ⟨⟨rfl,rfl⟩,by simp,by simp⟩ λm q t C E k2=> ?_;obtain⟨P,t2,Q⟩:=E;unfold C5.C2 C5.L2;simp only[O];refine tD (λ_=>jM (l:=XO) (by omega) (tC (DK (by omega)) (k2 _ (by omega) ⟨P,by simp;omega,?_⟩))) λ_=>j1 _ (by omega) P (by omega) Q;intro x e;rcases AAj.1 e with e|e
 . exact Q x e
 . rw[AA4.1 e];refine cB (by decide) (by decide) (by simp) ⟨by simp,by simp,by simp,λ_=> ?_,by simp,by simp⟩;exact List.mem_take_iff_getElem.2 ⟨q,by omega,rfl⟩
theorem Choices_tot {l:List Int} (a:l.length≤1000):D6 (Fq l) λr=>r.length≤l.length:=by unfold Fq;refine XN l.length (λi (s:List BK)=>s.length≤i) (F:=λn s i=>Fq.Aa l n s i) (by omega) (by simp) λn i s hi b k=> ?_;unfold Fq.Aa Fq.L1 Fq.J1;exact tD (λ_=>tG (by omega) λx _=>tC (DK (by omega)) (k _ (by omega) (by simp;omega))) λ_=>tR (by omega)
theorem sites_tot (d:Nat):∀(n K:Nat) (o:List DL) (t a:Int) (l:List AP),d+1≤n->K+10*MS d≤900000->o.length≤K->dT T d l->D6 (IG n o t a l) λr=>r.1.length≤K+10*MS d:=by
 induction d with
 |zero=>intro n K o t a l hn e b ⟨_,h⟩;obtain⟨n,rfl⟩:∃k,n=k+1:=⟨n-1,by omega⟩;have:l=[]:=ABj.2 λx c=>(h x c).elim;subst this;show D6 (EV (IG n) o t a []) _;exact tR b
 |succ d ih=>intro n K o t a l hn e b ⟨h1,h2⟩;obtain⟨n,rfl⟩:∃k,n=k+1:=⟨n-1,by omega⟩;show D6 (EV (IG n) o t a l) _;unfold EV;have p:MS (d+1)=1+20*MS d:=rfl;refine XN l.length (λi (s:List DL×Int)=>s.1.length≤K+i*MS (d+1)) (F:=λm s i=>EV.Aa _ l t m s.1 s.2 i) (s0:=(o,a)) (by omega) (by simpa using b) λm i s hi y k=> ?_;have u:i*MS (d+1)≤10*MS (d+1):=ABN _ (by omega);unfold EV.Aa EV.L1 EV.J1;refine tD (λg=>tG (by omega) λx c=>tC (DK (by omega)) ?_) λ_=>tR (by simp only;omega);have j:(i+1)*MS (d+1)≤10*MS (d+1):=ABN _ (by omega);have q:(i+1)*MS (d+1)=i*MS (d+1)+MS (d+1):=ABa _ _;refine tB (ih n (K+i*MS (d+1)+1) _ _ _ _ (by omega) (by omega) (by simp;omega) (h2 x c).body) λv f=> ?_;refine tB (ih n _ _ _ _ _ (by omega) (by omega) f (h2 x c).els) λw b=>k (_,_) (by omega) (by simp only;omega)
structure MW (w:AD):Prop where
 q:D6 (CJ w qS) λr=>0≤r/\r<w.Cells.length
 c:w.Cells.length≤100
 l:w.AG.length≤100
 d:w.Af.length≤100
 f:w.AK.length≤100
 t:w.AA.length≤4
def QU:List DB:=[⟨⟨#[120]⟩,0,0,false,0⟩,⟨⟨#[121]⟩,0,0,false,1⟩,⟨⟨#[118]⟩,0,0,true,0⟩,⟨⟨#[113]⟩,0,2,false,0⟩,⟨⟨#[113]⟩,1,2,false,0⟩]
theorem World_tot {p:AQ} (h:MP p) (j:∃l,Bg p=some (0,l)):D6 (DD p) MW:=by
 obtain⟨l,j⟩:=j;have B:=h.t;have z:MS 4=8421:=rfl;unfold DD;refine tE j (tI (λh=>by cases h) λ_=> ?_);have key:∀D T,G0=some D->DD.Aa ⟨D,T⟩ BT (AD.mk [] [] [] [] [] []) 0=DD.J4 ⟨D,T⟩ ⟨QU,[⟨⟨#[109]⟩,false⟩,⟨⟨#[110]⟩,false⟩,⟨⟨#[114]⟩,true⟩],[⟨⟨#[99]⟩,0⟩],[⟨#[102]⟩],[],[]⟩:=by
  intro D T m;unfold G0 at m;obtain rfl:=AAR m
  kernel_rfl
 rw[show DD.Aa p BT (AD.mk [] [] [] [] [] []) 0=_ from key p.Decls p.AA h.d];unfold DD.J4;rw[show AQ.mk p.Decls p.AA=p from rfl];refine XN p.AA.length (λi w=>w.A7.length≤i*84210/\w.AA.length=i/\w.Cells=QU/\w.AG.length=3/\w.Af.length=1/\w.AK.length=1) (F:=λn s i=>DD.Gm _ n s i) (by omega) ⟨by simp,rfl,rfl,rfl,rfl,rfl⟩ λn i w hi e k=> ?_;obtain⟨q,E,g,r,u,y⟩:=e;unfold DD.Gm DD.L3 DD.J5;refine tD (λ_=>tG (by omega) λx o=>tC (DK (by omega)) (tB (sites_tot 4 _ (i*84210) _ _ _ _ (XR (by omega)) (by omega) q (h.b x o)) λv C=>k _ (by omega) ⟨by simp only;omega,by simp;omega,g,r,u,y⟩)) λ_=>tR ⟨?_,by rw[g];decide,by omega,by omega,by omega,by omega⟩;rw[g];have a:∀w:AD,w.Cells=QU->CJ w qS=some 3:=by
  intro w e;obtain⟨c,l,d,f,t,s⟩:=w;simp only at e;subst e
  kernel_rfl
 exact⟨3,a w g,by omega,by decide⟩
end
section
variable {T:ABq->Prop}
structure GS (g:A5) (n:Nat) (r:A5):Prop where
 w:r.w=g.w
 l:r.locals=g.locals
 a:g.out.length≤r.out.length
 b:r.out.length≤g.out.length+n
structure GB (g:A5) (n:Nat):Prop where
 w:MW g.w
 l:g.locals.length≤2
 n:g.out.length+n≤8000000
theorem GS.refl (g:A5) (n:Nat):GS g n g:=⟨rfl,rfl,by omega,by omega⟩
theorem GS.trans {g h r:A5} {m n k:Nat} (a:GS g m h) (b:GS h n r) (c:m+n≤k):GS g k r:=⟨b.w.trans a.w,b.l.trans a.l,by have:=a.a;have:=b.a;omega,by have:=a.b;have:=b.b;omega⟩
theorem GB.next {g h:A5} {m n k:Nat} (a:GB g k) (s:GS g m h) (c:m+n≤k):GB h n:=⟨by rw[s.w];exact a.w,by rw[s.l];exact a.l,by have:=s.b;have:=a.n;omega⟩
theorem GB.less {g:A5} {n k:Nat} (a:GB g k) (b:n≤k):GB g n:=a.next (GS.refl g 0) (by omega)
theorem dI {g:A5} (h:GB g 1) (i:Ab):D6 (A8 g i) λr=>GS g 1 r/\r.out.length=g.out.length+1:=by have:=h.n;unfold A8;exact tC (DK (by omega)) (tR ⟨⟨rfl,rfl,by simp,by simp⟩,by simp⟩)
theorem Oq {g:A5} (h:GB g 1) (i:Ab):D6 ((A8 g i).bind λv=>some v) (GS g 1):=tB (dI h i) λ_ h=>tR h.1
theorem sP {w:AD} (h:MW w) (s:ABq):TT (CJ w s):=by have a:=h.c;unfold CJ;refine tL w.Cells.length (by omega) λn i hi k=> ?_;unfold CJ.Aa CJ.L1 CJ.J1;exact tD (λ_=>tG (by omega) λx _=>tI (λ_=>tR trivial) λ_=>k (by omega)) λ_=>tR trivial
theorem lockAt_tot {w:AD} (h:MW w) (s:ABq):TT (EY w.AG s):=by have a:=h.l;unfold EY;refine tL w.AG.length (by omega) λn i hi k=> ?_;unfold EY.Aa EY.L1 EY.J1;exact tD (λ_=>tG (by omega) λx _=>tI (λ_=>tR trivial) λ_=>k (by omega)) λ_=>tR trivial
theorem cond_tot {g:A5} (h:MW g.w) (s:ABq):D6 (Cw g s) λr=>r.2=g:=by have a:=h.d;unfold Cw;refine tL g.w.Af.length (by omega) λn i hi k=> ?_;unfold Cw.Aa Cw.L1 Cw.J1;exact tD (λ_=>tG (by omega) λx _=>tI (λ_=>tR rfl) λ_=>k (by omega)) λ_=>tR rfl
theorem cell_tot {w:AD} (h:MW w) {s:ABq} (b:s=qS) {a:Type} {f:Int->DB->ABp a} {Q:a->Prop} (k:∀i c,D6 (f i c) Q):D6 ((CJ w s).bind λi=>(gt w.Cells i).bind (f i)) Q:=by rw[b];exact tB h.q λi hi=>tG hi λc _=>k i c
theorem value_tot (d:Nat):∀(n:Nat) (g:A5) (e:A4) (r:Int),d≤n->Zw d e->GB g (3^d)->D6 (DP n g e r) (GS g (3^d)):=by
 induction d with
 |zero=>exactλn g e r _ h=>h.elim
 |succ d ih=>
  intro n g e r hn z j;obtain⟨n,rfl⟩:∃k,n=k+1:=⟨n-1,by omega⟩;have F:3^(d+1)=3*3^d:=by rw[Nat.pow_succ];omega
  have E:0<3^d:=Nat.pow_pos (by omega);show D6 (HW (DP n) g e r) _;have up:∀{r},GS g 1 r->GS g (3^(d+1)) r:=λh=>h.trans (GS.refl _ 0) (by omega);unfold HW;rcases z with⟨f,_⟩|⟨f,_⟩|⟨f,t,a,p,q⟩|⟨f,a,b,p,q,x⟩
  . simp only[f];exact tI (λ_=>tM (Oq (j.less (by omega)) _) λ_=>up) λh=>by cases h
  . simp only[f];refine tI (λh=>by cases h) λ_=>tI (λ_=>tB (Yw _ _ (by have:=j.l;omega)) λ_ _=>tI (λ_=>tM (Oq (j.less (by omega)) _) λ_=>up) λ_=> ?_) λh=>(by cases h);exact NN (sP j.w _) λ_=>tM (Oq (j.less (by omega)) _) λ_=>up
  . simp only[f,p];refine tI (λh=>by cases h) λ_=>tI (λh=>by cases h) λ_=>tI (λ_=>tE (y:=a) rfl ?_) λh=>(by cases h);refine tB (ih n g a r (by omega) q (j.less (by omega))) λv m=> ?_;have o:GB v 1:=j.next m (by omega);exact cell_tot o.w t λi c=>tM (Oq o _) λ_ h=>m.trans h (by omega)
  . have B:e.Op≠1:=λh=>(by rw[h]at f;simp at f);have C:e.Op≠2:=λh=>(by rw[h]at f;simp at f);have D:e.Op≠3:=λh=>(by rw[h]at f;simp at f);rw[AAX (by simpa using B),AAX (by simpa using C),AAX (by simpa using D),p];refine tI (λh=>by cases h) λ_=>tE (y:=a) rfl (tB (ih n g a r (by omega) q (j.less (by omega))) λv m=>tE (y:=b) rfl (tB (ih n v b _ (by omega) x (j.next m (by omega))) λu s=> ?_));exact tM (Oq (j.next (m.trans s (AAy _)) (by omega)) _) λ_ h=>(m.trans s (AAy _)).trans h (by omega)
theorem l6 {g:A5} {e:A4} (a:Zw 2 e) (b:GB g 9) (r:Int):D6 (DP BT g e r) (GS g 9):=value_tot 2 _ g e r (XR (by omega)) a b
theorem assign_tot {g:A5} (e:GB g 30) {k:Nat} {s:AP} (j:K8 T (k+1) s) (o:s.Op=1):D6 (G3 g s) (GS g 30):=by
 have f:Zw 2 s.Expr:=j.2.2.1.resolve_right λh=>h.1 (by simp[o]);unfold G3;rcases j.2.1 with h|⟨_,p,a,h,n⟩
 . rw[h];refine tI (λh=>by cases h) λ_=>tB (l6 f (e.less (by omega)) _) λv d=> ?_;have b:GB v 1:=e.next d (by omega);refine tB (Yw _ _ (by have:=b.l;omega)) λ_ _=>tI (λ_=>tM (Oq b _) λ_ h=>d.trans h (by omega)) λ_=>NN (sP b.w _) λ_=>tM (Oq b _) λ_ h=>d.trans h (by omega)
 . rw[h];refine tI (λ_=>tE (y:=a) rfl ?_) λh=>(by cases h);refine tB (l6 n (e.less (by omega)) _) λv d=>tB (l6 f (e.next d (by omega)) _) λu m=> ?_;have b:GB u 1:=e.next (d.trans m (AAy _)) (by omega);exact cell_tot b.w p λi c=>tM (Oq b _) λ_ h=>(d.trans m (AAy _)).trans h (by omega)
def cg:Nat->Nat
 |0=>0
 |d+1=>40+20*cg d
theorem GS.site {g r:A5} {n:Nat} (h:GS g n r) (a b:Int):GS g n ⟨r.w,r.locals,r.out,a,b⟩:=⟨h.w,h.l,h.a,h.b⟩
theorem GS.set {g r:A5} {n:Nat} (h:GS g n r) (i:Nat) (x:Ab) (a b:Int):GS g n ⟨r.w,r.locals,r.out.set i x,a,b⟩:=⟨h.w,h.l,by simpa using h.a,by simpa using h.b⟩
section
variable {R:A5->List AP->ABp A5} {g:A5} {s:AP} {n:Nat}
theorem around_tot (d:GB g (n+2)) (i:∀g,GB g n->D6 (R g s.Body) (GS g n)) (a b c:Int):D6 (Es R g s a b c) (GS g (n+2)):=by unfold Es;refine tB (dI (d.less (by omega)) _) λv f=>tB (i v (d.next f.1 (by omega))) λu j=> ?_;have e:GS g (n+1) ⟨u.w,u.locals,u.out,g.site,u.next⟩:=(f.1.trans j (by omega)).site _ _;exact tM (Oq (d.next e (by omega)) _) λ_ h=>e.trans h (by omega)
theorem branches_tot (b:GB g (2*n+11)) (r:Zw 2 s.Expr) (q:∀g,GB g n->D6 (R g s.Body) (GS g n)) (p:∀g,GB g n->D6 (R g s.Else) (GS g n)):D6 (EP R g s) (GS g (2*n+11)):=by
 unfold EP;refine tB (l6 r (b.less (by omega)) _) λv j=>tB (dI (b.next j (by omega)) _) λu i=> ?_;have e:GS g 10 u:=j.trans i.1 (by omega);refine tB (q u (b.next e (by omega))) λx k=> ?_;have f:GS g (n+10) x:=e.trans k (by omega);have t:=i.2;have w:=k.a;have d:=f.site g.site x.next;refine tI (λ_=>tB (dI (b.next d (by omega)) _) λy c=>tG ?_ λ_ _=>tR ?_) λ_=>tI (λ_=>tG ?_ λ_ _=>tR ?_) λ_=>tB (dI (b.next d (by omega)) _) λy c=>tG ?_ λ_ _=> ?_
 . have:=c.2;simp only at this;omega
 . exact((d.trans c.1 (AAy _)).set _ _ _ _).trans (GS.refl _ 0) (by omega)
 . omega
 . exact(f.set _ _ _ _).trans (GS.refl _ 0) (by omega)
 . have:=c.2;simp only at this;omega
 . have h:=(d.trans c.1 (AAy _)).set v.out.length (Ab.mk (‹Ab›).Op (‹Ab›).A (y.out.length:Int) (‹Ab›).C (‹Ab›).N (‹Ab›).Site) y.site y.next;refine tB (p _ (b.next h (by omega))) λz l=>tG ?_ λ_ _=>tR (((h.trans l (AAy _)).set _ _ _ _).trans (GS.refl _ 0) (by omega));have m:=c.2;have o:=l.a;simp only[List.length_set]at m o;omega
variable {R1:A5->AP->ABp A5} {R2:A5->AP->Int->Int->Int->ABp A5}
theorem gstmt_tot (hn:30≤n) (j:GB g n) {k:Nat} (o:K8 T (k+1) s) (u:Zw 2 s.Expr->∀g,GB g n->D6 (R1 g s) (GS g n)) (x:∀g a b c,GB g n->D6 (R2 g s a b c) (GS g n)):D6 (Dj R1 R2 g s) (GS g n):=by
  have D:=j.l;have C:=j.w.f;have E:=j.w.t;have d:GB (A5.mk g.w g.locals g.out g.next (Ap (g.next+1))) n:=j.next ((GS.refl g 0).site _ _) (by omega);have up:∀{r},GS (A5.mk g.w g.locals g.out g.next (Ap (g.next+1))) n r->GS g n r:=λh=>⟨h.w,h.l,h.a,h.b⟩;have e:∀{m r},m≤n->GS (A5.mk g.w g.locals g.out g.next (Ap (g.next+1))) m r->GS g n r:=λz h=>up (h.trans (GS.refl _ 0) z);have A:∀a b c,D6 ((R2 (A5.mk g.w g.locals g.out g.next (Ap (g.next+1))) s a b c).bind λv=>some v) (GS g n):=λa b c=>tB (x _ a b c d) λ_ h=>tR (up h);have P:∀i,D6 ((A8 (A5.mk g.w g.locals g.out g.next (Ap (g.next+1))) i).bind λv=>some v) (GS g n):=λi=>tM (Oq (d.less (by omega)) i) λ_ h=>e (by omega) h;have j1:∀b,(b=true->s.Op∈[(2:Int),3])->D6 (Dj.J1 R1 R2 g s b) (GS g n):=by
    intro b y;unfold Dj.J1;refine tI (λh=>tB (u (o.2.2.1.resolve_right λq=>q.1 ?_) _ d) λ_ h=>tR (up h)) λ_=> ?_
    . have:=y h;simp at this ⊢;omega
    repeat' first
      |exact A _ _ _
      |exact P _
      |exact tR (up (GS.refl _ _))
      |refine tI (λB=>tB (l6 (o.2.2.1.resolve_right λq=>q.1 (by have:=eq_of_beq B;simp[this])) (d.less (by omega)) _) λv p=>tB (Yw _ _ (by rw[p.w];simp only;omega)) λ_ _=>tM (Oq (d.next p (by omega)) _) λ_ h=>e (by omega) (p.trans h (AAy _))) λ_=> ?_
      |refine tI (λ_=> ?_) λ_=> ?_
      |refine NN (lockAt_tot j.w _) λ_=> ?_
      | (refine tB (cond_tot d.w _) ?_
         rintro⟨i,w⟩ rfl)
      |refine tB (Yw _ _ (by omega)) λ_ _=> ?_
  unfold Dj;refine tI (λh=>tB (assign_tot (d.less (by omega)) o (eq_of_beq h)) λ_ h=>tR (e (by omega) h)) λ_=>tI (λh=>j1 _ λ_=> ?_) λ_=>j1 _ λh=> ?_
  . simp[eq_of_beq h]
  . simp[eq_of_beq h]
end
theorem vW (d:Nat):∀(n:Nat) (g:A5) (l:List AP),3*d+1≤n->GB g (10*cg d)->dT T d l->D6 (E4 n g l) (GS g (10*cg d)):=by
 induction d with
 |zero=>intro n g l hn e ⟨_,h⟩;obtain⟨n,rfl⟩:∃k,n=k+1:=⟨n-1,by omega⟩;have:l=[]:=ABj.2 λx f=>(h x f).elim;subst this;show D6 (Cr (QQ n) g []) _;exact tR (GS.refl _ _)
 |succ d ih=>
  intro n g l hn e ⟨h1,h2⟩;obtain⟨n,rfl⟩:∃k,n=k+3:=⟨n-3,by omega⟩;show D6 (Cr (Dj (EP (E4 n)) (Es (E4 n))) g l) _;have w:cg (d+1)=40+20*cg d:=rfl;unfold Cr;refine XN l.length (λi s=>GS g (i*cg (d+1)) s) (F:=λm s i=>Cr.Aa _ l m s i) (by omega) (GS.refl _ _) λm i s hi j k=> ?_;have y:i*cg (d+1)≤10*cg (d+1):=ABN _ (by omega);unfold Cr.Aa Cr.L1;refine tD (λt=>tG (by omega) λx f=> ?_) λ_=>tR (j.trans (GS.refl _ 0) (by omega));have u:(i+1)*cg (d+1)≤10*cg (d+1):=ABN _ (by omega);have p:(i+1)*cg (d+1)=i*cg (d+1)+cg (d+1):=ABa _ _;have o:∀g,GB g (10*cg d)->D6 (E4 n g x.Body) (GS g (10*cg d)):=λg e=>ih n g _ (by omega) e (h2 x f).body;have q:∀g,GB g (10*cg d)->D6 (E4 n g x.Else) (GS g (10*cg d)):=λg e=>ih n g _ (by omega) e (h2 x f).els;refine tB (gstmt_tot (n:=cg (d+1)) (by omega) (e.next j (by omega)) (h2 x f) (λp g e=> ?_) λg a b c e=> ?_) λv r=>k _ (by omega) (j.trans r (by omega))
  . exact tM (branches_tot (n:=10*cg d) (e.less (by omega)) p o q) λ_ h=>h.trans (GS.refl _ 0) (by omega)
  . exact tM (around_tot (n:=10*cg d) (e.less (by omega)) o a b c) λ_ h=>h.trans (GS.refl _ 0) (by omega)
def rg (i:Ab):List Int:=(AU i).getD []
theorem GF (i:Ab):AU i=some (rg i)/\(rg i).length≤3:=by
 have key:D6 (AU i) λr=>r.length≤3:=by
  unfold AU AU.J1 AU.J2 AU.J3
  repeat' first|exact tR (by simp)|refine tI (λ_=> ?_) λ_=> ?_
 obtain⟨r,a,b⟩:=key;unfold rg;rw[a];exact⟨rfl,b⟩
structure CK (c:BF):Prop where
 n:c.AA.length≤4
 i:∀t∈c.AA,t.A1.length≤8000000
theorem compile_tot {p:AQ} (h:MP p):D6 (BX p) λr=>CK r.1:=by
 have a:=h.t;have M:cg 4=336840:=rfl;unfold BX;obtain⟨v,c,_⟩:=check_tot h;refine tE c (tI (λ_=>tR ⟨by simp,by simp⟩) λf=>tB (World_tot h ⟨v.2,?_⟩) λw I=> ?_)
 . rw[c];have:v.1=0:=(by simpa using f);rw[← this]
 refine XN p.AA.length (λi (s:BF×Int)=>s.1.World=w/\s.1.AA.length=i/\∀t∈s.1.AA,t.A1.length≤8000000) (F:=λn s i=>BX.Aa p n s.1 s.2 i) (s0:=(_,_)) (by omega) ⟨rfl,rfl,by simp⟩ λn i s hi G k=> ?_;obtain⟨B,O,C⟩:=G;unfold BX.Aa BX.L1 BX.J4;refine tD (λ_=>tG (by omega) λx o=> ?_) λ_=>tR ⟨by simp only;omega,C⟩;have D:=h.l x o;have j:GB (A5.mk s.1.World x.HB [] 0 s.2) 4000000:=⟨by rw[B];exact I,D,by simp⟩;refine tB (vW 4 _ _ _ (XR (by omega)) (j.less (by omega)) (h.b x o)) λv c=> ?_;refine tB (dI (j.next (c.site (-1) v.next) (by omega)) _) λu H=> ?_;have e:=H.2;have g:=c.b;simp only[ABR]at e g;refine XN u.out.length (λ_ (t:An)=>t.A1=u.out) (F:=λn t k=>BX.C2 _ _ _ _ _ n t k) (by omega) rfl λm q t E a J=> ?_;unfold BX.C2 BX.L2 BX.J2 BX.J3;refine tD (λ_=>tG (by omega) λy _=> ?_) λ_=>tC (DK (by omega)) (k (_,_) (by omega) ⟨B,by simp;omega,?_⟩)
 . obtain⟨L,N⟩:=GF y;refine tE L (XN (rg y).length (λ_ (t:An)=>t.A1=u.out) (F:=λn t k=>BX.Gm _ _ _ n t k) (by omega) a λm q t E a K=> ?_);unfold BX.Gm BX.L3 BX.J1;exact tD (λ_=>tG (by omega) λ_ _=>K _ (by omega) a) λ_=>J _ (by omega) a
 . intro z d;rcases AAj.1 d with d|d
   . exact C z d
   . rw[AA4.1 d,a];omega
end
theorem take_one {b:Type} {l:List b} {i:Nat} (h:i<l.length) {P:b->Prop} (c:∀x∈l.take i,P x) (d:P l[i]):∀x∈l.take (i+1),P x:=by
 intro x a;rw[← AAk h]at a;rcases AAj.1 a with a|a
 . exact c x a
 . rw[AA4.1 a];exact d
theorem XB {a:Type} {l:List a} {i:Nat} (h:l.length≤i) {P:a->Prop} (b:∀x∈l.take i,P x):∀x∈l,P x:=by rwa [AA3 h]at b
theorem Fm {a:Type} {l:List a} {i:Int} (h:0≤i/\i<l.length):∃x,gt l i=some x/\l[i.toNat]? =some x/\x∈l:=by
 have:i.toNat<l.length:=by omega
 exact⟨l[i.toNat],by simp[gt,h.1,this],by simp[this],AAi this⟩
theorem Lu (i n:Int):D6 (DS i n) λb=>b=true->0≤i/\i<n:=by unfold DS DS.J1;exact tD (λh=>tR λa=>⟨h,AAa a⟩) λ_=>tR λh=>by cases h
def QT (w:AD) (b n:Int):Prop:=∃x,gt w.Cells b=some x/\x.Index=0/\x.B0≠0/\x.B0=n
theorem YE (w:AD) (b n:Int):D6 (E3 w b n) λr=>r=true->QT w b n:=by
 have N:∀{g:Prop},D6 (some false) λb:Bool=>b=true->g:=tR λh=>by cases h
 unfold E3 E3.J1;refine tB (Lu _ _) λv f=>tI (λh=> ?_) λ_=>N;obtain⟨x,a,_⟩:=Fm (f h);exact tE a (tI (λc=>tI (λd=>tR λe=>⟨x,a,eq_of_beq c,by simpa using d,eq_of_beq e⟩) λ_=>N) λ_=>N)
theorem bY (w:AD) (i:Ab):D6 (AY w i) λb=>b=true->(i.Op=7->QT w i.B i.N)/\(i.Op=9->QT w i.A i.N):=by
 have l:∀b,TT (AY.J8 i w b):=by
  intro b;unfold AY.J8 AY.J9 AY.Th
  repeat' first|exact tR trivial|refine tB (Lu _ _) λ_ _=> ?_|refine tI (λ_=> ?_) λ_=> ?_
 have k:∀b,TT (AY.J7 i w b):=by
  intro b;unfold AY.J7
  repeat' first|exact tR trivial|exact l _|refine tB (Lu _ _) λ_ _=> ?_|refine tI (λ_=> ?_) λ_=> ?_
 have j:∀b,TT (AY.J5 i w b):=by
  intro b;unfold AY.J5 AY.J6;refine tI (λ_=>tB (Lu _ _) λv a=>tI (λh=>tG (a h) λx _=>tR trivial) λ_=>tR trivial) λ_=> ?_
  repeat' first|exact k _|refine tI (λ_=> ?_) λ_=> ?_
 have e:∀b,TT (AY.J3 i w b):=by
  intro b;unfold AY.J3 AY.J4;refine tI (λ_=>tB (Lu _ _) λv a=>tI (λh=>tG (a h) λx _=>tR trivial) λ_=>tR trivial) λ_=> ?_
  repeat' first|exact j _|refine tI (λ_=> ?_) λ_=> ?_
 unfold AY AY.J1 AY.J2;have M:∀{o:ABp Bool},TT o->i.Op≠7->i.Op≠9->D6 o λb=>b=true->(i.Op=7->QT w i.B i.N)/\(i.Op=9->QT w i.A i.N):=λh f g=>tM h λ_ _ _=>⟨λh=>absurd h f,λh=>absurd h g⟩;refine tI (λh=>M (tB (Lu _ _) λv a=>tI (λh=>tG (a h) λx _=>tR trivial) λ_=>tR trivial) ?_ ?_) λp=>tI (λh=>M (tB (Lu _ _) λv a=>tI (λh=>tG (a h) λx _=>tR trivial) λ_=>tR trivial) ?_ ?_) λq=> ?_
 . rw[eq_of_beq h];decide
 . rw[eq_of_beq h];decide
 . rw[eq_of_beq h];decide
 . rw[eq_of_beq h];decide
 . refine tI (λh=>tB (YE _ _ _) λv a=>tR λd=>⟨λ_=>a d,λc=> ?_⟩) λm=>tI (λh=>tB (YE _ _ _) λv a=>tR λd=>⟨λc=> ?_,λ_=>a d⟩) λn=> ?_
   . rw[eq_of_beq h]at c;cases c
   . rw[eq_of_beq h]at c;cases c
   . exact M (tI (λ_=>e _) λ_=>e _) (by simpa using m) (by simpa using n)
def UF (o:Int):Bool:=decide (1≤o)&&decide (o≤5)
theorem PO (o:Int):FE o=some (UF o):=by unfold FE FE.J1 UF;by_cases h:o≥1<;>simp[h]
theorem pL {l:List Ab} (b:l.length≤8000000) (a:Int):TT (CP l a):=by unfold CP;refine XN (l.length+1) (λ_ _=>True) (F:=λn s i=>CP.Aa l n s i) (by omega) trivial λn i s hi _ k=> ?_;unfold CP.Aa CP.L1 CP.J1 CP.J2 CP.J3;refine tD (λ_=>tD (λ_=>tR trivial) λ_=>tD (λ_=>tR trivial) λ_=>tG (by omega) λx _=>tE (PO _) ?_) λ_=>tR trivial;exact tI (λ_=>tR trivial) λ_=>tI (λ_=>k _ (by omega) trivial) λ_=>k _ (by omega) trivial
def W5 (w:AD) (t:Int) (x:Ab):Prop:=if x.Op=28 then x.Site= -1 else∃y,gt w.A7 x.Site=some y/\y.Thread=t
structure VI (w:AD) (t R:Int) (x:Ab):Prop where
 o:1≤x.Op/\x.Op≤28
 g:∀y∈rg x,0≤y/\y<R
 s:W5 w t x
 a:(x.Op=7->QT w x.B x.N)/\(x.Op=9->QT w x.A x.N)
structure VT (w:AD) (t:Int) (c:An):Prop where
 r:0≤c.Br/\c.Br≤32
 i:∀x∈c.A1,VI w t c.Br x
theorem Uv (w:AD) (t:Int) {c:An} (E:c.A1.length≤8000000):D6 (AZ w t c) λb=>b=true->VT w t c:=by
 have N:∀{K:Prop},D6 (some false) λb:Bool=>b=true->K:=tR λh=>by cases h
 have j1:∀b,(b=false->0≤c.Br/\c.Br≤32)->D6 (AZ.J1 c t w b) λb=>b=true->VT w t c:=by
  intro b p;unfold AZ.J1;refine tI (λ_=>N) λD=>XN c.A1.length (λi (_:Unit)=>∀x∈c.A1.take i,VI w t c.Br x) (s0:=()) (F:=λn _ i=>AZ.Aa c t w n i) (by omega) (by simp) λn i _ hi r k=> ?_;unfold AZ.Aa AZ.L1 AZ.J6;refine tD (λo=>jM (by omega) ?_) λM=>tR λ_=>⟨p D,XB (by omega) r⟩;have o:i<c.A1.length:=by omega
  generalize H:c.A1[i]=x;have I:∀b,(b=false->(1≤x.Op/\x.Op≤28)/\W5 w t x/\(x.Op=7->QT w x.B x.N)/\(x.Op=9->QT w x.A x.N))->D6 (AZ.J4 (AZ.Aa c t w n) c i x b) λb=>b=true->VT w t c:=by intro b d;unfold AZ.J4;refine tI (λ_=>N) λe=>tE (GF x).1 (XN (rg x).length (λi (_:Unit)=>∀y∈(rg x).take i,0≤y/\y<c.Br) (s0:=()) (F:=λn _ i=>AZ.C2 _ c _ (rg x) n i) (by have:=(GF x).2;omega) (by simp) λm j _ L C J=> ?_);unfold AZ.C2 AZ.L2 AZ.J5;refine tD (λ_=>jM (by omega) (tB (Lu _ _) λv g=>tI (λ_=>N) λh=>J () (by omega) (take_one (by omega) C (g (by simpa using h))))) λ_=>k () o (take_one o r (by rw[H];exact⟨(d e).1,XB (by omega) C,(d e).2.1,(d e).2.2⟩))
  have q:∀b,(b=false->(1≤x.Op/\x.Op≤28)/\W5 w t x/\(x.Op=7->QT w x.B x.N)/\(x.Op=9->QT w x.A x.N))->D6 (AZ.J3 (AZ.Aa c t w n) c i x b) λb=>b=true->VT w t c:=by
   intro b d;unfold AZ.J3;refine tI (λ_=>N) λe=> ?_
   repeat' first|exact I _ λ_=>d e|refine tB (Lu _ _) λ_ _=> ?_|refine tI (λ_=> ?_) λ_=> ?_
  have l:∀b,(b=false->(1≤x.Op/\x.Op≤28)/\(x.Op=7->QT w x.B x.N)/\(x.Op=9->QT w x.A x.N))->D6 (AZ.J2 (AZ.Aa c t w n) c i t w x b) λb=>b=true->VT w t c:=by
   intro b d;unfold AZ.J2;refine tI (λ_=>N) λe=> ?_;obtain⟨u,z⟩:=d e;have T:∀b,b=true->D6 (AZ.J3 (AZ.Aa c t w n) c i x b) λb=>b=true->VT w t c:=λb p=>q b λh=>(by rw[p]at h;cases h);refine tI (λa=>tI (λ_=>T _ rfl) λf=>tI (λh=>by rw[eq_of_beq a]at h;cases h) λ_=>q _ λ_=>⟨u,?_,z⟩) λa=>tI (λ_=> ?_) λh=>by simp at h a;omega
   . unfold W5;rw[AAY (eq_of_beq a)];simpa using f
   . refine tB (Lu _ _) λv g=>tI (λ_=>T _ rfl) λh=> ?_;obtain⟨y,s,_⟩:=Fm (g (by simpa using h));refine tE s (q _ λG=>⟨u,?_,z⟩);unfold W5;rw[AAX (by simpa using a)];exact⟨y,s,by simpa using G⟩
  refine tD (λ_=>l _ λh=>by cases h) λ_=>tD (λ_=>l _ λh=>by cases h) λ_=> ?_;have d:1≤x.Op/\x.Op≤28:=by omega
  exact tI (λ_=>l _ λh=>by cases h) λ_=>tB (bY _ _) λv g=>tI (λ_=>l _ λh=>by cases h) λh=>NN (pL E _) λ_=>l _ λ_=>⟨d,g (by simpa using h)⟩
 unfold AZ;exact tD (λ_=>j1 _ λh=>by cases h) λ_=>tD (λ_=>j1 _ λh=>by cases h) λ_=>j1 _ λ_=>by omega
structure VC (c:BF):Prop where
 w:Ck c.World=true
 n:c.AA.length=c.World.AA.length
 t:∀(i:Nat) t,c.AA[i]? =some t->VT c.World i t
theorem VK {c:BF} (g:CK c):D6 (CB c) λb=>b=true->VC c:=by
 have N:∀{p:Prop},D6 (some false) λb:Bool=>b=true->p:=tR λh=>by cases h
 have hn:=g.n;have j1:∀b,(b=false->Ck c.World=true/\c.AA.length=c.World.AA.length)->D6 (CB.J1 c b) λb=>b=true->VC c:=by
  intro b f;unfold CB.J1;refine tI (λ_=>N) λd=>XN c.AA.length (λi (_:Unit)=>∀(j:Nat) x,j<i->c.AA[j]? =some x->VT c.World j x) (s0:=()) (F:=λn _ i=>CB.Aa c n i) (by omega) (λj _ h=>by omega) λn i _ hi l k=> ?_;unfold CB.Aa CB.L1 CB.J2;refine tD (λq=>jM (by omega) (tB (Uv _ _ (g.i _ (AAi (by omega)))) λv o=>tI (λ_=>N) λh=>k () (by omega) ?_)) λ_=>tR λ_=>⟨(f d).1,(f d).2,λj x a=>l j x ?_ a⟩
  . intro j x r a;by_cases e:j<i
    . exact l j x e a
    . obtain rfl:j=i:=(by omega);rw[AAT (by omega)]at a;rw[← AAR a];exact o (by simpa using h)
  . have:=(AAQ.1 a).1;omega
 unfold CB;refine tE (Ot _) (tI (λ_=>j1 _ λh=>by cases h) λh=>j1 _ λm=>⟨by simpa using h,?_⟩)
 have:=AAa (by simpa using m:decide ((c.AA.length:Int)=(c.World.AA.length:Int))=true);omega
def Kl {α:Type} (o:ABp α) (Q:α->Prop):Prop:=∀r,o=some r->Q r
theorem pR {a:Type} {r:a} {Q:a->Prop} (h:Q r):Kl (some r) Q:=λ_ e=>by cases e;exact h
theorem pN {a:Type} {Q:a->Prop}:Kl (none:ABp a) Q:=λ_ e=>by cases e
theorem pB {a b:Type} {o:ABp a} {Q:a->Prop} {f:a->ABp b} {R:b->Prop} (h:Kl o Q) (k:∀x,Q x->Kl (f x) R):Kl (o.bind f) R:=by
 intro r e;cases o with
 |none=>cases e
 |some x=>exact k x (h x rfl) r e
theorem pB' {a b:Type} {o:ABp a} {f:a->ABp b} {R:b->Prop} (k:∀x,Kl (f x) R):Kl (o.bind f) R:=pB (Q:=λ_=>True) (λ_ _=>trivial) λx _=>k x
theorem pE {a b:Type} {o:ABp a} {y:a} {f:a->ABp b} {R:b->Prop} (h:o=some y) (k:Kl (f y) R):Kl (o.bind f) R:=by rw[h];exact k
theorem pC {b:Type} {p:Prop} [Decidable p] {a:ABp b} {R:b->Prop} (k:p->Kl a R):Kl (if p then a else none) R:=by
 by_cases h:p
 . rw[AAY h];exact k h
 . rw[AAX h];exact pN
theorem pI {d:Type} {c:Bool} {a b:ABp d} {R:d->Prop} (e:c=true->Kl a R) (f:c=false->Kl b R):Kl (if c=true then a else b) R:=by
 cases c with
 |true=>exact e rfl
 |false=>exact f rfl
theorem pD {c:Type} {p:Prop} [Decidable p] {a b:ABp c} {R:c->Prop} (d:p->Kl a R) (e:¬p->Kl b R):Kl (if decide p=true then a else b) R:=by
 by_cases h:p
 . simpa[h]using d h
 . simpa[h]using e h
theorem pM {a:Type} {o:ABp a} {Q R:a->Prop} (h:Kl o Q) (k:∀x,Q x->R x):Kl o R:=λr e=>k r (h r e)
theorem pT {a:Type} {o:ABp a} {Q:a->Prop} (h:D6 o Q):Kl o Q:=by obtain⟨x,rfl,b⟩:=h;exact pR b
theorem pA {a:Type} {o:ABp a} {P Q:a->Prop} (h:Kl o P) (k:Kl o Q):Kl o λr=>P r/\Q r:=λr e=>⟨h r e,k r e⟩
theorem tP {a:Type} {o:ABp a} {P Q:a->Prop} (h:D6 o P) (k:Kl o Q):D6 o λr=>P r/\Q r:=by obtain⟨x,e,b⟩:=h;exact⟨x,e,b,k x e⟩
theorem pLs {σ b:Type} {Q:b->Prop} (N:Nat) (I:Nat->σ->Prop) {F:Nat->σ->Int->ABp b} (g:∀s i,F 0 s i=none) (k:N<1000000000000) {s0:σ} (c:I 0 s0)
 (h:∀n (i:Nat) s,i≤N->I i s->(∀a,i<N->I (i+1) a->Kl (F n a (Ap (i+1))) Q)->Kl (F (n+1) s i) Q):Kl (F BT s0 0) Q:=by
 have key:∀n (i:Nat) s,i≤N->I i s->Kl (F n s i) Q:=by
  intro n;induction n with
  |zero=>intro i s _ _;rw[g];exact pN
  |succ n ih=>intro i s d e;refine h n i s d e λa j f=> ?_;rw[Ao (by omega)];exact ih (i+1) a (by omega) f
 exact key BT 0 s0 (by omega) c
def StI (l:List Ab) (k m:Nat):Prop:=∃x,l[k]? =some x/\UF x.Op=true/\(x.Op=5/\x.A=(m:Int)∨x.Op≠5/\m=k+1)
def UI (l:List Ab) (a b:Nat):Nat->Nat->Nat->Prop
 |0,k,m=>k=m
 |n+1,k,m=>(a≤k/\k<b)/\∃j,StI l k j/\UI l a b n j m
def Ev (l:List Ab) (m:Nat):Prop:=∃x,l[m]? =some x/\UF x.Op=false
theorem UI.frame {l l':List Ab} {a b c d:Nat} (h:∀i,a≤i->i<b->l[i]? =l'[i]?) (f:c≤a) (g:b≤d):∀{n k m},UI l a b n k m->UI l' c d n k m
 |0,_,_,e=>e
 |n+1,k,m,⟨⟨h1,h2⟩,j,⟨x,x1,x2⟩,h4⟩=>⟨⟨by omega,by omega⟩,j,⟨x,by rw[← h k h1 h2];exact x1,x2⟩,h4.frame h f g⟩
theorem UI.trans {l:List Ab} {a b:Nat}:∀{n k m p q},UI l a b n k m->UI l a b p m q->UI l a b (n+p) k q
 |0,_,_,p,_,e,h=>by cases e;rw[ABS];exact h
 |n+1,_,_,p,_,⟨h1,j,h2,h3⟩,h=>by rw[Nat.succ_add];exact⟨h1,j,h2,h3.trans h⟩
theorem UI.one {l:List Ab} {a b k m:Nat} (h:a≤k/\k<b) (s:StI l k m):UI l a b 1 k m:=⟨h,m,s,rfl⟩
structure LV (w:AD) (lo hi:Int) (c:Nat) (x:Ab):Prop where
 o:1≤x.Op/\x.Op≤27
 ob:AY w x=some true
 g:∀y∈rg x,0≤y/\y<32
 s:lo≤x.Site/\x.Site<hi
 j:x.Op=5->0≤x.A/\x.A≤c
 b:x.Op=10->0≤x.B/\x.B≤c
structure SG (w:AD) (lo hi:Int) (l:List Ab) (a b c:Nat):Prop where
 h:a≤b/\b≤l.length
 i:∀k x,a≤k->k<b->l[k]? =some x->LV w lo hi c x
 f:∀k,a≤k->k<b->(∃n m,UI l a b n k m/\(a≤m/\m<b)/\Ev l m/\n+a+1≤b)∨∃n,UI l a b n k b/\n+k≤b
section
variable {w:AD} {lo hi lo' hi':Int} {l l':List Ab} {a b c d:Nat}
theorem LV.mono {x:Ab} (h:LV w lo hi c x) (a:lo'≤lo) (f:hi≤hi') (i:c≤d):LV w lo' hi' d x:=
 ⟨h.o,h.ob,h.g,⟨by have:=h.s;omega,by have:=h.s;omega⟩,λe=>by have:=h.j e;omega,λe=>by have:=h.b e;omega⟩
theorem SG.frame (h:SG w lo hi l a b c) (e:∀i,a≤i->i<b->l[i]? =l'[i]?) (t:b≤l'.length) (p:lo'≤lo) (q:hi≤hi') (s:c≤d):SG w lo' hi' l' a b d:=by
 refine⟨⟨h.h.1,t⟩,λk x g j u=>(h.i k x g j (by rw[e k g j];exact u)).mono p q s,λk g j=> ?_⟩;rcases h.f k g j with⟨n,m,r,o,⟨x,v,y⟩,hn⟩|⟨n,r,hn⟩
 . exact .inl ⟨n,m,r.frame e (by omega) (by omega),o,⟨x,by rw[← e m o.1 o.2];exact v,y⟩,hn⟩
 . exact .inr ⟨n,r.frame e (by omega) (by omega),hn⟩
theorem SG.mono (h:SG w lo hi l a b c) (e:lo'≤lo) (f:hi≤hi') (g:c≤d):SG w lo' hi' l a b d:=h.frame (λ_ _ _=>rfl) h.h.2 e f g
theorem SG.nil (h:a≤l.length):SG w lo hi l a a c:=⟨⟨by omega,h⟩,λk x _ _=>by omega,λk _ _=>by omega⟩
theorem SG.app {e:Nat} (h:SG w lo hi l a b c) (g:SG w lo hi l b e c):SG w lo hi l a e c:=by
 have B:=h.h;have y:=g.h;refine⟨⟨by omega,y.2⟩,λk x p q u=> ?_,λk p q=> ?_⟩
 . by_cases o:k<b
   . exact h.i k x p o u
   . exact g.i k x (by omega) q u
 . have up:∀{n k m},UI l b e n k m->UI l a e n k m:=λr=>r.frame (λ_ _ _=>rfl) (by omega) (by omega);have d:∀{n k m},UI l a b n k m->UI l a e n k m:=λr=>r.frame (λ_ _ _=>rfl) (by omega) (by omega);by_cases o:k<b
   . rcases h.f k p o with⟨n,m,r,v,ev,hn⟩|⟨n,r,hn⟩
     . exact .inl ⟨n,m,d r,by omega,ev,by omega⟩
     . by_cases j:b<e
       . rcases g.f b (by omega) j with⟨s,m,t,v,ev,z⟩|⟨s,t,z⟩
         . exact .inl ⟨n+s,m,(d r).trans (up t),by omega,ev,by omega⟩
         . exact .inr ⟨n+s,(d r).trans (up t),by omega⟩
       . have:b=e:=(by omega);subst this;exact .inr ⟨n,d r,by omega⟩
   . rcases g.f k (by omega) q with⟨n,m,r,v,ev,hn⟩|⟨n,r,hn⟩
     . exact .inl ⟨n,m,up r,by omega,ev,by omega⟩
     . exact .inr ⟨n,up r,hn⟩
theorem SG.one {x:Ab} (b:l[a]? =some x) (f:LV w lo hi c x) (e:x.Op≠5):SG w lo hi l a (a+1) c:=by
 have i:=(AAQ.1 b).1;refine⟨⟨by omega,by omega⟩,λk y g h d=> ?_,λk g h=> ?_⟩
 . obtain rfl:k=a:=(by omega);rw[b]at d;cases d;exact f
 . obtain rfl:k=a:=(by omega);cases hs:UF x.Op with
   |false=>exact .inl ⟨0,k,rfl,by omega,⟨x,b,hs⟩,by omega⟩
   |true=>exact .inr ⟨1,UI.one (by omega) ⟨x,b,hs,.inr ⟨e,rfl⟩⟩,by omega⟩
theorem SG.jump {j e:Nat} {x:Ab} (h:SG w lo hi l a j c) (v:l[j]? =some x) (C:LV w lo hi c x) (u:x.Op=5) (B:x.A=(e:Int)) (g:SG w lo hi l (j+1) e c):SG w lo hi l a e c:=by
 have E:=h.h;have z:=g.h;have s:StI l j e:=⟨x,v,by rw[u];rfl,.inl ⟨u,B⟩⟩;have up:∀{n k m},UI l (j+1) e n k m->UI l a e n k m:=λr=>r.frame (λ_ _ _=>rfl) (by omega) (by omega);have b:∀{n k m},UI l a j n k m->UI l a e n k m:=λr=>r.frame (λ_ _ _=>rfl) (by omega) (by omega);refine⟨⟨by omega,z.2⟩,λk y q t d=> ?_,λk q t=> ?_⟩
 . by_cases p:k<j
   . exact h.i k y q p d
   . by_cases o:k=j
     . subst o;rw[v]at d;cases d;exact C
     . exact g.i k y (by omega) t d
 . by_cases p:k<j
   . rcases h.f k q p with⟨n,m,r,D,ev,hn⟩|⟨n,r,hn⟩
     . exact .inl ⟨n,m,b r,by omega,ev,by omega⟩
     . exact .inr ⟨n+1,(b r).trans (UI.one (by omega) s),by omega⟩
   . by_cases o:k=j
     . subst o;exact .inr ⟨1,UI.one (by omega) s,by omega⟩
     . rcases g.f k (by omega) t with⟨n,m,r,D,ev,hn⟩|⟨n,r,hn⟩
       . exact .inl ⟨n,m,up r,by omega,ev,by omega⟩
       . exact .inr ⟨n,up r,hn⟩
theorem SG.back {p j:Nat} {x y:Ab} (h:SG w lo hi l a p c) (H:l[p]? =some y) (B:LV w lo hi c y) (C:UF y.Op=false) (g:SG w lo hi l (p+1) j c) (v:l[j]? =some x) (O:LV w lo hi c x) (G:x.Op=5) (M:x.A=(a:Int)):SG w lo hi l a (j+1) c:=by
 have R:=h.h;have Q:=g.h;have S:=(AAQ.1 v).1;have s:StI l j a:=⟨x,v,by rw[G];rfl,.inl ⟨G,M⟩⟩;have up:∀{n k m},UI l (p+1) j n k m->UI l a (j+1) n k m:=λr=>r.frame (λ_ _ _=>rfl) (by omega) (by omega);have b:∀{n k m},UI l a p n k m->UI l a (j+1) n k m:=λr=>r.frame (λ_ _ _=>rfl) (by omega) (by omega);have o:Ev l p:=⟨y,H,C⟩
 -- from the beginning on
 have t:∃n m,UI l a (j+1) n a m/\(a≤m/\m<j+1)/\Ev l m/\n+a≤p:=by
  by_cases N:a<p
  . rcases h.f a (by omega) N with⟨n,m,r,J,ev,hn⟩|⟨n,r,hn⟩
    . exact⟨n,m,b r,by omega,ev,by omega⟩
    . exact⟨n,p,b r,by omega,o,by omega⟩
  . have:a=p:=(by omega);exact⟨0,p,this,by omega,o,by omega⟩
 obtain⟨K,I,L,E,F,T⟩:=t;refine⟨⟨by omega,by omega⟩,λk z D P e=> ?_,λk D P=>.inl ?_⟩
 . by_cases u:k<p
   . exact h.i k z D u e
   . by_cases q:k=p
     . subst q;rw[H]at e;cases e;exact B
     . by_cases d:k<j
       . exact g.i k z (by omega) d e
       . obtain rfl:k=j:=(by omega);rw[v]at e;cases e;exact O
 . by_cases u:k<p
   . rcases h.f k D u with⟨n,m,r,J,ev,hn⟩|⟨n,r,hn⟩
     . exact⟨n,m,b r,by omega,ev,by omega⟩
     . exact⟨n,p,b r,by omega,o,by omega⟩
   . by_cases q:k=p
     . subst q;exact⟨0,k,rfl,by omega,o,by omega⟩
     . by_cases d:k<j
       . rcases g.f k (by omega) d with⟨n,m,r,J,ev,hn⟩|⟨n,r,hn⟩
         . exact⟨n,m,up r,by omega,ev,by omega⟩
         . exact⟨n+(1+K),I,(up r).trans ((UI.one (by omega) s).trans L),E,F,by omega⟩
       . obtain rfl:k=j:=(by omega);exact⟨1+K,I,(UI.one (by omega) s).trans L,E,F,by omega⟩
end
end Go.Abs
