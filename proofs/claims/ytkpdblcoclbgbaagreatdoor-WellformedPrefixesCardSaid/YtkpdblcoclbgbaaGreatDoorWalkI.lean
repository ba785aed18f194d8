/- Typed programs of Go functions, and that the functions do what these say. -/
import Derived.Test.YtkpdblcoclbgbaaGreatDoorBaseA
import Derived.Test.YtkpdblcoclbgbaaGreatDoorWalkG
import Derived.Test.YtkpdblcoclbgbaaGreatDoorWalkH
import Derived.Test.YtkpdblcoclbgbaaGreatDoorWalkF
import Derived.Test.YtkpdblcoclbgbaaGreatDoorWalkC
import Derived.Shelf.Slices.SearchI
set_option linter.unusedSimpArgs false
set_option linter.unusedVariables false
namespace Go.Abs
open Go.Proofs
set_option maxRecDepth 100000
set_option maxHeartbeats 4000000
def pS:IC:=(Ra 0 [.K 4 0]
(Sq (Ra 5 [.C 0,.P .neq 5 0]
(Ci 6 (Rb 7 [.C 0,.M 4 7])))
(Rb 8 [.C 1,.M 4 8])))
def pU:Gi:=⟨[]⟩
def pV:List RV:=[.tmp 4]
def Dp (a b:Int):Option Int:=
if a != 0 then
some a
else
some b
theorem VW {a b r:Int} (h:Dp a b=some r):Says Tryz.prog 159 [si a,si b] (si r):=by
 refine wO mix Tryz.func159 (I:=⟨pS,pU,pV⟩) ?_
 simp only[pS,pU,pV]
 unfold Dp at h
 exact walk
def p7:IC:=(Ra 0 [.K 2 0]
(Sq (Ra 3 [.C 0]
(Ci 3 (Rb 0 [.K 2 7])))
(Rb 0 [.K 2 0])))
def p8:Gi:=⟨[]⟩
def p9:List RV:=[.tmp 2]
def BO (a:Bool):Option Int:=
if a then
some 7
else
some 0
theorem Oc {a:Bool} {r:Int} (h:BO a=some r):Says Tryz.prog 162 [sb a] (si r):=by
 refine wO mix Tryz.func162 (I:=⟨p7,p8,p9⟩) ?_
 simp only[p7,p8,p9]
 unfold BO at h
 exact walk
def nP:IC:=(Ra 0 [.b 3 [29,33,39,44,50,55,62,72,79,85,96,102,125,136,149,161,169,192,201,211,221,233,249,259,268,274,279] (.bx 11 (.t 1)),.K 4 0]
(Ra 15 [.D 0,.H 0 0 16,.A 2 17,.p 0 2,.b 5 [132,134,167,219] (.bx 2 (.c (.agg z17))),.S 2 5 18,.M 6 22]
(Ra 23 [.y 0 (.cp (.t 0)),.o (.EK 158 [] (.t 23) none [.c (si 7),.c (si 7),.c (Ao ⟨#[]⟩)]),.M 7 24]
(Ra 25 [.y 0 (.cp (.t 0)),.o (.EK 158 [] (.t 25) none [.c (si 8),.c (si 8),.c (Ao ⟨#[]⟩)]),.M 8 26]
(Ra 27 [.y 0 (.cp (.t 0)),.o (.EK 158 [] (.t 27) none [.c (si 3),.c (si 3),.c (Ao ⟨#[]⟩)]),.M 9 28]
(Sq (Ra 29 [.f 0 3]
(Bk 0 (Ra 32 [.q 30 1 31]
(Cn 31 (Sq (Ra 33 [.f 4 3,.Z 34,.Q 35 0]
(Ci 36 (Rb 37 [.A 2 5,.C 6,.f 2 3,.o (.call 160 [.t 37,.t 38,.t 40,.c (si 8),.c (si 1)] 0),.A 2 5,.C 6,.F 5 3,.A 4 44,.c 161 [42,43,45] 0,.c 159 [41,46] 0,.M 4 47])))
(Rb 48 [.A 2 5,.C 6,.f 2 3,.o (.call 160 [.t 48,.t 49,.t 51,.c (si 2),.c (si 2)] 0),.A 2 5,.C 6,.f 4 3,.o (.Lr 4 (.t 56) (.c (si 0))),.A 4 57,.c 161 [53,54,58] 0,.A 2 5,.C 6,.F 5 3,.A 4 62,.c 161 [60,61,63] 0,.c 159 [59,64] 0,.c 159 [52,65] 0,.M 4 66])) (Bw 1 (Ra 68 [.q 30 2 67]
(Cn 67 .skip (Rc 69 [.q 30 3 67])))
(Cn 67 (Rb 70 [.A 2 5,.C 6,.F 5 3,.A 4 72,.c 161 [70,71,73] 0,.M 4 74]) (Ra 76 [.q 30 4 75]
(Cn 75 (Rb 77 [.A 2 5,.C 6,.f 2 3,.o (.call 160 [.t 77,.t 78,.t 80,.c (si 3),.c (si 3)] 0),.C 7,.C 82,.G 83 false,.y 0 (.cp (.t 0)),.f 2 3,.o (.EK 158 [] (.t 84) none [.c (si 4),.c (si 4),.t 86]),.e,.V 83 87,.c 162 [88] 0,.c 159 [81,89] 0,.M 4 90]) (Bw 3 (Ra 92 [.q 30 5 91]
(Cn 91 .skip (Rc 93 [.q 30 6 91])))
(Cn 91 (Rb 94 [.A 2 5,.C 6,.f 2 3,.o (.call 160 [.t 94,.t 95,.t 97,.c (si 4),.c (si 4)] 0),.C 7,.C 99,.G 100 false,.y 0 (.cp (.t 0)),.f 2 3,.o (.EK 158 [] (.t 101) none [.c (si 5),.c (si 6),.t 103]),.e,.V 100 104,.c 162 [105] 0,.c 159 [98,106] 0,.M 4 107]) (Ra 109 [.q 30 7 108]
(Cn 108 (Rb 110 [.C 7,.c 162 [110] 0,.M 4 111]) (Ra 113 [.q 30 8 112]
(Cn 112 (Rb 114 [.C 7,.C 114,.G 115 false,.C 8,.e,.V 115 116,.c 162 [117] 0,.M 4 118]) (Bw 6 (Ra 120 [.q 30 9 119]
(Cn 119 .skip (Ra 121 [.q 30 10 119]
(Cn 119 .skip (Rc 122 [.q 30 11 119])))))
(Cn 119 (Ra 123 [.A 2 5,.C 6,.f 2 3,.o (.call 160 [.t 123,.t 124,.t 126,.c (si 5),.c (si 5)] 0),.M 10 127]
(Sq (Ra 128 [.C 10,.P .neq 128 0]
(Ci 129 (Rb 130 [.C 10,.M 4 130])))
(Ra 131 [.y 0 (.cp (.t 0)),.f 0 5,.f 0 5,.f 2 3,.c 134 [135,137] 0,.I 6 133 138,.U 5 139,.o (.EK 158 [] (.t 131) none [.c (si 4),.c (si 4),.t 141]),.M 11 142]
(Rb 143 [.C 7,.C 143,.G 144 false,.C 11,.N 145,.e,.V 144 146,.C 147,.G 148 false,.f 0 3,.P .eql 150 9,.C 151,.G 152 true,.C 8,.G 148 false,.o (.pick (.t 152) (.t 153) (.c (sb false))),.e,.V 148 154,.c 162 [155] 0,.M 4 156])))) (Ra 158 [.q 30 12 157]
(Cn 157 (Ra 159 [.A 2 5,.C 6,.f 2 3,.o (.call 160 [.t 159,.t 160,.t 162,.c (si 7),.c (si 7)] 0),.M 12 163]
(Sq (Ra 164 [.C 12,.P .neq 164 0]
(Ci 165 (Rb 166 [.C 12,.M 4 166])))
(Ra 167 [.f 1 5,.f 2 3,.c 135 [168,170] 0,.M 13 171]
(Sq (Bw 8 (Rc 172 [.C 7,.C 172,.G 173 false,.C 8,.e,.V 173 174,.C 175,.G 176 false,.C 9,.e,.V 176 177,.C 178,.G 179 false,.C 13,.C 6,.O .eql 180 181,.e,.V 179 182,.C 183,.G 184 false,.C 13,.P .eql 185 0,.e,.V 184 186])
(Ci 187 (Rb 0 [.K 4 7])))
(Sq (Ra 188 [.r 0 4,.f 2 3,.c 43 [191,193] 0,.P .geq 194 0]
(Ci 195 (Rb 0 [.K 4 8])))
(Sq (.Vt [(0,0,9,196)] [i0 196 .fl,i1 197 0 (.cp (.t 0)),i1 198 0 (.FF (.t 197)),LQ 199 0 4 198,VD 200 0 199,LQ 201 3 2 3,iL 202 201,i0 203 (.Eg 1 [[Ao ⟨#[]⟩]] [(0,.t 202)]),i0 204 (.app 1 16 (.t 200) (.t 203)),i1 205 0 (.FF (.t 0)),LQ 206 0 4 205,iS 1 206 204])
(Rb 0 [.K 4 0]))))))) (Ra 208 [.q 30 13 207]
(Cn 207 (Rb 209 [.A 2 5,.C 6,.f 2 3,.o (.call 160 [.t 209,.t 210,.t 212,.c (si 7),.c (si 7)] 0),.C 7,.C 214,.G 215 false,.C 8,.e,.V 215 216,.C 217,.G 218 false,.f 1 5,.f 2 3,.c 135 [220,222] 0,.C 6,.O .eql 223 224,.e,.V 218 225,.c 162 [226] 0,.c 159 [213,227] 0,.M 4 228]) (Ra 230 [.q 30 14 229]
(Ci 229 (Ra 231 [.A 2 5,.C 6,.f 2 3,.o (.call 160 [.t 231,.t 232,.t 234,.c (si 6),.c (si 6)] 0),.C 7,.C 236,.G 237 false,.C 9,.e,.V 237 238,.c 162 [239] 0,.c 159 [235,240] 0,.M 14 241]
(Sq (Ra 242 [.C 14,.Q 242 0,.C 243,.G 244 true,.r 0 5,.f 2 3,.c 43 [248,250] 0,.P .geq 251 0,.e,.W 244 252]
(Ci 253 (Rc 0 [.K 14 8])))
(Sq (.Vt [(0,0,9,254)] [i0 254 .fl,i1 255 0 (.cp (.t 0)),i1 256 0 (.FF (.t 255)),LQ 257 0 5 256,VD 258 0 257,LQ 259 3 2 3,iL 260 259,i0 261 (.Eg 1 [[Ao ⟨#[]⟩]] [(0,.t 260)]),i0 262 (.app 1 16 (.t 258) (.t 261)),i1 263 0 (.FF (.t 0)),LQ 264 0 5 263,iS 1 264 262])
(Rb 265 [.C 14,.A 2 5,.C 6,.F 5 3,.A 4 268,.c 161 [266,267,269] 0,.c 159 [265,270] 0,.M 4 271]))))))))))))))))))))))))))
(Rb 272 [.A 2 5,.C 6,.f 2 3,.o (.call 160 [.t 272,.t 273,.t 275,.c (si 8),.c (si 8)] 0),.A 2 5,.C 6,.f 3 3,.o (.call 160 [.t 277,.t 278,.t 280,.c (si 6),.c (si 6)] 0),.C 7,.c 162 [282] 0,.c 159 [281,283] 0,.c 159 [276,284] 0,.M 4 285])))))))
def nQ:Gi:=⟨[(15,[0]),(16,[0]),(17,[0]),(19,[0]),(20,[0]),(21,[0]),(23,[0]),(25,[0]),(27,[0]),(29,[3]),(33,[3]),(39,[3]),(44,[3]),(50,[3]),(55,[3]),(62,[3]),(72,[3]),(79,[3]),(84,[0]),(85,[3]),(96,[3]),(101,[0]),(102,[3]),(125,[3]),(131,[0]),(132,[5]),(134,[5]),(136,[3]),(149,[3]),(161,[3]),(167,[5]),(169,[3]),(188,[0]),(189,[0]),(190,[0]),(191,[0]),(192,[3]),(197,[0]),(198,[0]),(199,[0]),(200,[0]),(201,[3]),(205,[0]),(206,[0]),(211,[3]),(219,[5]),(221,[3]),(233,[3]),(245,[0]),(246,[0]),(247,[0]),(248,[0]),(249,[3]),(255,[0]),(256,[0]),(257,[0]),(258,[0]),(259,[3]),(263,[0]),(264,[0]),(268,[3]),(274,[3]),(279,[3])]⟩
def nR:List RV:=[.tmp 4]
namespace Ay
def J2 (cv:A1) (ac:Int):Option (Int×A1):=
some (ac,cv)
def J4 (cw:A1) (ad:Int):Option (Int×A1):=
some (ad,cw)
def J5 (b:Bool×A1) (ae:Int):Option (Int×A1):=
some (ae,b.2)
def J7 (f:Bool×A1) (af:Int):Option (Int×A1):=
some (af,f.2)
def J8 (a:AK) (b:Bool×A1) (l:Bool):Option (Int×A1):=
if l then
some (7,b.2)
else
(CF b.2.IU a.Name).bind λbl=>
if decide (bl≥0)then
some (8,b.2)
else
if Aq (b.2.IU.length+1) 16=true then
some (0,(A1.mk b.2.p b.2.BG b.2.EN (b.2.IU++[a.Name]) b.2.RZ))
else none
def J9 (b:Bool×A1) (ai:Int):Option (Int×A1):=
some (ai,b.2)
def Z8 (a:AK) (b:Bool×A1) (c:A1) (aa:Int):Option (Int×A1):=
if Aq (b.2.RZ.length+1) 16=true then
(Dn c.p c.BG a.Expr).bind λce=>
(Dp aa ce).bind λcf=>
some (cf,(A1.mk b.2.p b.2.BG b.2.EN b.2.IU (b.2.RZ++[a.Name])))
else none
def XY (i:Int) (a:AK) (b:Bool×A1) (c:A1) (ab:Bool):Option (Int×A1):=
if ab then
Z8 a b c 8
else
Z8 a b c i
def Oj (a:AK) (b:Bool×A1) (c:A1) (i:Int):Option (Int×A1):=
if i==0 then
(CF b.2.RZ a.Name).bind λcd=>
XY i a b c (decide (cd≥0))
else
XY i a b c false
def J6 (a:AK) (d e b:Bool×A1) (c:A1) (j:Bool):Option (Int×A1):=
if j then
(CS c.p c.BG a.Name 5 5).bind λw=>
if w != 0 then
some (w,b.2)
else
(Bz c.p.Decls a.Name).bind λbc=>
(gt c.p.Decls bc).bind λcy=>
(BD b.2 4 4 cy.On).bind λf=>
if d.1 then
(BO true).bind λbe=>
J7 f be
else
if !f.1 then
(BO true).bind λbf=>
J7 f bf
else
if a.Op==9 then
(BO e.1).bind λbi=>
J7 f bi
else
(BO false).bind λbj=>
J7 f bj
else
if a.Op==12 then
(CS c.p c.BG a.Name 7 7).bind λx=>
if x != 0 then
some (x,b.2)
else
(Bv c.p.AA a.Name).bind λy=>
if d.1 then
J8 a b true
else
if e.1 then
J8 a b true
else
if b.1 then
J8 a b true
else
if y==c.BG then
J8 a b true
else
J8 a b (y==0)
else
if a.Op==13 then
(CS c.p c.BG a.Name 7 7).bind λq=>
if d.1 then
(BO true).bind λbo=>
(Dp q bo).bind λbp=>
J9 b bp
else
if e.1 then
(BO true).bind λbs=>
(Dp q bs).bind λbt=>
J9 b bt
else
(Bv c.p.AA a.Name).bind λbu=>
(BO (bu==c.BG)).bind λbv=>
(Dp q bv).bind λbw=>
J9 b bw
else
if a.Op==14 then
(CS c.p c.BG a.Name 6 6).bind λz=>
if d.1 then
(BO true).bind λbx=>
(Dp z bx).bind λbz=>
Oj a b c bz
else
(BO b.1).bind λca=>
(Dp z ca).bind λcb=>
Oj a b c cb
else
(CS c.p c.BG a.Name 8 8).bind λci=>
(CS c.p c.BG a.Arg 6 6).bind λcj=>
(BO d.1).bind λcl=>
(Dp cj cl).bind λco=>
(Dp ci co).bind λcp=>
some (cp,b.2)
def J3 (a:AK) (d e b:Bool×A1) (c:A1) (p:Bool):Option (Int×A1):=
if p then
(CS c.p c.BG a.Name 4 4).bind λu=>
if d.1 then
(BO true).bind λav=>
(Dp u av).bind λaw=>
J4 b.2 aw
else
(BD b.2 5 6 a.Name).bind λv=>
(BO v.1).bind λax=>
(Dp u ax).bind λay=>
J4 v.2 ay
else
if a.Op==7 then
(BO d.1).bind λaz=>
some (az,b.2)
else
if a.Op==8 then
if d.1 then
(BO true).bind λba=>
J5 b ba
else
(BO e.1).bind λbb=>
J5 b bb
else
if a.Op==9 then
J6 a d e b c (a.Op==9)
else
if a.Op==10 then
J6 a d e b c (a.Op==10)
else
J6 a d e b c (a.Op==11)
def J1 (a:AK) (d e b:Bool×A1) (c:A1) (o:Bool):Option (Int×A1):=
if o then
(Dn c.p c.BG a.Expr).bind λal=>
some (al,b.2)
else
if a.Op==4 then
(CS c.p c.BG a.Name 3 3).bind λs=>
if d.1 then
(BO true).bind λao=>
(Dp s ao).bind λap=>
J2 b.2 ap
else
(BD b.2 4 4 a.Name).bind λt=>
(BO t.1).bind λaq=>
(Dp s aq).bind λau=>
J2 t.2 au
else
if a.Op==5 then
J3 a d e b c (a.Op==5)
else
J3 a d e b c (a.Op==6)
end Ay
section
open Ay
def Ay (c:A1) (a:AK):Option (Int×A1):=
(BD c 7 7 (⟨#[]⟩:ByteArray)).bind λd=>
(BD d.2 8 8 (⟨#[]⟩:ByteArray)).bind λe=>
(BD e.2 3 3 (⟨#[]⟩:ByteArray)).bind λb=>
if a.Op==1 then
if(a.Index.length:Int)==0 then
(CS c.p c.BG a.Name 8 1).bind λbd=>
(Dn c.p c.BG a.Expr).bind λbq=>
(Dp bd bq).bind λcc=>
some (cc,b.2)
else
(CS c.p c.BG a.Name 2 2).bind λcq=>
(gt a.Index 0).bind λcx=>
(Dn c.p c.BG cx).bind λcs=>
(Dn c.p c.BG a.Expr).bind λct=>
(Dp cs ct).bind λcu=>
(Dp cq cu).bind λaj=>
some (aj,b.2)
else
if a.Op==2 then
J1 a d e b c (a.Op==2)
else
J1 a d e b c (a.Op==3)
theorem Nt {c:A1} {a:AK} {r:Int×A1} (h:Ay c a=some r):A5 Tryz.prog 136 [bA 6 (Es c),.agg [si a.Op,si a.D4,Ao a.Name,Ao a.Arg,vS 4 Av a.Index,si a.Expr.Op,si a.Expr.N,Ao a.Expr.Name,vS 4 Av a.Expr.L,vS 11 An a.Body,vS 11 An a.Else]] (si r.1) [bA 6 (Es r.2),.dead]:=by
 refine wL mix Tryz.func136 (I:=⟨nP,nQ,nR⟩) ?_
 simp only[nP,nQ,nR]
 have a1:= @Kj
 have a2:= @Lu
 have a3:= @SK
 have a4:= @VW
 have a5:= @Oc
 have a6:= @Gd
 have a7:= @G9
 have a8:= @FB
 have c8:=λn1 n2 n3 n4:Nat=>B7 8 λτ=>∃(b:Bool×A1) (l:Bool),(τ 0=bA 6 (Es b.2)/\τ 3=bA 11 [si a.Op,si a.D4,Ao a.Name,Ao a.Arg,vS 4 Av a.Index,si a.Expr.Op,si a.Expr.N,Ao a.Expr.Name,vS 4 Av a.Expr.L,vS 11 An a.Body,vS 11 An a.Else]/\τ 187=sb l)/\J8 a b l=some r
 have c6:=λn1 n2 n3 n4:Nat=>B7 6 λτ=>∃(d e b:Bool×A1) (j:Bool),(τ 0=bA 6 (Es b.2)/\τ 3=bA 11 [si a.Op,si a.D4,Ao a.Name,Ao a.Arg,vS 4 Av a.Index,si a.Expr.Op,si a.Expr.N,Ao a.Expr.Name,vS 4 Av a.Expr.L,vS 11 An a.Body,vS 11 An a.Else]/\τ 5=bA 2 (Bb c.p)/\τ 6=si c.BG/\τ 7=sb d.1/\τ 8=sb e.1/\τ 9=sb b.1/\τ 30=si a.Op/\τ 119=sb j)/\J6 a d e b c j=some r
 have c3:=λn1 n2 n3 n4:Nat=>B7 3 λτ=>∃(d e b:Bool×A1) (p:Bool),(τ 0=bA 6 (Es b.2)/\τ 3=bA 11 [si a.Op,si a.D4,Ao a.Name,Ao a.Arg,vS 4 Av a.Index,si a.Expr.Op,si a.Expr.N,Ao a.Expr.Name,vS 4 Av a.Expr.L,vS 11 An a.Body,vS 11 An a.Else]/\τ 5=bA 2 (Bb c.p)/\τ 6=si c.BG/\τ 7=sb d.1/\τ 8=sb e.1/\τ 9=sb b.1/\τ 30=si a.Op/\τ 91=sb p)/\J3 a d e b c p=some r
 have c1:=λn1 n2 n3 n4:Nat=>B7 1 λτ=>∃(d e b:Bool×A1) (o:Bool),(τ 0=bA 6 (Es b.2)/\τ 3=bA 11 [si a.Op,si a.D4,Ao a.Name,Ao a.Arg,vS 4 Av a.Index,si a.Expr.Op,si a.Expr.N,Ao a.Expr.Name,vS 4 Av a.Expr.L,vS 11 An a.Body,vS 11 An a.Else]/\τ 5=bA 2 (Bb c.p)/\τ 6=si c.BG/\τ 7=sb d.1/\τ 8=sb e.1/\τ 9=sb b.1/\τ 30=si a.Op/\τ 67=sb o)/\J1 a d e b c o=some r
 unfold Ay at h
 exact walk
end
def lJ:IC:=(Ra 0 [.K 4 0,.K 5 0]
(Sq (Ra 0 [.K 6 0]
(Bl 0 (Sq (Ra 10 [.C 6,.C 1,.Z 11,.O .lss 10 12]
(cX 13 0))
(Sq (Bk 1 (Ra 16 [.C 1,.C 6,.I 11 16 17,.A 11 18,.b 7 [33,48,57] (.bx 11 (.c (.agg z8))),.S 11 7 19]
(Ra 20 [.y 0 (.cp (.t 0)),.A 11 7,.o (.EK 136 [] (.t 20) none [.t 21]),.M 8 22]
(Bw 1 (Ra 23 [.r 0 3,.Z 26,.P .add 27 1,.P .gtr 28 6]
(Ci 29 (Rc 0 [.K 8 2])))
(Sq (Ra 30 [.C 8,.P .neq 30 0]
(Ci 31 (Rb 32 [.C 8,.f 1 7,.M 4 32,.M 5 34])))
(Sq (.tO ⟨42,43,45,7,8,9,11,12⟩ [i1 35 0 (.cp (.t 0)),i1 36 0 (.FF (.t 35)),LQ 37 0 3 36,VD 38 0 37,iA 39 11 7,iZ 40 38,i0 41 (.Eg 11 [z8] [(0,.c (.agg z8))]),⟨some ⟨42,[43],[]⟩,.app 11 176 (.t 38) (.t 41),none⟩,rV 43 42 11 42 40,iS 11 43 39,i1 44 0 (.FF (.t 35)),LQ 45 0 3 44,⟨none,.q9 (.t 45),none⟩])
(Ra 47 [.y 0 (.cp (.t 0)),.f 9 7,.o (.EK 105 [] (.t 47) none [.t 49]),.w 46,.C 50,.w 51,.o (.ext (.t 46) 0),.o (.ext (.t 46) 1),.M 8 51,.M 9 52]
(Sq (Ra 53 [.C 8,.Q 53 0]
(Ci 54 (Rc 56 [.y 0 (.cp (.t 0)),.f 10 7,.o (.EK 105 [] (.t 56) none [.t 58]),.w 55,.C 59,.w 60,.o (.ext (.t 55) 0),.o (.ext (.t 55) 1),.M 8 60,.M 9 61])))
(Sq (.Vt [(0,0,12,62)] [i0 62 .fl,i1 63 0 (.cp (.t 0)),i1 64 0 (.FF (.t 63)),LQ 65 0 3 64,VD 66 0 65,i1 67 0 (.cp (.t 0)),i1 68 0 (.FF (.t 67)),LQ 69 0 3 68,VD 70 0 69,iZ 71 70,iP 72 .sub 71 1,i0 73 (.UM 11 false (.t 66) none (some (.t 72)) none),i1 74 0 (.FF (.t 0)),LQ 75 0 3 74,iS 1 75 73])
(Ra 76 [.C 8,.P .neq 76 0]
(Ci 77 (Rb 78 [.C 8,.C 9,.M 4 78,.M 5 79]))))))))))))
(Rc 14 [.C 6,.P .add 14 1,.M 6 15])))))
(Rb 0 [.K 4 0,.K 5 0])))
def lK:Gi:=⟨[(20,[0]),(23,[0]),(24,[0]),(25,[0]),(26,[0]),(33,[7]),(35,[0]),(36,[0]),(37,[0]),(38,[0]),(43,[42]),(44,[0]),(45,[0]),(47,[0]),(48,[7]),(56,[0]),(57,[7]),(63,[0]),(64,[0]),(65,[0]),(66,[0]),(67,[0]),(68,[0]),(69,[0]),(70,[0]),(74,[0]),(75,[0])]⟩
def lL:List RV:=[.tmp 4,.tmp 5]
namespace BR
def J3 (s:A1):Option (Int×Int×A1):=
some (0,0,s)
def J2 (L1:A1->Int->Option (Int×Int×A1)) (c:Int) (d:A1) (p q:Int):Option (Int×Int×A1):=
if 0≤(BE ((d.EN.length:Int)-1))/\((BE ((d.EN.length:Int)-1)).toNat)≤d.EN.length then
if p != 0 then
some (p,q,(A1.mk d.p d.BG (d.EN.take ((BE ((d.EN.length:Int)-1)).toNat)) d.IU d.RZ))
else
L1 (A1.mk d.p d.BG (d.EN.take ((BE ((d.EN.length:Int)-1)).toNat)) d.IU d.RZ) (BE (c+1))
else none
def J1 (L1:A1->Int->Option (Int×Int×A1)) (R105:A1->(List AK)->Option (Int×Int×A1)) (c:Int) (b:Int×A1) (a:AK) (i:Int):Option (Int×Int×A1):=
if i != 0 then
some (i,a.D4,b.2)
else
if Aq (b.2.EN.length+1) 176=true then
(gt (b.2.EN++[(AK.mk 0 0 (⟨#[]⟩:ByteArray) (⟨#[]⟩:ByteArray) [] (As.mk 0 0 (⟨#[]⟩:ByteArray) []) [] [])]) (b.2.EN.length:Int)).bind λt=>
(R105 (A1.mk b.2.p b.2.BG ((b.2.EN++[(AK.mk 0 0 (⟨#[]⟩:ByteArray) (⟨#[]⟩:ByteArray) [] (As.mk 0 0 (⟨#[]⟩:ByteArray) []) [] [])]).set b.2.EN.length a) b.2.IU b.2.RZ) a.Body).bind λj=>
if j.1==0 then
(R105 j.2.2 a.Else).bind λo=>
J2 L1 c o.2.2 o.1 o.2.1
else
J2 L1 c j.2.2 j.1 j.2.1
else none
def L1 (R105:A1->(List AK)->Option (Int×Int×A1)) (e:List AK) (L1:A1->Int->Option (Int×Int×A1)) (f:A1) (c:Int):Option (Int×Int×A1):=
if decide (c<(e.length:Int))then
(gt e c).bind λa=>
(Ay f a).bind λb=>
if decide ((BE ((b.2.EN.length:Int)+1))>6)then
J1 L1 R105 c b a 2
else
J1 L1 R105 c b a b.1
else
J3 f
def Ac (R105:A1->(List AK)->Option (Int×Int×A1)) (e:List AK):Nat->A1->Int->Option (Int×Int×A1)
|0,_,_=>none
|n+1,f,c=>L1 R105 e (Ac R105 e n) f c
end BR
section
open BR
def BR (R105:A1->(List AK)->Option (Int×Int×A1)) (l:A1) (e:List AK):Option (Int×Int×A1):=
Ac R105 e Bo l 0
theorem Ns {R105:A1->(List AK)->Option (Int×Int×A1)} (H105:∀{x0 x1 r},R105 x0 x1=some r->A5 Tryz.prog 105 [bA 6 (Es x0),vS 11 An x1] (.A9 [si r.1,si r.2.1]) [bA 6 (Es r.2.2),.dead]) {l:A1} {e:List AK} {r:Int×Int×A1} (h:BR R105 l e=some r):A5 Tryz.prog 105 [bA 6 (Es l),vS 11 An e] (.A9 [si r.1,si r.2.1]) [bA 6 (Es r.2.2),.dead]:=by
 refine wL mix Tryz.func105 (I:=⟨lJ,lK,lL⟩) ?_
 simp only[lJ,lK,lL]
 have a1:= @Nt
 have a2:= @H105
 have l1:=λn1 n2 n3 n4:Nat=>BM λn τ=>∃(f:A1) (c:Int),(τ 0=bA 6 (Es f)/\τ 1=vS 11 An e/\τ 6=si c)/\Ac R105 e n f c=some r
 have c1:=λn1 n2 n3 n4:Nat=>B7 1 λτ=>∃(c:Int) (b:Int×A1) (a:AK) (i:Int),(τ 0=bA 6 (Es b.2)/\τ 1=vS 11 An e/\τ 6=si c/\τ 7=bA 11 [si a.Op,si a.D4,Ao a.Name,Ao a.Arg,vS 4 Av a.Index,si a.Expr.Op,si a.Expr.N,Ao a.Expr.Name,vS 4 Av a.Expr.L,vS 11 An a.Body,vS 11 An a.Else]/\τ 8=si i)/\J1 (Ac R105 e n1) R105 c b a i=some r
 unfold BR at h
 exact walk
end
def Jh:Nat->(A1->(List AK)->Option (Int×Int×A1))
|0=>(λ_ _=>none)
|n+1=>BR ((Jh n))
def DR (n:Nat):A1->(List AK)->Option (Int×Int×A1):=(Jh n)
theorem Me (n:Nat):(∀{x0 x1 r},(DR n) x0 x1=some r->A5 Tryz.prog 105 [bA 6 (Es x0),.sl false 11 (x1.map An)] (.A9 [si r.1,si r.2.1]) [bA 6 (Es r.2.2),.dead]):=by
  induction n with
  |zero=>exactλh=>B9 h
  |succ n ih=>exactλh=>Ns ih h
theorem Mf {n:Nat}:∀{x0 x1 r},(DR n) x0 x1=some r->A5 Tryz.prog 105 [bA 6 (Es x0),.sl false 11 (x1.map An)] (.A9 [si r.1,si r.2.1]) [bA 6 (Es r.2.2),.dead]:=(Me n)
end Go.Abs
