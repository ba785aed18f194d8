/- Typed programs of Go functions, and that the functions do what these say. -/
import Derived.Test.YtkpdblcoclbgbaaGreatDoorBaseA
import Derived.Test.YtkpdblcoclbgbaaGreatDoorWalkB
import Derived.Test.YtkpdblcoclbgbaaGreatDoorWalkA
import Derived.Shelf.Slices.SearchI
set_option linter.unusedSimpArgs false
set_option linter.unusedVariables false
namespace Go.Abs
open Go.Proofs
set_option maxRecDepth 100000
set_option maxHeartbeats 4000000
def oR:IC:=(Ra 0 [.B 4 false]
(Rb 5 [.r 0 7,.C 1,.c 43 [8,9] 0,.P .geq 10 0,.M 4 11]))
def oS:Gi:=⟨[(5,[0]),(6,[0]),(7,[0]),(8,[0])]⟩
def oT:List RV:=[.tmp 4]
def Ck (a:AF) (b:ByteArray):Option (Bool×AF):=
(CF a.held b).bind λc=>
some (decide (c≥0),a)
theorem LW {a:AF} {b:ByteArray} {r:Bool×AF} (h:Ck a b=some r):A5 Tryz.prog 145 [bA 8 (Be a),Ao b] (sb r.1) [bA 8 (Be r.2),.dead]:=by
 refine wL mix Tryz.func145 (I:=⟨oR,oS,oT⟩) ?_
 simp only[oR,oS,oT]
 have a1:= @FB
 unfold Ck at h
 exact walk
def AAu:IC:=(Ra 6 [.o (.mv (.c (.own false 11 [])))]
(Ra 0 [.b 7 [25,31] (.mv (.c (.own false 11 [])))]
(Sq (Ra 0 [.K 8 0]
(Bl 0 (Sq (Ra 9 [.C 8,.C 2,.O .lss 9 10,.C 11,.G 12 true,.C 8,.P .eql 13 0,.C 14,.G 15 false,.p 0 2,.P .gtr 19 0,.G 12 true,.o (.pick (.t 15) (.c (sb true)) (.t 20)),.e,.W 12 21]
(cX 22 0))
(Sq (Bk 1 (Rc 25 [.y 7 (.cp (.t 7)),.y 0 (.cp (.t 0)),.C 1,.o (.EK 109 [] (.t 26) none [.t 27]),.o (.Eg 11 [z0] [(0,.t 28)]),.o (.app 11 176 (.t 25) (.t 29)),.b 7 [25,31] (.mv (.t 30))]))
(Rc 23 [.C 8,.P .add 23 1,.M 8 24])))))
(Rb 31 [.y 7 (.cp (.t 7)),.M 6 31]))))
def AAv:Gi:=⟨[(16,[0]),(17,[0]),(18,[0]),(25,[7]),(26,[0]),(31,[7])]⟩
def AAw:List RV:=[.tmp 6]
namespace Bg
def J2 (l:AF) (j:List AK):Option ((List AK)×AF):=
some (j,l)
def J1 (L1:AF->(List AK)->Int->Option ((List AK)×AF)) (R109:AF->Int->Option (AK×AF)) (a b:Int) (c:List AK) (d:AF) (o:Bool):Option ((List AK)×AF):=
if o then
(R109 d a).bind λi=>
if Aq (c.length+1) 176=true then
L1 i.2 (c++[i.1]) (BE (b+1))
else none
else
J2 d c
def L1 (R109:AF->Int->Option (AK×AF)) (a e:Int) (L1:AF->(List AK)->Int->Option ((List AK)×AF)) (d:AF) (c:List AK) (b:Int):Option ((List AK)×AF):=
if decide (b<e)then
if b==0 then
J1 L1 R109 a b c d true
else
J1 L1 R109 a b c d (decide (d.left>0))
else
J1 L1 R109 a b c d false
def Ac (R109:AF->Int->Option (AK×AF)) (a e:Int):Nat->AF->(List AK)->Int->Option ((List AK)×AF)
|0,_,_,_=>none
|n+1,d,c,b=>L1 R109 a e (Ac R109 a e n) d c b
end Bg
section
open Bg
def Bg (R109:AF->Int->Option (AK×AF)) (f:AF) (a e:Int):Option ((List AK)×AF):=
Ac R109 a e Bo f [] 0
theorem LX {R109:AF->Int->Option (AK×AF)} (H109:∀{x0 x1 r},R109 x0 x1=some r->A5 Tryz.prog 109 [bA 8 (Be x0),si x1] (.agg [si r.1.Op,si r.1.D4,Ao r.1.Name,Ao r.1.Arg,vS 4 Av r.1.Index,si r.1.Expr.Op,si r.1.Expr.N,Ao r.1.Expr.Name,vS 4 Av r.1.Expr.L,vS 11 An r.1.Body,vS 11 An r.1.Else]) [bA 8 (Be r.2),.dead]) {f:AF} {a e:Int} {r:(List AK)×AF} (h:Bg R109 f a e=some r):A5 Tryz.prog 73 [bA 8 (Be f),si a,si e] (vO 11 An r.1) [bA 8 (Be r.2),.dead,.dead]:=by
 refine wL mix Tryz.func73 (I:=⟨AAu,AAv,AAw⟩) ?_
 simp only[AAu,AAv,AAw]
 have a1:= @H109
 have l1:=λn1 n2 n3 n4:Nat=>BM λn τ=>∃(d:AF) (c:List AK) (b:Int),(τ 0=bA 8 (Be d)/\τ 1=si a/\τ 2=si e/\τ 7=vO 11 An c/\τ 8=si b)/\Ac R109 a e n d c b=some r
 unfold Bg at h
 exact walk
end
def lV:IC:=(Ra 4 [.o (.bx 11 (.c (.agg z0)))]
(Ra 13 [.p 0 2,.P .sub 16 1,.y 0 (.FF (.t 13)),.H 0 2 18,.S 1 19 17]
(Ra 20 [.r 0 0,.o (.EK 72 [] (.t 23) none [.c (si 18)]),.M 5 24]
(Bw 1 (Rc 25 [.C 1,.P .gtr 25 0,.C 26,.G 27 true,.p 0 2,.P .gtr 31 0,.e,.W 27 32,.C 33,.G 34 true,.p 0 4,.N 38,.e,.W 34 39,.M 6 40])
(Sq (Bk 0 (Ra 42 [.C 5,.P .lss 42 4,.M 41 43]
(Cn 41 (Rb 45 [.b 44 [46] (.Eg 1 [[Ao ⟨#[]⟩],[Ao ⟨#[]⟩],[Ao ⟨#[]⟩],[Ao ⟨#[]⟩]] [(0,.c (Ao ⟨#[120]⟩)),(1,.c (Ao ⟨#[121]⟩)),(2,.c (Ao ⟨#[120]⟩)),(3,.c (Ao ⟨#[118]⟩))]),.C 5,.J 44 1 44 45,.L 46,.y 0 (.cp (.t 0)),.o (.EK 142 [] (.t 48) none [.c (si 1)]),.c 74 [47,49] 1,.S 11 4 50]) (Ra 52 [.C 5,.q 52 4 51]
(Cn 51 (Sq (.Vt [(0,8,9,62)] [⟨some ⟨54,[60],[]⟩,.Eg 1 z20 [(0,.c (Ao ⟨#[97]⟩)),(1,.c (Ao ⟨#[98]⟩))],none⟩,i1 55 0 (.cp (.t 0)),i1 56 0 (.FF (.t 55)),LQ 57 0 0 56,VD 58 0 57,i0 59 (.EK 72 [] (.t 58) none [.c (si 2)]),rV 60 54 1 54 59,iL 61 60,i0 62 .fl,i0 63 (.EK 142 [] (.t 0) none [.c (si 1)]),i0 64 (.call 74 [.t 61,.t 63] 1),iS 11 4 64])
.ret) (Ra 66 [.C 5,.q 66 5 65]
(Cn 65 (Rb 68 [.y 0 (.cp (.t 0)),.o (.EK 142 [] (.t 68) none [.c (si 0)]),.o (.Eg 4 [z12] [(0,.t 69)]),.y 0 (.cp (.t 0)),.o (.EK 142 [] (.t 71) none [.c (si 1)]),.o (.Dc z0 [(0,1,.c (si 1)),(2,1,.c (Ao ⟨#[113]⟩)),(4,1,.t 70),(5,4,.t 72)]),.S 11 4 73]) (Bw 2 (Rc 75 [.C 5,.Q 75 6,.C 76,.G 77 true,.C 1,.P .gtr 78 0,.e,.W 77 79,.M 74 80])
(Cn 74 (Ra 81 [.y 0 (.cp (.t 0)),.o (.EK 142 [] (.t 81) none [.c (si 1)]),.y 0 (.cp (.t 0)),.C 1,.P .sub 84 1,.o (.EK 73 [] (.t 83) none [.t 85,.c (si 1)]),.o (.Dc z0 [(0,1,.c (si 2)),(5,4,.t 82),(9,1,.t 86)]),.b 7 [98,99] (.bx 11 (.c (.agg z0))),.S 11 7 87]
(Sq (Ra 88 [.r 0 0,.o (.EK 72 [] (.t 91) none [.c (si 2)]),.Q 92 1]
(Ci 93 (Rc 94 [.y 0 (.cp (.t 0)),.C 1,.P .sub 95 1,.o (.EK 73 [] (.t 94) none [.t 96,.c (si 1)]),.F 10 7,.S 1 98 97])))
(Rb 99 [.y 7 (.ld true 11 (.t 7)),.S 11 4 99]))) (Bw 4 (Rc 101 [.C 5,.Q 101 7,.C 102,.G 103 true,.C 1,.P .gtr 104 0,.e,.W 103 105,.M 100 106])
(Cn 100 (Ra 107 [.p 0 6,.M 8 110]
(Ra 111 [.D 0,.H 0 6 112,.x ⟨none,.st 1 (.t 113) (.c (sb true)),none⟩]
(Ra 114 [.o (.call 144 [.c (Ao ⟨#[98]⟩)] 1),.o (.call 75 [.c (si 2)] 1),.o (.call 143 [.c (si 13),.t 114,.t 115] 1),.y 0 (.cp (.t 0)),.C 1,.P .sub 118 1,.o (.EK 73 [] (.t 117) none [.t 119,.c (si 1)]),.o (.call 144 [.c (Ao ⟨#[98]⟩)] 1),.o (.call 75 [.c (si 1)] 1),.o (.call 143 [.c (si 6),.t 121,.t 122] 1),.o (.call 74 [.c (Ao ⟨#[98]⟩),.t 123] 1),.o (.Eg 11 [z0] [(0,.t 124)]),.o (.app 11 176 (.t 120) (.t 125)),.o (.Dc z0 [(0,1,.c (si 3)),(5,4,.t 116),(9,1,.t 126)]),.b 9 [132] (.bx 11 (.c (.agg z0))),.S 11 9 127]
(Ra 128 [.y 0 (.cp (.t 0)),.C 8,.y 0 (.FF (.t 128)),.H 0 6 130,.S 1 131 129]
(Rb 132 [.y 9 (.ld true 11 (.t 9)),.S 11 4 132]))))) (Bw 5 (Rc 134 [.C 5,.Q 134 8,.C 135,.G 136 false,.C 5,.P .eql 137 9,.e,.V 136 138,.C 139,.G 140 true,.C 6,.e,.W 140 141,.C 142,.G 143 true,.y 0 (.cp (.t 0)),.x ⟨some ⟨145,[148],[]⟩,.Eg 1 z20 [(0,.c (Ao ⟨#[109]⟩)),(1,.c (Ao ⟨#[110]⟩))],some (143,true)⟩,.w 146,.C 5,.P .sub 146 8,.y 145 (.Lr 1 (.t 145) (.t 147)),.L 148,.o (.EK 145 [] (.t 144) none [.t 149]),.N 150,.e,.W 143 151,.M 133 152])
(Cn 133 (Ra 154 [.b 153 [156] (.Eg 1 z20 [(0,.c (Ao ⟨#[109]⟩)),(1,.c (Ao ⟨#[110]⟩))]),.C 5,.P .sub 154 8,.J 153 1 153 155,.L 156,.M 10 157]
(Rb 158 [.C 10,.y 0 (.cp (.t 0)),.C 10,.C 1,.P .sub 161 1,.o (.EK 146 [] (.t 159) none [.t 160,.t 162]),.o (.Dc z0 [(0,1,.c (si 4)),(2,1,.t 158),(9,1,.t 163)]),.S 11 4 164])) (Bw 6 (Rc 166 [.C 5,.Q 166 10,.C 167,.G 168 false,.C 5,.P .eql 169 11,.e,.V 168 170,.C 171,.G 172 true,.C 6,.e,.W 172 173,.C 174,.G 175 true,.y 0 (.cp (.t 0)),.o (.EK 145 [] (.t 176) none [.c (Ao ⟨#[114]⟩)]),.N 177,.e,.W 175 178,.M 165 179])
(Cn 165 (Rb 180 [.C 5,.P .sub 180 10,.P .add 181 5,.y 0 (.cp (.t 0)),.C 1,.P .sub 184 1,.o (.EK 146 [] (.t 183) none [.c (Ao ⟨#[114]⟩),.t 185]),.o (.Dc z0 [(0,1,.t 182),(2,1,.c (Ao ⟨#[114]⟩)),(9,1,.t 186)]),.S 11 4 187]) (Bw 7 (Rc 189 [.C 5,.Q 189 12,.C 190,.G 191 true,.C 6,.e,.W 191 192,.M 188 193])
(Cn 188 (Ra 194 [.D 0,.H 0 4 195,.x ⟨none,.st 1 (.t 196) (.c (sb true)),none⟩]
(Ra 197 [.y 0 (.cp (.t 0)),.r 0 0,.o (.EK 72 [] (.t 201) none [.c (si 2)]),.o (.bin .add (.c (si 1)) (.t 202)),.o (.EK 73 [] (.t 197) none [.c (si 0),.t 203]),.o (.Dc z0 [(0,1,.c (si 7)),(9,1,.t 204)]),.b 11 [209] (.bx 11 (.c (.agg z0))),.S 11 11 205]
(Ra 206 [.D 0,.H 0 4 207,.x ⟨none,.st 1 (.t 208) (.c (sb false)),none⟩]
(Rb 209 [.y 11 (.ld true 11 (.t 11)),.S 11 4 209])))) (Bw 8 (Rc 211 [.C 5,.Q 211 13,.C 212,.G 213 true,.C 6,.e,.W 213 214,.C 215,.G 216 true,.p 0 5,.N 220,.e,.W 216 221,.M 210 222])
(Cn 210 (Ra 223 [.D 0,.H 0 5 224,.x ⟨none,.st 1 (.t 225) (.c (sb true)),none⟩]
(Ra 226 [.y 0 (.cp (.t 0)),.C 1,.P .sub 227 1,.o (.EK 73 [] (.t 226) none [.t 228,.c (si 2)]),.o (.Dc z0 [(0,1,.c (si 8)),(9,1,.t 229)]),.b 12 [234] (.bx 11 (.c (.agg z0))),.S 11 12 230]
(Ra 231 [.D 0,.H 0 5 232,.x ⟨none,.st 1 (.t 233) (.c (sb false)),none⟩]
(Rb 234 [.y 12 (.ld true 11 (.t 12)),.S 11 4 234])))) (Bw 9 (Rc 236 [.C 5,.Q 236 14,.C 237,.G 238 true,.C 6,.e,.W 238 239,.C 240,.G 241 true,.p 0 5,.N 245,.e,.W 241 246,.C 247,.G 248 true,.y 0 (.cp (.t 0)),.o (.EK 145 [] (.t 249) none [.c (Ao ⟨#[109]⟩)]),.N 250,.e,.W 248 251,.M 235 252])
(Cn 235 (Rb 253 [.o (.Dc z0 [(0,1,.c (si 9)),(2,1,.c (Ao ⟨#[99]⟩))]),.o (.call 144 [.c (Ao ⟨#[120]⟩)] 1),.o (.call 74 [.c (Ao ⟨#[97]⟩),.t 254] 1),.o (.Eg 11 [z0,z0] [(0,.t 253),(1,.t 255)]),.o (.Dc z0 [(0,1,.c (si 4)),(2,1,.c (Ao ⟨#[109]⟩)),(9,1,.t 256)]),.S 11 4 257]) (Bw 10 (Rc 259 [.C 5,.Q 259 15,.C 260,.G 261 true,.C 6,.e,.W 261 262,.C 263,.G 264 true,.y 0 (.cp (.t 0)),.o (.EK 145 [] (.t 265) none [.c (Ao ⟨#[109]⟩)]),.N 266,.e,.W 264 267,.M 258 268])
(Cn 258 (Rb 269 [.r 0 0,.o (.EK 72 [] (.t 272) none [.c (si 2)]),.o (.bin .add (.c (si 10)) (.t 273)),.o (.Dc z0 [(0,1,.t 274),(2,1,.c (Ao ⟨#[99]⟩))]),.o (.Eg 11 [z0] [(0,.t 275)]),.o (.Dc z0 [(0,1,.c (si 4)),(2,1,.c (Ao ⟨#[109]⟩)),(9,1,.t 276)]),.S 11 4 277]) (Bw 11 (Rc 279 [.C 5,.Q 279 16,.C 280,.G 281 true,.p 0 4,.N 285,.e,.W 281 286,.C 287,.G 288 true,.p 0 6,.N 292,.e,.W 288 293,.C 294,.G 295 true,.p 0 3,.N 299,.e,.W 295 300,.M 278 301])
(Cn 278 (Ra 302 [.D 0,.H 0 3 303,.x ⟨none,.st 1 (.t 304) (.c (sb true)),none⟩]
(Rb 305 [.y 0 (.cp (.t 0)),.o (.EK 142 [] (.t 305) none [.c (si 1)]),.o (.Dc z0 [(0,1,.c (si 14)),(2,1,.c (Ao ⟨#[102]⟩)),(5,4,.t 306)]),.S 11 4 307])) (Ra 309 [.C 5,.Q 309 17,.C 310,.G 311 true,.p 0 4,.N 315,.e,.W 311 316,.C 317,.G 318 true,.r 0 0,.o (.EK 72 [] (.t 322) none [.c (si 2)]),.P .eql 323 1,.e,.W 318 324,.M 308 325]
(Ci 308 (Rb 326 [.o (.Dc z0 [(0,1,.c (si 15)),(2,1,.c (Ao ⟨#[97]⟩)),(3,1,.c (Ao ⟨#[102]⟩))]),.S 11 4 326]))))))))))))))))))))))))))))
(Rb 327 [.y 0 (.cp (.t 0)),.o (.EK 142 [] (.t 327) none [.c (si 1)]),.o (.call 74 [.c (Ao ⟨#[120]⟩),.t 328] 1),.S 11 4 329]))))))
def lW:Gi:=⟨[(13,[0]),(14,[0]),(15,[0]),(18,[0]),(19,[0]),(20,[0]),(21,[0]),(22,[0]),(23,[0]),(28,[0]),(29,[0]),(30,[0]),(35,[0]),(36,[0]),(37,[0]),(46,[44]),(48,[0]),(55,[0]),(56,[0]),(57,[0]),(58,[0]),(60,[54]),(68,[0]),(71,[0]),(81,[0]),(83,[0]),(88,[0]),(89,[0]),(90,[0]),(91,[0]),(94,[0]),(98,[7]),(99,[7]),(107,[0]),(108,[0]),(109,[0]),(111,[0]),(112,[0]),(113,[0]),(117,[0]),(128,[0]),(130,[0]),(131,[0]),(132,[9]),(144,[0]),(148,[145]),(156,[153]),(159,[0]),(176,[0]),(183,[0]),(194,[0]),(195,[0]),(196,[0]),(197,[0]),(198,[0]),(199,[0]),(200,[0]),(201,[0]),(206,[0]),(207,[0]),(208,[0]),(209,[11]),(217,[0]),(218,[0]),(219,[0]),(223,[0]),(224,[0]),(225,[0]),(226,[0]),(231,[0]),(232,[0]),(233,[0]),(234,[12]),(242,[0]),(243,[0]),(244,[0]),(249,[0]),(265,[0]),(269,[0]),(270,[0]),(271,[0]),(272,[0]),(282,[0]),(283,[0]),(284,[0]),(289,[0]),(290,[0]),(291,[0]),(296,[0]),(297,[0]),(298,[0]),(302,[0]),(303,[0]),(304,[0]),(305,[0]),(312,[0]),(313,[0]),(314,[0]),(319,[0]),(320,[0]),(321,[0]),(322,[0]),(327,[0])]⟩
def lX:List RV:=[.cell 4 true 11]
namespace Af
def J3 (bi:AF) (bj:AK):Option (AK×AF):=
some (bj,bi)
def Z8 (ad:AF) (bl:Bool):Option (AK×AF):=
if bl then
some ((AK.mk 15 0 (⟨#[97]⟩:ByteArray) (⟨#[102]⟩:ByteArray) [] (As.mk 0 0 (⟨#[]⟩:ByteArray) []) [] []),ad)
else
(BX Bo ad 1).bind λbb=>
(DX (⟨#[120]⟩:ByteArray) bb.1).bind λca=>
some (ca,bb.2)
def XY (e:AF) (b:Int×Cm) (z:Bool):Option (AK×AF):=
if z then
(BX Bo (AF.mk e.t e.BG e.left true e.tx e.atomic e.loop e.held) 1).bind λaz=>
some ((AK.mk 14 0 (⟨#[102]⟩:ByteArray) (⟨#[]⟩:ByteArray) [] az.1 [] []),az.2)
else
if b.1==17 then
if !e.tx then
(BF e.t 2).bind λba=>
Z8 (AF.mk ba.2 e.BG e.left e.E5 e.tx e.atomic e.loop e.held) (ba.1==1)
else
Z8 e false
else
Z8 e false
def Oj (b:Int×Cm) (e:AF) (y:Bool):Option (AK×AF):=
if y then
(BF e.t 2).bind λay=>
some ((AK.mk 4 0 (⟨#[109]⟩:ByteArray) (⟨#[]⟩:ByteArray) [] (As.mk 0 0 (⟨#[]⟩:ByteArray) []) [(AK.mk (BE (10+ay.1)) 0 (⟨#[99]⟩:ByteArray) (⟨#[]⟩:ByteArray) [] (As.mk 0 0 (⟨#[]⟩:ByteArray) []) [] [])] []),(AF.mk ay.2 e.BG e.left e.E5 e.tx e.atomic e.loop e.held))
else
if b.1==16 then
if !e.tx then
if !e.loop then
XY e b (!e.E5)
else
XY e b false
else
XY e b false
else
XY e b false
def J9 (c:Bool) (b:Int×Cm) (q:AF) (x:Bool):Option (AK×AF):=
if x then
(GH (⟨#[120]⟩:ByteArray)).bind λbx=>
(DX (⟨#[97]⟩:ByteArray) bx).bind λbz=>
some ((AK.mk 4 0 (⟨#[109]⟩:ByteArray) (⟨#[]⟩:ByteArray) [] (As.mk 0 0 (⟨#[]⟩:ByteArray) []) [(AK.mk 9 0 (⟨#[99]⟩:ByteArray) (⟨#[]⟩:ByteArray) [] (As.mk 0 0 (⟨#[]⟩:ByteArray) []) [] []),bz] []),q)
else
if b.1==15 then
if c then
(Ck q (⟨#[109]⟩:ByteArray)).bind λax=>
Oj b ax.2 (!ax.1)
else
Oj b q false
else
Oj b q false
def J8 (R73:AF->Int->Int->Option ((List AK)×AF)) (d:Int) (f:AF) (c:Bool) (b:Int×Cm) (w:Bool):Option (AK×AF):=
if w then
(R73 (AF.mk f.t f.BG f.left f.E5 f.tx true f.loop f.held) (BE (d-1)) 2).bind λp=>
some ((AK.mk 8 0 (⟨#[]⟩:ByteArray) (⟨#[]⟩:ByteArray) [] (As.mk 0 0 (⟨#[]⟩:ByteArray) []) p.1 []),(AF.mk p.2.t p.2.BG p.2.left p.2.E5 p.2.tx false p.2.loop p.2.held))
else
if b.1==14 then
if c then
if !f.atomic then
(Ck f (⟨#[109]⟩:ByteArray)).bind λav=>
J9 c b av.2 (!av.1)
else
J9 c b f false
else
J9 c b f false
else
J9 c b f false
def J7 (R73:AF->Int->Int->Option ((List AK)×AF)) (d:Int) (f:AF) (c:Bool) (b:Int×Cm) (v:Bool):Option (AK×AF):=
if v then
(BF f.t 2).bind λau=>
(R73 (AF.mk au.2 f.BG f.left f.E5 true f.atomic f.loop f.held) 0 (BE (1+au.1))).bind λo=>
some ((AK.mk 7 0 (⟨#[]⟩:ByteArray) (⟨#[]⟩:ByteArray) [] (As.mk 0 0 (⟨#[]⟩:ByteArray) []) o.1 []),(AF.mk o.2.t o.2.BG o.2.left o.2.E5 false o.2.atomic o.2.loop o.2.held))
else
if b.1==13 then
if c then
J8 R73 d f c b (!f.atomic)
else
J8 R73 d f c b false
else
J8 R73 d f c b false
def J6 (R146:AF->ByteArray->Int->Option ((List AK)×AF)) (R73:AF->Int->Int->Option ((List AK)×AF)) (d:Int) (c:Bool) (b:Int×Cm) (f:AF) (u:Bool):Option (AK×AF):=
if u then
(R146 f (⟨#[114]⟩:ByteArray) (BE (d-1))).bind λaq=>
some ((AK.mk (BE ((BE (b.1-10))+5)) 0 (⟨#[114]⟩:ByteArray) (⟨#[]⟩:ByteArray) [] (As.mk 0 0 (⟨#[]⟩:ByteArray) []) aq.1 []),aq.2)
else
if b.1==12 then
J7 R73 d f c b c
else
J7 R73 d f c b false
def J5 (R146:AF->ByteArray->Int->Option ((List AK)×AF)) (R73:AF->Int->Int->Option ((List AK)×AF)) (d:Int) (c:Bool) (b:Int×Cm) (j:AF) (t:Bool):Option (AK×AF):=
if t then
(gt [(⟨#[109]⟩:ByteArray),(⟨#[110]⟩:ByteArray)] (BE (b.1-8))).bind λbf=>
(R146 j bf (BE (d-1))).bind λal=>
some ((AK.mk 4 0 bf (⟨#[]⟩:ByteArray) [] (As.mk 0 0 (⟨#[]⟩:ByteArray) []) al.1 []),al.2)
else
if b.1==10 then
if c then
(Ck j (⟨#[114]⟩:ByteArray)).bind λao=>
J6 R146 R73 d c b ao.2 (!ao.1)
else
J6 R146 R73 d c b j false
else
if b.1==11 then
if c then
(Ck j (⟨#[114]⟩:ByteArray)).bind λap=>
J6 R146 R73 d c b ap.2 (!ap.1)
else
J6 R146 R73 d c b j false
else
J6 R146 R73 d c b j false
def J4 (R146:AF->ByteArray->Int->Option ((List AK)×AF)) (R73:AF->Int->Int->Option ((List AK)×AF)) (d:Int) (a:AF) (c:Bool) (b:Int×Cm) (s:Bool):Option (AK×AF):=
if s then
(GH (⟨#[98]⟩:ByteArray)).bind λbo=>
(G4 2).bind λbp=>
(Ft 13 bo bp).bind λbq=>
(R73 (AF.mk b.2 a.BG (BE (a.left-1)) a.E5 a.tx a.atomic true a.held) (BE (d-1)) 1).bind λl=>
(GH (⟨#[98]⟩:ByteArray)).bind λbs=>
(G4 1).bind λbt=>
(Ft 6 bs bt).bind λbu=>
(DX (⟨#[98]⟩:ByteArray) bu).bind λbv=>
if Aq (l.1.length+1) 176=true then
some ((AK.mk 3 0 (⟨#[]⟩:ByteArray) (⟨#[]⟩:ByteArray) [] bq (l.1++[bv]) []),(AF.mk l.2.t l.2.BG l.2.left l.2.E5 l.2.tx l.2.atomic a.loop l.2.held))
else none
else
if b.1==8 then
if c then
(gt [(⟨#[109]⟩:ByteArray),(⟨#[110]⟩:ByteArray)] (BE (b.1-8))).bind λce=>
(Ck (AF.mk b.2 a.BG (BE (a.left-1)) a.E5 a.tx a.atomic a.loop a.held) ce).bind λai=>
J5 R146 R73 d c b ai.2 (!ai.1)
else
J5 R146 R73 d c b (AF.mk b.2 a.BG (BE (a.left-1)) a.E5 a.tx a.atomic a.loop a.held) false
else
if b.1==9 then
if c then
(gt [(⟨#[109]⟩:ByteArray),(⟨#[110]⟩:ByteArray)] (BE (b.1-8))).bind λcf=>
(Ck (AF.mk b.2 a.BG (BE (a.left-1)) a.E5 a.tx a.atomic a.loop a.held) cf).bind λaj=>
J5 R146 R73 d c b aj.2 (!aj.1)
else
J5 R146 R73 d c b (AF.mk b.2 a.BG (BE (a.left-1)) a.E5 a.tx a.atomic a.loop a.held) false
else
J5 R146 R73 d c b (AF.mk b.2 a.BG (BE (a.left-1)) a.E5 a.tx a.atomic a.loop a.held) false
def J2 (R146:AF->ByteArray->Int->Option ((List AK)×AF)) (R73:AF->Int->Int->Option ((List AK)×AF)) (d:Int) (a:AF) (c:Bool) (b:Int×Cm) (aa:Bool):Option (AK×AF):=
if aa then
(BX Bo (AF.mk b.2 a.BG (BE (a.left-1)) a.E5 a.tx a.atomic a.loop a.held) 1).bind λac=>
(R73 ac.2 (BE (d-1)) 1).bind λi=>
(BF i.2.t 2).bind λab=>
if ab.1==1 then
(R73 (AF.mk ab.2 i.2.BG i.2.left i.2.E5 i.2.tx i.2.atomic i.2.loop i.2.held) (BE (d-1)) 1).bind λaf=>
J3 af.2 (AK.mk 2 0 (⟨#[]⟩:ByteArray) (⟨#[]⟩:ByteArray) [] ac.1 i.1 af.1)
else
J3 (AF.mk ab.2 i.2.BG i.2.left i.2.E5 i.2.tx i.2.atomic i.2.loop i.2.held) (AK.mk 2 0 (⟨#[]⟩:ByteArray) (⟨#[]⟩:ByteArray) [] ac.1 i.1 [])
else
if b.1==7 then
J4 R146 R73 d a c b (decide (d>0))
else
J4 R146 R73 d a c b false
def J1 (R146:AF->ByteArray->Int->Option ((List AK)×AF)) (R73:AF->Int->Int->Option ((List AK)×AF)) (d:Int) (a:AF) (b:Int×Cm) (c:Bool):Option (AK×AF):=
if decide (b.1<4)then
(gt [(⟨#[120]⟩:ByteArray),(⟨#[121]⟩:ByteArray),(⟨#[120]⟩:ByteArray),(⟨#[118]⟩:ByteArray)] b.1).bind λcc=>
(BX Bo (AF.mk b.2 a.BG (BE (a.left-1)) a.E5 a.tx a.atomic a.loop a.held) 1).bind λae=>
(DX cc ae.1).bind λbw=>
some (bw,ae.2)
else
if b.1==4 then
(BF b.2 2).bind λaw=>
(gt [(⟨#[97]⟩:ByteArray),(⟨#[98]⟩:ByteArray)] aw.1).bind λcd=>
(BX Bo (AF.mk aw.2 a.BG (BE (a.left-1)) a.E5 a.tx a.atomic a.loop a.held) 1).bind λbc=>
(DX cd bc.1).bind λcb=>
some (cb,bc.2)
else
if b.1==5 then
(BX Bo (AF.mk b.2 a.BG (BE (a.left-1)) a.E5 a.tx a.atomic a.loop a.held) 0).bind λbd=>
(BX Bo bd.2 1).bind λbe=>
some ((AK.mk 1 0 (⟨#[113]⟩:ByteArray) (⟨#[]⟩:ByteArray) [bd.1] be.1 [] []),be.2)
else
if b.1==6 then
J2 R146 R73 d a c b (decide (d>0))
else
J2 R146 R73 d a c b false
end Af
section
open Af
def Af (R146:AF->ByteArray->Int->Option ((List AK)×AF)) (R73:AF->Int->Int->Option ((List AK)×AF)) (a:AF) (d:Int):Option (AK×AF):=
(BF a.t 18).bind λb=>
if decide (d>0)then
if decide ((BE (a.left-1))>0)then
J1 R146 R73 d a b (!a.tx)
else
J1 R146 R73 d a b false
else
J1 R146 R73 d a b false
theorem MY {R146:AF->ByteArray->Int->Option ((List AK)×AF)} (H146:∀{x0 x1 x2 r},R146 x0 x1 x2=some r->A5 Tryz.prog 146 [bA 8 (Be x0),Ao x1,si x2] (vO 11 An r.1) [bA 8 (Be r.2),.dead,.dead]) {R73:AF->Int->Int->Option ((List AK)×AF)} (H73:∀{x0 x1 x2 r},R73 x0 x1 x2=some r->A5 Tryz.prog 73 [bA 8 (Be x0),si x1,si x2] (vO 11 An r.1) [bA 8 (Be r.2),.dead,.dead]) {a:AF} {d:Int} {r:AK×AF} (h:Af R146 R73 a d=some r):A5 Tryz.prog 109 [bA 8 (Be a),si d] (.agg [si r.1.Op,si r.1.D4,Ao r.1.Name,Ao r.1.Arg,vS 4 Av r.1.Index,si r.1.Expr.Op,si r.1.Expr.N,Ao r.1.Expr.Name,vS 4 Av r.1.Expr.L,vS 11 An r.1.Body,vS 11 An r.1.Else]) [bA 8 (Be r.2),.dead]:=by
 refine wP mix Tryz.func109 (I:=⟨lV,lW,lX⟩) ?_
 simp only[lV,lW,lX]
 have a1:= @Fi
 have a2:= @LU
 have a3:= @KS
 have a4:= @H73
 have a5:= @NW
 have a6:= @KW
 have a7:= @KT
 have a8:= @H146
 have a9:= @LW
 have c11:=λn1 n2 n3 n4:Nat=>B7 11 λτ=>∃(e:AF) (b:Int×Cm) (z:Bool),(τ 0=bA 8 (Be e)/\τ 4=bA 11 z0/\τ 5=si b.1/\τ 278=sb z)/\XY e b z=some r
 have c10:=λn1 n2 n3 n4:Nat=>B7 10 λτ=>∃(b:Int×Cm) (e:AF) (y:Bool),(τ 0=bA 8 (Be e)/\τ 4=bA 11 z0/\τ 5=si b.1/\τ 258=sb y)/\Oj b e y=some r
 have c9:=λn1 n2 n3 n4:Nat=>B7 9 λτ=>∃(c:Bool) (b:Int×Cm) (q:AF) (x:Bool),(τ 0=bA 8 (Be q)/\τ 4=bA 11 z0/\τ 5=si b.1/\τ 6=sb c/\τ 235=sb x)/\J9 c b q x=some r
 have c8:=λn1 n2 n3 n4:Nat=>B7 8 λτ=>∃(f:AF) (c:Bool) (b:Int×Cm) (w:Bool),(τ 0=bA 8 (Be f)/\τ 1=si d/\τ 4=bA 11 z0/\τ 5=si b.1/\τ 6=sb c/\τ 210=sb w)/\J8 R73 d f c b w=some r
 have c7:=λn1 n2 n3 n4:Nat=>B7 7 λτ=>∃(f:AF) (c:Bool) (b:Int×Cm) (v:Bool),(τ 0=bA 8 (Be f)/\τ 1=si d/\τ 4=bA 11 z0/\τ 5=si b.1/\τ 6=sb c/\τ 188=sb v)/\J7 R73 d f c b v=some r
 have c6:=λn1 n2 n3 n4:Nat=>B7 6 λτ=>∃(c:Bool) (b:Int×Cm) (f:AF) (u:Bool),(τ 0=bA 8 (Be f)/\τ 1=si d/\τ 4=bA 11 z0/\τ 5=si b.1/\τ 6=sb c/\τ 165=sb u)/\J6 R146 R73 d c b f u=some r
 have c5:=λn1 n2 n3 n4:Nat=>B7 5 λτ=>∃(c:Bool) (b:Int×Cm) (j:AF) (t:Bool),(τ 0=bA 8 (Be j)/\τ 1=si d/\τ 4=bA 11 z0/\τ 5=si b.1/\τ 6=sb c/\τ 133=sb t)/\J5 R146 R73 d c b j t=some r
 have c4:=λn1 n2 n3 n4:Nat=>B7 4 λτ=>∃(c:Bool) (b:Int×Cm) (s:Bool),(τ 0=bA 8 [bA 2 (Ot b.2),si a.BG,si (BE (a.left-1)),sb a.E5,sb a.tx,sb a.atomic,sb a.loop,vO 1 eS a.held]/\τ 1=si d/\τ 4=bA 11 z0/\τ 5=si b.1/\τ 6=sb c/\τ 100=sb s)/\J4 R146 R73 d a c b s=some r
 have c2:=λn1 n2 n3 n4:Nat=>B7 2 λτ=>∃(c:Bool) (b:Int×Cm) (aa:Bool),(τ 0=bA 8 [bA 2 (Ot b.2),si a.BG,si (BE (a.left-1)),sb a.E5,sb a.tx,sb a.atomic,sb a.loop,vO 1 eS a.held]/\τ 1=si d/\τ 4=bA 11 z0/\τ 5=si b.1/\τ 6=sb c/\τ 74=sb aa)/\J2 R146 R73 d a c b aa=some r
 have c1:=λn1 n2 n3 n4:Nat=>B7 1 λτ=>∃(b:Int×Cm) (c:Bool),(τ 0=bA 8 [bA 2 (Ot b.2),si a.BG,si (BE (a.left-1)),sb a.E5,sb a.tx,sb a.atomic,sb a.loop,vO 1 eS a.held]/\τ 1=si d/\τ 4=bA 11 z0/\τ 5=si b.1/\τ 6=sb c)/\J1 R146 R73 d a b c=some r
 unfold Af at h
 exact walk
end
def oU:IC:=(Ra 6 [.o (.mv (.c (.own false 11 [])))]
(Ra 8 [.y 0 (.cp (.t 0)),.r 0 7,.C 1,.o (.Eg 1 [[Ao ⟨#[]⟩]] [(0,.t 13)]),.o (.app 1 16 (.t 12) (.t 14)),.y 0 (.FF (.t 8)),.H 0 7 16,.S 1 17 15]
(Ra 18 [.y 0 (.cp (.t 0)),.C 2,.r 0 0,.o (.EK 72 [] (.t 23) none [.c (si 2)]),.o (.bin .add (.c (si 1)) (.t 24)),.o (.EK 73 [] (.t 18) none [.t 19,.t 25]),.b 7 [41] (.mv (.t 26))]
(Sq (.Vt [(0,0,12,27)] [i0 27 .fl,i1 28 0 (.cp (.t 0)),i1 29 0 (.FF (.t 28)),LQ 30 0 7 29,VD 31 0 30,i1 32 0 (.cp (.t 0)),i1 33 0 (.FF (.t 32)),LQ 34 0 7 33,VD 35 0 34,iZ 36 35,iP 37 .sub 36 1,i0 38 (.UM 1 false (.t 31) none (some (.t 37)) none),i1 39 0 (.FF (.t 0)),LQ 40 0 7 39,iS 1 40 38])
(Rb 41 [.y 7 (.cp (.t 7)),.M 6 41])))))
def oV:Gi:=⟨[(8,[0]),(9,[0]),(10,[0]),(11,[0]),(12,[0]),(16,[0]),(17,[0]),(18,[0]),(20,[0]),(21,[0]),(22,[0]),(23,[0]),(28,[0]),(29,[0]),(30,[0]),(31,[0]),(32,[0]),(33,[0]),(34,[0]),(35,[0]),(39,[0]),(40,[0]),(41,[7])]⟩
def oW:List RV:=[.tmp 6]
def E2 (R73:AF->Int->Int->Option ((List AK)×AF)) (b:AF) (d:ByteArray) (c:Int):Option ((List AK)×AF):=
if Aq (b.held.length+1) 16=true then
(BF b.t 2).bind λe=>
(R73 (AF.mk e.2 b.BG b.left b.E5 b.tx b.atomic b.loop (b.held++[d])) c (BE (1+e.1))).bind λa=>
if 0≤(BE ((a.2.held.length:Int)-1))/\((BE ((a.2.held.length:Int)-1)).toNat)≤a.2.held.length then
some (a.1,(AF.mk a.2.t a.2.BG a.2.left a.2.E5 a.2.tx a.2.atomic a.2.loop (a.2.held.take ((BE ((a.2.held.length:Int)-1)).toNat))))
else none
else none
theorem LR {R73:AF->Int->Int->Option ((List AK)×AF)} (H73:∀{x0 x1 x2 r},R73 x0 x1 x2=some r->A5 Tryz.prog 73 [bA 8 (Be x0),si x1,si x2] (vO 11 An r.1) [bA 8 (Be r.2),.dead,.dead]) {b:AF} {d:ByteArray} {c:Int} {r:(List AK)×AF} (h:E2 R73 b d c=some r):A5 Tryz.prog 146 [bA 8 (Be b),Ao d,si c] (vO 11 An r.1) [bA 8 (Be r.2),.dead,.dead]:=by
 refine wL mix Tryz.func146 (I:=⟨oU,oV,oW⟩) ?_
 simp only[oU,oV,oW]
 have a1:= @Fi
 have a2:= @H73
 unfold E2 at h
 exact walk
def Dl:Nat->(AF->Int->Int->Option ((List AK)×AF))×(AF->Int->Option (AK×AF))×(AF->ByteArray->Int->Option ((List AK)×AF))
|0=>((λ_ _ _=>none),(λ_ _=>none),(λ_ _ _=>none))
|n+1=>(Bg ((Dl n).2.1),Af ((Dl n).2.2) ((Dl n).1),E2 ((Dl n).1))
def Cp (n:Nat):AF->Int->Int->Option ((List AK)×AF):=(Dl n).1
def D5 (n:Nat):AF->Int->Option (AK×AF):=(Dl n).2.1
def G3 (n:Nat):AF->ByteArray->Int->Option ((List AK)×AF):=(Dl n).2.2
theorem KU (n:Nat):(∀{x0 x1 x2 r},(Cp n) x0 x1 x2=some r->A5 Tryz.prog 73 [bA 8 (Be x0),si x1,si x2] (.own false 11 (r.1.map An)) [bA 8 (Be r.2),.dead,.dead])/\(∀{x0 x1 r},(D5 n) x0 x1=some r->A5 Tryz.prog 109 [bA 8 (Be x0),si x1] (.agg [si r.1.Op,si r.1.D4,Ao r.1.Name,Ao r.1.Arg,.sl false 4 (r.1.Index.map Av),si r.1.Expr.Op,si r.1.Expr.N,Ao r.1.Expr.Name,.sl false 4 (r.1.Expr.L.map Av),.sl false 11 (r.1.Body.map An),.sl false 11 (r.1.Else.map An)]) [bA 8 (Be r.2),.dead])/\(∀{x0 x1 x2 r},(G3 n) x0 x1 x2=some r->A5 Tryz.prog 146 [bA 8 (Be x0),Ao x1,si x2] (.own false 11 (r.1.map An)) [bA 8 (Be r.2),.dead,.dead]):=by
  induction n with
  |zero=>exact⟨λh=>B9 h,λh=>B9 h,λh=>B9 h⟩
  |succ n ih=>exact⟨λh=>LX ih.2.1 h,λh=>MY ih.2.2 ih.1 h,λh=>LR ih.1 h⟩
theorem KV {n:Nat}:∀{x0 x1 x2 r},(Cp n) x0 x1 x2=some r->A5 Tryz.prog 73 [bA 8 (Be x0),si x1,si x2] (.own false 11 (r.1.map An)) [bA 8 (Be r.2),.dead,.dead]:=(KU n).1
def kX:IC:=(Ra 0 [.b 1 [8,14,22,28,57] (.bx 2 (.t 0)),.B 2 false]
(Sq (Ra 0 [.K 3 0]
(Bl 0 (Sq (Ra 7 [.C 3,.f 0 1,.Z 9,.O .lss 7 10]
(cX 11 0))
(Sq (Bk 1 (Ra 14 [.f 0 1,.C 3,.I 6 15 16,.A 6 17,.c 132 [18] 0,.N 19]
(Ci 20 (Rb 0 [.B 2 false]))))
(Rc 12 [.C 3,.P .add 12 1,.M 3 13])))))
(Sq (Ra 0 [.K 4 0]
(Bl 2 (Sq (Ra 21 [.C 4,.f 1 1,.Z 23,.O .lss 21 24]
(cX 25 2))
(Sq (Bk 3 (Ra 28 [.f 1 1,.C 4,.I 4 29 30,.A 4 31,.b 5 [34,40,47,52] (.bx 4 (.c (.agg kM))),.S 4 5 32]
(Sq (Ra 0 [.K 6 0]
(Bl 4 (Sq (Ra 33 [.C 6,.f 2 5,.Z 35,.O .lss 33 36]
(cX 37 4))
(Sq (Bk 5 (Ra 40 [.f 2 5,.C 6,.I 1 41 42,.L 43,.c 42 [44] 0,.N 45]
(Ci 46 (Rb 0 [.B 2 false]))))
(Rc 38 [.C 6,.P .add 38 1,.M 6 39])))))
(Ra 47 [.f 0 5,.c 42 [48] 0,.N 49,.C 50,.G 51 false,.f 3 5,.c 133 [53] 0,.N 54,.e,.V 51 55]
(Ci 56 (Rb 0 [.B 2 false]))))))
(Rc 26 [.C 4,.P .add 26 1,.M 4 27])))))
(Rb 57 [.f 1 1,.Z 58,.P .gtr 59 0,.M 2 60]))))
def kY:Gi:=⟨[(8,[1]),(14,[1]),(22,[1]),(28,[1]),(34,[5]),(40,[5]),(47,[5]),(52,[5]),(57,[1])]⟩
def kZ:List RV:=[.tmp 2]
namespace Bh
def J5 (a:AL):Option Bool:=
some (decide ((a.AA.length:Int)>0))
def J4 (L2:Int->Option Bool) (b:Int):Option Bool:=
L2 (BE (b+1))
def J3 (L2:Int->Option Bool) (b:Int) (f:Bool):Option Bool:=
if f then
some false
else
J4 L2 b
def J2 (L2:Int->Option Bool) (b:Int) (c:CA):Option Bool:=
(BV c.Name).bind λl=>
if !l then
J3 L2 b true
else
(Ed Bo c.Body).bind λo=>
J3 L2 b (!o)
def L3 (L2:Int->Option Bool) (b:Int) (c:CA) (L3:Int->Option Bool) (e:Int):Option Bool:=
if decide (e<(c.EY.length:Int))then
(gt c.EY e).bind λq=>
(BV q).bind λj=>
if !j then
some false
else
L3 (BE (e+1))
else
J2 L2 b c
def Gx (L2:Int->Option Bool) (b:Int) (c:CA):Nat->Int->Option Bool
|0,_=>none
|n+1,e=>L3 L2 b c (Gx L2 b c n) e
def L2 (a:AL) (L2:Int->Option Bool) (b:Int):Option Bool:=
if decide (b<(a.AA.length:Int))then
(gt a.AA b).bind λc=>
Gx L2 b c Bo 0
else
J5 a
def Da (a:AL):Nat->Int->Option Bool
|0,_=>none
|n+1,b=>L2 a (Da a n) b
def J1 (a:AL):Option Bool:=
Da a Bo 0
def L1 (a:AL) (L1:Int->Option Bool) (d:Int):Option Bool:=
if decide (d<(a.Decls.length:Int))then
(gt a.Decls d).bind λp=>
(Bs p).bind λi=>
if !i then
some false
else
L1 (BE (d+1))
else
J1 a
def Ac (a:AL):Nat->Int->Option Bool
|0,_=>none
|n+1,d=>L1 a (Ac a n) d
end Bh
section
open Bh
def Bh (a:AL):Option Bool:=
Ac a Bo 0
theorem PW {a:AL} {r:Bool} (h:Bh a=some r):Says Tryz.prog 101 [.agg (Bb a)] (sb r):=by
 refine wO mix Tryz.func101 (I:=⟨kX,kY,kZ⟩) ?_
 simp only[kX,kY,kZ]
 have a1:= @FV
 have a2:= @Jy
 have a3:= @Lb
 have l2:=λn1 n2 n3 n4:Nat=>BM λn τ=>∃(b:Int),(τ 1=bA 2 (Bb a)/\τ 4=si b)/\Da a n b=some r
 have l3:=λn1 n2 n3 n4:Nat=>BM λn τ=>∃(b:Int) (c:CA) (e:Int),(τ 1=bA 2 (Bb a)/\τ 4=si b/\τ 5=bA 4 (GD c)/\τ 6=si e)/\Gx (Da a n2) b c n e=some r
 have l1:=λn1 n2 n3 n4:Nat=>BM λn τ=>∃(d:Int),(τ 1=bA 2 (Bb a)/\τ 3=si d)/\Ac a n d=some r
 unfold Bh at h
 exact walk
end
def nJ:IC:=(Ra 0 [.K 4 0]
(Sq (Ra 0 [.K 5 0]
(Bl 0 (Sq (Ra 6 [.C 5,.C 0,.Z 7,.O .lss 6 8]
(cX 9 0))
(Sq (Bk 1 (Ra 12 [.C 0,.C 5,.I 6 12 13,.U 2 14,.C 1,.O .eql 16 17]
(Ci 18 (Rb 19 [.C 5,.M 4 19]))))
(Rc 10 [.C 5,.P .add 10 1,.M 5 11])))))
(Rb 0 [.K 4 (-1)])))
def nK:Gi:=⟨[]⟩
def nL:List RV:=[.tmp 4]
namespace Bz
def J1:Option Int:=
some (-1)
def L1 (a:List DK) (b:ByteArray) (L1:Int->Option Int) (c:Int):Option Int:=
if decide (c<(a.length:Int))then
(gt a c).bind λd=>
if d.Name.toList==b.toList then
some c
else
L1 (BE (c+1))
else
J1
def Ac (a:List DK) (b:ByteArray):Nat->Int->Option Int
|0,_=>none
|n+1,c=>L1 a b (Ac a b n) c
end Bz
section
open Bz
def Bz (a:List DK) (b:ByteArray):Option Int:=
Ac a b Bo 0
theorem Gd {a:List DK} {b:ByteArray} {r:Int} (h:Bz a b=some r):Says Tryz.prog 134 [vS 6 G2 a,Ao b] (si r):=by
 refine wO mix Tryz.func134 (I:=⟨nJ,nK,nL⟩) ?_
 simp only[nJ,nK,nL]
 have l1:=λn1 n2 n3 n4:Nat=>BM λn τ=>∃(c:Int),(τ 0=vS 6 G2 a/\τ 1=Ao b/\τ 5=si c)/\Ac a b n c=some r
 unfold Bz at h
 exact walk
end
def lA:IC:=(Ra 0 [.K 2 0,.K 3 0]
(Ra 0 [.K 4 0,.K 5 0,.K 6 0,.K 7 0]
(Sq (Ra 0 [.K 8 0]
(Bl 0 (Sq (Ra 11 [.C 8,.C 0,.Z 12,.O .lss 11 13]
(cX 14 0))
(Sq (Bk 1 (Ra 17 [.C 0,.C 8,.I 6 17 18,.A 6 19,.b 9 [24,28,30,33,35,43,70,72,78,83,91] (.bx 6 (.c (.agg z5))),.S 6 9 20]
(Sq (Ra 21 [.C 0,.C 8,.o (.UM 6 true (.t 21) none (some (.t 22)) none),.f 2 9,.c 134 [23,25] 0,.P .geq 26 0]
(Ci 27 (Rb 28 [.f 1 9,.K 2 4,.M 3 29])))
(Sq (Ra 30 [.f 3 9,.P .gtr 31 4]
(Ci 32 (Rb 33 [.f 1 9,.K 2 2,.M 3 34])))
(Bw 3 (Ra 35 [.f 0 9]
(Bk 2 (Sq (Ra 40 [.q 36 1 39]
(Cn 39 .skip (Rc 41 [.q 36 2 39])))
(Cn 39 (Rc 42 [.C 4,.f 3 9,.o (.mm true (.t 44) (.c (si 1))),.O .add 42 45,.M 4 46]) (Sq (Ra 48 [.q 36 3 47]
(Cn 47 .skip (Rc 49 [.q 36 4 47])))
(Cn 47 (Rc 50 [.C 5,.P .add 50 1,.M 5 51]) (Ra 53 [.q 36 5 52]
(Cn 52 (Rc 54 [.C 6,.P .add 54 1,.M 6 55]) (Rc 37 [.C 7,.P .add 37 1,.M 7 38])))))))))
(Sq (Bw 4 (Rc 56 [.C 4,.P .gtr 56 12,.C 57,.G 58 false,.C 5,.P .gtr 59 4,.e,.V 58 60,.C 61,.G 62 false,.C 6,.P .gtr 63 2,.e,.V 62 64,.C 65,.G 66 false,.C 7,.P .gtr 67 2,.e,.V 66 68])
(Ci 69 (Rb 70 [.f 1 9,.K 2 2,.M 3 71])))
(Ra 72 [.f 0 9,.Q 73 5]
(Ci 74 (Ra 75 [.C 0,.C 8,.o (.UM 6 true (.t 75) none (some (.t 76)) none),.f 5 9,.c 134 [77,79] 0,.M 10 80]
(Sq (Ra 81 [.C 10,.P .lss 81 0]
(Ci 82 (Rb 83 [.f 1 9,.K 2 5,.M 3 84])))
(Ra 85 [.C 0,.C 10,.I 6 85 86,.U 0 87,.P .neq 89 3]
(Ci 90 (Rb 91 [.f 1 9,.K 2 6,.M 3 92])))))))))))))
(Rc 15 [.C 8,.P .add 15 1,.M 8 16])))))
(Rb 0 [.K 2 0,.K 3 0]))))
def lB:Gi:=⟨[(24,[9]),(28,[9]),(30,[9]),(33,[9]),(35,[9]),(43,[9]),(70,[9]),(72,[9]),(78,[9]),(83,[9]),(91,[9])]⟩
def lC:List RV:=[.tmp 2,.tmp 3]
namespace FC
def J6:Option (Int×Int):=
some (0,0)
def J5 (L1:Int->Int->Int->Int->Int->Option (Int×Int)) (b t:Int) (w u v:Int):Option (Int×Int):=
L1 t w u v (BE (b+1))
def J4 (L1:Int->Int->Int->Int->Int->Option (Int×Int)) (j l:Int) (o b:Int) (c:List DK) (p:Int) (a:DK) (q:Bool):Option (Int×Int):=
if q then
some (2,a.D4)
else
if a.Kind==5 then
if 0≤b/\b.toNat≤c.length then
(Bz (c.take b.toNat) a.On).bind λs=>
if decide (s<0)then
some (5,a.D4)
else
(gt c s).bind λaa=>
if aa.Kind != 3 then
some (6,a.D4)
else
J5 L1 b j p l o
else none
else
J5 L1 b j p l o
def J3 (L1:Int->Int->Int->Int->Int->Option (Int×Int)) (b:Int) (c:List DK) (a:DK) (j p:Int) (l o:Int):Option (Int×Int):=
if decide (j>12)then
J4 L1 j l o b c p a true
else
if decide (p>4)then
J4 L1 j l o b c p a true
else
if decide (l>2)then
J4 L1 j l o b c p a true
else
J4 L1 j l o b c p a (decide (o>2))
def J2 (L1:Int->Int->Int->Int->Int->Option (Int×Int)) (d e:Int) (f b:Int) (c:List DK) (i:Int) (a:DK) (y:Bool):Option (Int×Int):=
if y then
J3 L1 b c a d (BE (i+1)) e f
else
if a.Kind==5 then
J3 L1 b c a d i (BE (e+1)) f
else
J3 L1 b c a d i e (BE (f+1))
def J1 (L1:Int->Int->Int->Int->Int->Option (Int×Int)) (d e:Int) (f b:Int) (c:List DK) (i:Int) (a:DK) (x:Bool):Option (Int×Int):=
if x then
J3 L1 b c a (BE (d+(if 1>a.Bn then 1 else a.Bn))) i e f
else
if a.Kind==3 then
J2 L1 d e f b c i a (a.Kind==3)
else
J2 L1 d e f b c i a (a.Kind==4)
def L1 (c:List DK) (L1:Int->Int->Int->Int->Int->Option (Int×Int)) (d i:Int) (e f b:Int):Option (Int×Int):=
if decide (b<(c.length:Int))then
(gt c b).bind λa=>
if 0≤b/\b.toNat≤c.length then
(Bz (c.take b.toNat) a.Name).bind λz=>
if decide (z≥0)then
some (4,a.D4)
else
if decide (a.Bn>4)then
some (2,a.D4)
else
if a.Kind==1 then
J1 L1 d e f b c i a (a.Kind==1)
else
J1 L1 d e f b c i a (a.Kind==2)
else none
else
J6
def Ac (c:List DK):Nat->Int->Int->Int->Int->Int->Option (Int×Int)
|0,_,_,_,_,_=>none
|n+1,d,i,e,f,b=>L1 c (Ac c n) d i e f b
end FC
section
open FC
def FC (c:List DK):Option (Int×Int):=
Ac c Bo 0 0 0 0 0
theorem RA {c:List DK} {r:Int×Int} (h:FC c=some r):Says Tryz.prog 102 [vS 6 G2 c] (.A9 [si r.1,si r.2]):=by
 refine wO mix Tryz.func102 (I:=⟨lA,lB,lC⟩) ?_
 simp only[lA,lB,lC]
 have a1:= @Gd
 have l1:=λn1 n2 n3 n4:Nat=>BM λn τ=>∃(d i e f b:Int),(τ 0=vS 6 G2 c/\τ 4=si d/\τ 5=si i/\τ 6=si e/\τ 7=si f/\τ 8=si b)/\Ac c n d i e f b=some r
 have c4:=λn1 n2 n3 n4:Nat=>B7 4 λτ=>∃(j l o b p:Int) (a:DK) (q:Bool),(τ 0=vS 6 G2 c/\τ 4=si j/\τ 5=si p/\τ 6=si l/\τ 7=si o/\τ 8=si b/\τ 9=bA 6 (G2 a)/\τ 69=sb q)/\J4 (Ac c n1) j l o b c p a q=some r
 have c3:=λn1 n2 n3 n4:Nat=>B7 3 λτ=>∃(b:Int) (a:DK) (j p l o:Int),(τ 0=vS 6 G2 c/\τ 4=si j/\τ 5=si p/\τ 6=si l/\τ 7=si o/\τ 8=si b/\τ 9=bA 6 (G2 a))/\J3 (Ac c n1) b c a j p l o=some r
 unfold FC at h
 exact walk
end
def nM:IC:=(Ra 0 [.K 4 0]
(Sq (Ra 0 [.K 5 0]
(Bl 0 (Sq (Ra 6 [.C 5,.C 0,.Z 7,.O .lss 6 8]
(cX 9 0))
(Sq (Bk 1 (Ra 12 [.C 0,.C 5,.I 4 12 13,.U 0 14,.C 1,.O .eql 16 17]
(Ci 18 (Rb 19 [.C 5,.M 4 19]))))
(Rc 10 [.C 5,.P .add 10 1,.M 5 11])))))
(Rb 0 [.K 4 (-1)])))
def nN:Gi:=⟨[]⟩
def nO:List RV:=[.tmp 4]
namespace Bv
def J1:Option Int:=
some (-1)
def L1 (a:List CA) (b:ByteArray) (L1:Int->Option Int) (c:Int):Option Int:=
if decide (c<(a.length:Int))then
(gt a c).bind λd=>
if d.Name.toList==b.toList then
some c
else
L1 (BE (c+1))
else
J1
def Ac (a:List CA) (b:ByteArray):Nat->Int->Option Int
|0,_=>none
|n+1,c=>L1 a b (Ac a b n) c
end Bv
section
open Bv
def Bv (a:List CA) (b:ByteArray):Option Int:=
Ac a b Bo 0
theorem G9 {a:List CA} {b:ByteArray} {r:Int} (h:Bv a b=some r):Says Tryz.prog 135 [vS 4 GD a,Ao b] (si r):=by
 refine wO mix Tryz.func135 (I:=⟨nM,nN,nO⟩) ?_
 simp only[nM,nN,nO]
 have l1:=λn1 n2 n3 n4:Nat=>BM λn τ=>∃(c:Int),(τ 0=vS 4 GD a/\τ 1=Ao b/\τ 5=si c)/\Ac a b n c=some r
 unfold Bv at h
 exact walk
end
def lD:IC:=(Ra 0 [.b 1 [11,17,22,29,41,47,70,76] (.bx 2 (.t 0)),.K 2 0,.K 3 0]
(Sq (Ra 0 [.K 4 0]
(Bl 0 (Sq (Ra 10 [.C 4,.f 1 1,.Z 12,.O .lss 10 13]
(cX 14 0))
(Sq (Bk 1 (Ra 17 [.f 1 1,.C 4,.I 4 18 19,.A 4 20,.b 5 [24,33,38] (.bx 4 (.c (.agg kM))),.S 4 5 21]
(Ra 22 [.f 0 1,.f 0 5,.c 134 [23,25] 0,.P .geq 26 0,.C 27,.G 28 false,.f 1 1,.C 4,.o (.UM 4 true (.t 30) none (some (.t 31)) none),.f 0 5,.c 135 [32,34] 0,.P .geq 35 0,.e,.V 28 36]
(Ci 37 (Rb 38 [.f 1 5,.K 2 4,.M 3 39])))))
(Rc 15 [.C 4,.P .add 15 1,.M 4 16])))))
(Sq (Ra 0 [.K 6 0]
(Bl 2 (Sq (Ra 40 [.C 6,.f 1 1,.Z 42,.O .lss 40 43]
(cX 44 2))
(Sq (Bk 3 (Ra 47 [.f 1 1,.C 6,.I 4 48 49,.A 4 50,.b 7 [52,56,59,65,83,91] (.bx 4 (.c (.agg kM))),.S 4 7 51]
(Sq (Ra 52 [.f 2 7,.Z 53,.P .gtr 54 4]
(Ci 55 (Rb 56 [.f 1 7,.K 2 2,.M 3 57])))
(Ra 0 [.K 8 0]
(Bl 4 (Sq (Ra 58 [.C 8,.f 2 7,.Z 60,.O .lss 58 61]
(cX 62 4))
(Sq (Bk 5 (Ra 65 [.f 2 7,.C 8,.I 1 66 67,.L 68,.M 9 69]
(Ra 70 [.f 0 1,.C 9,.c 134 [71,72] 0,.P .geq 73 0,.C 74,.G 75 false,.f 1 1,.C 9,.c 135 [77,78] 0,.P .geq 79 0,.e,.V 75 80,.C 81,.G 82 false,.f 2 7,.C 8,.o (.UM 1 true (.t 84) none (some (.t 85)) none),.C 9,.c 43 [86,87] 0,.P .geq 88 0,.e,.V 82 89]
(Ci 90 (Rb 91 [.f 1 7,.K 2 4,.M 3 92])))))
(Rc 63 [.C 8,.P .add 63 1,.M 8 64]))))))))
(Rc 45 [.C 6,.P .add 45 1,.M 6 46])))))
(Rb 0 [.K 2 0,.K 3 0]))))
def lE:Gi:=⟨[(11,[1]),(17,[1]),(22,[1]),(24,[5]),(29,[1]),(33,[5]),(38,[5]),(41,[1]),(47,[1]),(52,[7]),(56,[7]),(59,[7]),(65,[7]),(70,[1]),(76,[1]),(83,[7]),(91,[7])]⟩
def lF:List RV:=[.tmp 2,.tmp 3]
namespace BU
def J5:Option (Int×Int):=
some (0,0)
def J4 (L2:Int->Option (Int×Int)) (c:Int):Option (Int×Int):=
L2 (BE (c+1))
def J3 (L3:Int->Option (Int×Int)) (d:Int) (b:CA) (l:Bool):Option (Int×Int):=
if l then
some (4,b.D4)
else
L3 (BE (d+1))
def L3 (L2:Int->Option (Int×Int)) (c:Int) (a:AL) (b:CA) (L3:Int->Option (Int×Int)) (d:Int):Option (Int×Int):=
if decide (d<(b.EY.length:Int))then
(gt b.EY d).bind λi=>
(Bz a.Decls i).bind λq=>
if decide (q≥0)then
J3 L3 d b true
else
(Bv a.AA i).bind λs=>
if decide (s≥0)then
J3 L3 d b true
else
if 0≤d/\d.toNat≤b.EY.length then
(CF (b.EY.take d.toNat) i).bind λt=>
J3 L3 d b (decide (t≥0))
else none
else
J4 L2 c
def Gx (L2:Int->Option (Int×Int)) (c:Int) (a:AL) (b:CA):Nat->Int->Option (Int×Int)
|0,_=>none
|n+1,d=>L3 L2 c a b (Gx L2 c a b n) d
def L2 (a:AL) (L2:Int->Option (Int×Int)) (c:Int):Option (Int×Int):=
if decide (c<(a.AA.length:Int))then
(gt a.AA c).bind λb=>
if decide ((b.EY.length:Int)>4)then
some (2,b.D4)
else
Gx L2 c a b Bo 0
else
J5
def Da (a:AL):Nat->Int->Option (Int×Int)
|0,_=>none
|n+1,c=>L2 a (Da a n) c
def J2 (a:AL):Option (Int×Int):=
Da a Bo 0
def J1 (L1:Int->Option (Int×Int)) (e:Int) (f:CA) (j:Bool):Option (Int×Int):=
if j then
some (4,f.D4)
else
L1 (BE (e+1))
def L1 (a:AL) (L1:Int->Option (Int×Int)) (e:Int):Option (Int×Int):=
if decide (e<(a.AA.length:Int))then
(gt a.AA e).bind λf=>
(Bz a.Decls f.Name).bind λo=>
if decide (o≥0)then
J1 L1 e f true
else
if 0≤e/\e.toNat≤a.AA.length then
(Bv (a.AA.take e.toNat) f.Name).bind λp=>
J1 L1 e f (decide (p≥0))
else none
else
J2 a
def Ac (a:AL):Nat->Int->Option (Int×Int)
|0,_=>none
|n+1,e=>L1 a (Ac a n) e
end BU
section
open BU
def BU (a:AL):Option (Int×Int):=
Ac a Bo 0
theorem Od {a:AL} {r:Int×Int} (h:BU a=some r):Says Tryz.prog 103 [.agg (Bb a)] (.A9 [si r.1,si r.2]):=by
 refine wO mix Tryz.func103 (I:=⟨lD,lE,lF⟩) ?_
 simp only[lD,lE,lF]
 have a1:= @Gd
 have a2:= @G9
 have a3:= @FB
 have l2:=λn1 n2 n3 n4:Nat=>BM λn τ=>∃(c:Int),(τ 1=bA 2 (Bb a)/\τ 6=si c)/\Da a n c=some r
 have l3:=λn1 n2 n3 n4:Nat=>BM λn τ=>∃(c:Int) (b:CA) (d:Int),(τ 1=bA 2 (Bb a)/\τ 6=si c/\τ 7=bA 4 (GD b)/\τ 8=si d)/\Gx (Da a n2) c a b n d=some r
 have l1:=λn1 n2 n3 n4:Nat=>BM λn τ=>∃(e:Int),(τ 1=bA 2 (Bb a)/\τ 4=si e)/\Ac a n e=some r
 unfold BU at h
 exact walk
end
def lG:IC:=(Ra 0 [.K 2 0]
(Ra 5 [.C 0,.Z 5,.M 3 6]
(Sq (Ra 0 [.K 4 0]
(Bl 0 (Sq (Ra 7 [.C 4,.C 0,.Z 8,.O .lss 7 9]
(cX 10 0))
(Sq (Bk 1 (Rc 13 [.C 3,.C 0,.C 4,.I 11 14 15,.U 9 16,.c 104 [18] 0,.O .add 13 19,.C 0,.C 4,.I 11 21 22,.U 10 23,.c 104 [25] 0,.O .add 20 26,.M 3 27]))
(Rc 11 [.C 4,.P .add 11 1,.M 4 12])))))
(Rb 28 [.C 3,.M 2 28]))))
def lH:Gi:=⟨[]⟩
def lI:List RV:=[.tmp 2]
namespace C1
def J1 (e:Int):Option Int:=
some e
def L1 (R104:(List AK)->Option Int) (a:List AK) (L1:Int->Int->Option Int) (c b:Int):Option Int:=
if decide (b<(a.length:Int))then
(gt a b).bind λd=>
(R104 d.Body).bind λf=>
(R104 d.Else).bind λi=>
L1 (BE ((BE (c+f))+i)) (BE (b+1))
else
J1 c
def Ac (R104:(List AK)->Option Int) (a:List AK):Nat->Int->Int->Option Int
|0,_,_=>none
|n+1,c,b=>L1 R104 a (Ac R104 a n) c b
end C1
section
open C1
def C1 (R104:(List AK)->Option Int) (a:List AK):Option Int:=
Ac R104 a Bo (a.length:Int) 0
theorem Q8 {R104:(List AK)->Option Int} (H104:∀{x0 r},R104 x0=some r->Says Tryz.prog 104 [vS 11 An x0] (si r)) {a:List AK} {r:Int} (h:C1 R104 a=some r):Says Tryz.prog 104 [vS 11 An a] (si r):=by
 refine wO mix Tryz.func104 (I:=⟨lG,lH,lI⟩) ?_
 simp only[lG,lH,lI]
 have a1:= @H104
 have l1:=λn1 n2 n3 n4:Nat=>BM λn τ=>∃(c b:Int),(τ 0=vS 11 An a/\τ 3=si c/\τ 4=si b)/\Ac R104 a n c b=some r
 unfold C1 at h
 exact walk
end
def Np:Nat->((List AK)->Option Int)
|0=>(λ_=>none)
|n+1=>C1 ((Np n))
def FW (n:Nat):(List AK)->Option Int:=(Np n)
theorem PX (n:Nat):(∀{x0 r},(FW n) x0=some r->Says Tryz.prog 104 [.sl false 11 (x0.map An)] (si r)):=by
  induction n with
  |zero=>exactλh=>B9 h
  |succ n ih=>exactλh=>Q8 ih h
theorem PY {n:Nat}:∀{x0 r},(FW n) x0=some r->Says Tryz.prog 104 [.sl false 11 (x0.map An)] (si r):=(PX n)
def pO:IC:=(Ra 0 [.B 8 false]
(Sq (Ra 0 [.K 9 0]
(Bl 0 (Sq (Ra 11 [.C 9,.r 0 3,.Z 15,.O .lss 11 16]
(cX 17 0))
(Sq (Bk 1 (Ra 20 [.r 0 3,.C 9,.J 0 11 23 24,.y 0 (.ld true 11 (.t 25)),.b 10 [27,32,41] (.bx 11 (.c (.agg z0))),.S 11 10 26]
(Ra 27 [.f 0 10,.C 1,.O .eql 28 29,.C 30,.G 31 false,.f 0 10,.C 2,.O .eql 33 34,.e,.V 31 35,.C 36,.G 37 true,.C 3,.o (.bin .eql (.t 38) (.c (Ao ⟨#[]⟩))),.C 39,.G 40 false,.f 2 10,.C 3,.O .eql 42 43,.G 37 true,.o (.pick (.t 40) (.c (sb true)) (.t 44)),.e,.W 37 45]
(Ci 46 (Rb 0 [.B 8 true])))))
(Rc 18 [.C 9,.P .add 18 1,.M 9 19])))))
(Rb 0 [.B 8 false])))
def pP:Gi:=⟨[(12,[0]),(13,[0]),(14,[0]),(15,[0]),(20,[0]),(21,[0]),(22,[0]),(23,[0]),(25,[0]),(26,[0]),(27,[10]),(32,[10]),(41,[10])]⟩
def pQ:List RV:=[.tmp 8]
namespace BD
def J2 (a:A1):Option (Bool×A1):=
some (false,a)
def J1 (L1:Int->Option (Bool×A1)) (b:Int) (a:A1) (i:Bool):Option (Bool×A1):=
if i then
some (true,a)
else
L1 (BE (b+1))
def L1 (d e:Int) (c:ByteArray) (a:A1) (L1:Int->Option (Bool×A1)) (b:Int):Option (Bool×A1):=
if decide (b<(a.EN.length:Int))then
(gt a.EN b).bind λf=>
if f.Op==d then
if c.toList==(⟨#[]⟩:ByteArray).toList then
J1 L1 b a true
else
J1 L1 b a (f.Name.toList==c.toList)
else
if f.Op==e then
if c.toList==(⟨#[]⟩:ByteArray).toList then
J1 L1 b a true
else
J1 L1 b a (f.Name.toList==c.toList)
else
J1 L1 b a false
else
J2 a
def Ac (d e:Int) (c:ByteArray) (a:A1):Nat->Int->Option (Bool×A1)
|0,_=>none
|n+1,b=>L1 d e c a (Ac d e c a n) b
end BD
section
open BD
def BD (a:A1) (d e:Int) (c:ByteArray):Option (Bool×A1):=
Ac d e c a Bo 0
theorem Kj {a:A1} {d e:Int} {c:ByteArray} {r:Bool×A1} (h:BD a d e c=some r):A5 Tryz.prog 158 [bA 6 (Es a),si d,si e,Ao c] (sb r.1) [bA 6 (Es r.2),.dead,.dead,.dead]:=by
 refine wL mix Tryz.func158 (I:=⟨pO,pP,pQ⟩) ?_
 simp only[pO,pP,pQ]
 have l1:=λn1 n2 n3 n4:Nat=>BM λn τ=>∃(b:Int),(τ 0=bA 6 (Es a)/\τ 1=si d/\τ 2=si e/\τ 3=Ao c/\τ 9=si b)/\Ac d e c a n b=some r
 unfold BD at h
 exact walk
end
def qM:IC:=(Ra 0 [.b 3 [12,18,28,34,39,47,61] (.bx 2 (.t 0)),.K 6 0]
(Sq (Bw 1 (Rc 8 [.C 1,.P .geq 8 0,.C 9,.G 10 true,.C 1,.f 1 3,.Z 13,.O .lss 11 14,.e,.W 10 15,.C 16,.G 17 true,.f 1 3,.C 1,.I 4 19 20,.U 2 21,.C 2,.c 43 [23,24] 0,.P .geq 25 0,.e,.W 17 26])
(Ci 27 (Rb 0 [.K 6 8])))
(Ra 28 [.f 0 3,.C 2,.c 134 [29,30] 0,.M 7 31]
(Sq (Ra 32 [.C 7,.P .lss 32 0]
(Ci 33 (Sq (Ra 34 [.f 1 3,.C 2,.c 135 [35,36] 0,.P .geq 37 0]
(Ci 38 (Rb 0 [.K 6 7])))
(Rb 0 [.K 6 0]))))
(Sq (Ra 39 [.f 0 3,.C 7,.I 6 40 41,.U 0 42]
(Bk 0 (Ra 46 [.q 44 1 45]
(Cn 45 (Sq (Ra 47 [.f 0 3,.C 7,.I 6 48 49,.U 3 50,.P .neq 52 0]
(Ci 53 (Rb 0 [.K 6 2])))
(Rb 0 [.K 6 1])) (Ra 55 [.q 44 2 54]
(Cn 54 (Rb 0 [.K 6 1]) (Sq (Ra 57 [.q 44 3 56]
(Cn 56 .skip (Ra 58 [.q 44 4 56]
(Cn 56 .skip (Ra 59 [.q 44 5 56]
(Cn 56 .skip (Rc 60 [.q 44 6 56])))))))
(Ci 56 (Rb 61 [.f 0 3,.C 7,.I 6 62 63,.U 0 64,.M 6 66])))))))))
(Rb 0 [.K 6 9]))))))
def qN:Gi:=⟨[(12,[3]),(18,[3]),(28,[3]),(34,[3]),(39,[3]),(47,[3]),(61,[3])]⟩
def qO:List RV:=[.tmp 6]
namespace DQ
def J2 (a:AL) (d:Int) (i:Bool):Option Int:=
if i then
(gt a.Decls d).bind λp=>
some p.Kind
else
some 9
def J1 (a:AL) (b:ByteArray) (f:Bool):Option Int:=
if f then
some 8
else
(Bz a.Decls b).bind λd=>
if decide (d<0)then
(Bv a.AA b).bind λl=>
if decide (l≥0)then
some 7
else
some 0
else
(gt a.Decls d).bind λc=>
if c.Kind==1 then
if c.Bn != 0 then
some 2
else
some 1
else
if c.Kind==2 then
some 1
else
if c.Kind==3 then
J2 a d (c.Kind==3)
else
if c.Kind==4 then
J2 a d (c.Kind==4)
else
if c.Kind==5 then
J2 a d (c.Kind==5)
else
J2 a d (c.Kind==6)
end DQ
section
open DQ
def DQ (a:AL) (e:Int) (b:ByteArray):Option Int:=
if decide (e≥0)then
if decide (e<(a.AA.length:Int))then
(gt a.AA e).bind λo=>
(CF o.EY b).bind λj=>
J1 a b (decide (j≥0))
else
J1 a b false
else
J1 a b false
theorem PZ {a:AL} {e:Int} {b:ByteArray} {r:Int} (h:DQ a e b=some r):Says Tryz.prog 168 [.agg (Bb a),si e,Ao b] (si r):=by
 refine wO mix Tryz.func168 (I:=⟨qM,qN,qO⟩) ?_
 simp only[qM,qN,qO]
 have a1:= @Gd
 have a2:= @G9
 have a3:= @FB
 have c1:=λn1 n2 n3 n4:Nat=>B7 1 λτ=>∃(f:Bool),(τ 2=Ao b/\τ 3=bA 2 (Bb a)/\τ 27=sb f)/\J1 a b f=some r
 unfold DQ at h
 exact walk
end
end Go.Abs
