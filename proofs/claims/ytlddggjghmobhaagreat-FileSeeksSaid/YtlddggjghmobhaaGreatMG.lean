/- Part of the proof: It. Conditions: as each statement tells. -/
import Derived.Test.YtlddggjghmobhaaGreatProg
import Derived.KernelRfl
import Derived.Test.YtlddggjghmobhaaGreatMF
noncomputable section
set_option linter.unusedSimpArgs false
set_option linter.unusedVariables false
open Bool renaming true_and→a13
open Int renaming toNat→a01,tmod→a07,tdiv→a14
open List renaming length→a00,append→a02,take→a03,getD→a04,drop→a05,set→a06
open Option renaming map_some→a08,map_bind→a09,map_none→a11,map→a16,isSome→a17,isNone→a19
namespace Go.Ab
open IntKind(wrap)
open Go.Proofs
set_option maxRecDepth 100000
set_option linter.unusedVariables false
abbrev QI:Ty:=.int .i64
abbrev QL:Ty:=.list false QI
abbrev QU:Ty:=.int .u64
abbrev QV:Ty:=.int .u8
abbrev QB:Ty:=.list false QV
abbrev LI:Type:=List Int
instance (n:Nat):OfNat Ent n:=⟨.sv n QI⟩
@[reducible] def Qp(i n:Nat):Ent:=.ptr i n []
@[reducible] def Qn(l:a0c):Ex×a0c:=(.normal,l)
@[reducible] def Qe(n:Nat)(l:a0c):Ex×a0c:=(.exit n,l)
@[reducible] def Qr(l:a0c):Ex×a0c:=(.ret,l)
def QH:Hints:=⟨[],[],[]⟩
abbrev Z0:Type:=((List LI)×Unit)
abbrev Z1:Type:=(LI×(Int×Unit))
abbrev Z2:Type:=(Int×(LI×Unit))
abbrev Z3:Type:=(List (Int×(Int×Unit)))
abbrev Z4:Type:=(Bool×(LI×Unit))
abbrev Z5:Type:=(Int×(Int×(Int×Unit)))
abbrev Z6:Type:=(Int×(Int×(Bool×Unit)))
abbrev Z7:Type:=(LI×(LI×Unit))
abbrev Z8:Type:=(Z1×Int)
abbrev Z9:Type:=(Int×Z2)
abbrev Z10:Type:=(LI×(Int×(Int×Unit)))
abbrev Z11:Type:=(List Z5)
abbrev Z12:Type:=(Z1×Unit)
abbrev Z13:Type:=(Int×Z5)
abbrev Z14:Type:=(Z3×Unit)
abbrev Z15:Type:=(Bool×Z1)
abbrev Z16:Type:=(Bool×Z4)
abbrev Z17:Type:=(Z5×Unit)
abbrev Z18:Type:=(Int×Z10)
abbrev Z19:Type:=(Z11×Unit)
abbrev Z20:Type:=(Z10×Unit)
abbrev Z21:Type:=(Int×Z15)
abbrev Z22:Type:=(Int×Z16)
abbrev Z23:Type:=(Bool×Z16)
abbrev Z24:Type:=(LI×Z9)
abbrev Z25:Type:=(Int×Z19)
abbrev Z26:Type:=(Int×Z22)
abbrev Z27:Type:=(Int×Z23)
abbrev Z28:Type:=(Int×Z26)
abbrev Z29:Type:=(List Z27)
abbrev Z30:Type:=(Int×Z27)
abbrev Z31:Type:=(Z27×Unit)
abbrev Z32:Type:=(List Z28)
abbrev Z33:Type:=(Z5×Z13)
abbrev Z34:Type:=(Z29×Int)
abbrev Z35:Type:=(List Z30)
abbrev Z36:Type:=(Z29×Unit)
abbrev Z37:Type:=(Z5×Z17)
abbrev Z38:Type:=(Int×Z31)
abbrev Z39:Type:=(Bool×Z31)
abbrev Z40:Type:=(List Z32)
abbrev Z41:Type:=(Z32×Unit)
abbrev Z42:Type:=(Int×Z35)
abbrev Z43:Type:=(Int×Z36)
abbrev Z44:Type:=(LI×Z31)
abbrev Z45:Type:=(Int×Z41)
abbrev Z46:Type:=(Int×Z44)
abbrev Z47:Type:=(Int×Z43)
abbrev Z48:Type:=(Z29×Z0)
abbrev Z49:Type:=(Int×Z45)
abbrev Z50:Type:=((Int×(Int×Unit))×Z33)
abbrev Z51:Type:=(Unit×Z45)
abbrev Z52:Type:=(Int×Z46)
abbrev Z53:Type:=(Int×Z48)
abbrev Z54:Type:=(Int×Z49)
abbrev Z55:Type:=(Int×Z50)
abbrev Z56:Type:=(Unit×Z49)
abbrev Z57:Type:=(Int×Z51)
abbrev Z58:Type:=(Int×Z53)
abbrev Z59:Type:=(List Z55)
abbrev Z60:Type:=(Int×Z54)
abbrev Z61:Type:=(Int×Z56)
abbrev Z62:Type:=(Unit×Z54)
abbrev Z63:Type:=(Int×Z58)
abbrev Z64:Type:=(Int×Z62)
abbrev Z65:Type:=(Z29×Z36)
abbrev Z66:Type:=(Int×Z65)
abbrev Z67:Type:=(Z32×Z41)
abbrev Z68:Type:=(Int×Z66)
abbrev Z69:Type:=(Z59×Z20)
abbrev Z70:Type:=(Z29×Z52)
abbrev Z71:Type:=(Int×Z69)
abbrev Z72:Type:=(Int×Z70)
abbrev Z73:Type:=(Int×Z72)
abbrev Q0:Ty:=(.pair QI .unit)
abbrev Q1:Ty:=(.pair QB .unit)
abbrev Q2:Ty:=(.pair QI Q0)
abbrev Q3:Ty:=(.pair .bool Q1)
abbrev Q4:Ty:=(.pair (.list true QV) Q0)
abbrev Q5:Ty:=(.pair QL Q0)
abbrev Q6:Ty:=(.pair QI Q2)
abbrev Q7:Ty:=(.pair .bool Q3)
abbrev Q8:Ty:=(.pair .bool Q4)
abbrev Q9:Ty:=(.pair QB Q2)
abbrev Q10:Ty:=(.pair .bool Q7)
abbrev Q11:Ty:=(.pair QI Q6)
abbrev Q12:Ty:=(.pair QI Q7)
abbrev Q13:Ty:=(.pair QI Q8)
abbrev Q14:Ty:=(.pair QI Q10)
abbrev Q15:Ty:=(.pair QI Q12)
abbrev Q16:Ty:=(.pair QI Q15)
abbrev Q17:Ty:=(.pair Q6 Q11)
abbrev Q18:Ty:=(.pair Q2 Q17)
abbrev Q19:Ty:=(.pair QI Q18)
def a5C:List (Nat×Ty):=[(2,.int .i64),(3,.int .i64),(4,.bool),(5,.int .u8),(9,.str),(22,.list false QI),(23,.list false Q19),(24,.list false (.list false Q16)),(29,.list false QV),(30,.int .i64),(34,.list false Q16),(35,.list false Q2),(41,.pair QI Q15),(48,.list false Q14),(54,.list false Q6),(56,.int .u64),(60,.pair QI Q10),(78,.pair QI Q0),(81,.pair QI Q2),(84,.pair QI Q18),(86,.pair QL Q0),(94,.pair QI Q2),(102,.int .u64),(107,.int .u32),(117,.list false QB),(140,.pair QI (.pair .bool (.pair QB Q0))),(142,.pair QI Q0),(147,.list false Q2),(152,.pair QB Q2),(162,.list false QU),(182,.pair QI .unit),(195,.int .u64)]
def T0:Nat→Option Ty:=fun t=>find a5C t
def a5P:List Nat:=[81,84]
def b1V:Nat→Bool:=fun t=>a5P.contains t
def a5q:List Nat:=[]
def b1W:Nat→Bool:=fun t=>a5q.contains t
def b1m:List (Nat×Ty):=[(170,.pair QI Q10)]
def G0:GTab:={ g:=fun g=>find ([]:List (Nat×((t:Ty)×t.den))) g,w:=fun t=>find b1m t }
@[reducible] def b1X(a:List (Nat×FSem))(b:List (Nat×Ty))(c d:Nat):Cx:=⟨b1W,b1V,T0,fun f=>find a f,fun n=>find b n,c.testBit,d.testBit,G0⟩
def a1p(x:(Int×Int×Int)):Option Int:=(show Option (Int×Z6)from cond (decide (x.1≥x.2.1)) (some (x.1,x.2.1,x.2.2,decide (x.1≤x.2.2),())) (some (x.1,x.2.1,x.2.2,false,()))).bind fun z1=>cond z1.2.2.2.1 (some z1.1) (cond ((wrap .i64 ((wrap .i64 (z1.2.2.1-z1.2.1))+1))==0) none ((show Option (Int×Int×Unit)from cond (decide ((a07 z1.1 (wrap .i64 ((wrap .i64 (z1.2.2.1-z1.2.1))+1)))<0)) (some (wrap .i64 ((wrap .i64 ((wrap .i64 ((a07 z1.1 (wrap .i64 ((wrap .i64 (z1.2.2.1-z1.2.1))+1)))+z1.2.2.1))-z1.2.1))+1),z1.2.1,())) (some (a07 z1.1 (wrap .i64 ((wrap .i64 (z1.2.2.1-z1.2.1))+1)),z1.2.1,()))).bind fun z2=>some (wrap .i64 (z2.2.1+z2.1))))
def a5Q:FSem:=⟨[.v QI,.v QI,.v QI],[.v QI],a1p⟩
def H11:Hints:=⟨[],[(6,[Qn [0,1,2,.sv 14 .bool]]),(15,[Qn [0,1]])],[]⟩
def a0A(x:Z8):Option (Int×Z1):=(show Option (Int×Bool×Z12)from cond (decide (x.1.2.1≥(x.1.1.length:Int))) (some (x.2,true,x.1,())) (some (x.2,decide (x.2<1),x.1,()))).bind fun z1=>cond z1.2.1 (some (0,z1.2.2.1)) ((n0o z1.2.2.1.1 (wrap .i64 ((wrap .i64 (z1.2.2.1.2.1+1))-1))).bind fun x2=>(a1p (x2,0,1073741824)).bind fun y3=>cond (z1.1==0) none (some (a07 y3 z1.1,z1.2.2.1.1,wrap .i64 (z1.2.2.1.2.1+1),z1.2.2.1.2.2)))
def a5A:FSem:=⟨[.r false (.b Q5),.v QI],[.v QI],a0A⟩
def H36:Hints:=⟨[],[(6,[Qn [1,.sv 18 .bool,.box pinned Q5,Qp 0 pinned]])],[(1,[.p,.p,.q,.q,.p,.p,.q,.q,.v,.x,.x,.x,.x,.x]),(4,[.p,.p,.q,.q,.p,.p,.q,.q,.v,.v,.v,.v,.v,.x,.x])]⟩
def a2S(x:((Int×Unit)×Int)):Option (Int×Int×Unit):=cond (x.2==0) none (some (a07 (D0o .i64 (bits .i64 .and (wrap .i64 ((wrap .i64 (x.1.1*1103515245))+12345)) 2147483647) 8) x.2,bits .i64 .and (wrap .i64 ((wrap .i64 (x.1.1*1103515245))+12345)) 2147483647,x.1.2))
def a5H:FSem:=⟨[.r false (.b Q0),.v QI],[.v QI],a2S⟩
def a2g(s:(Int×(LI×((Int×Unit)×Z12)))):Option ((Int×(LI×((Int×Unit)×Z12))) ⊕ (LI×Z12)):=cond (decide (s.1 > 0)) ((a2S (s.2.2.1,256)).bind fun y3=>cond (lim ((a00 s.2.1)+1)) (some (.inl (wrap .i64 (s.1-1),a02 s.2.1 [wrap .u8 y3.1],y3.2,s.2.2.2.1,()))) none) (some (.inr (s.2.1,s.2.2.2.1,())))
def a1T(x:Z8):Option (LI×Z1):=(a0A (x.1,1048576)).bind fun y1=>(a0A (y1.2,wrap .i64 (x.2+1))).bind fun y2=>(x0w a2g (y2.1,[],(y1.1,()),y2.2,())).bind fun w4=>some (w4.1,w4.2.1)
def a5r:FSem:=⟨[.r false (.b Q5),.v QI],[.o QV],a1T⟩
def b4i:Hints:=⟨[(122,[7,.own 6 6 QV,.box 11 Q0,.box pinned Q5,Qp 5 11],[Qe 0 [.own 6 6 QV,.box pinned Q5]])],[],[]⟩
def a1Y(s:(Int×Int×Int×Z32×Z12)):Option ((Int×Int×Int×Z32×Z12) ⊕ (Z32×Z12)):=cond (decide (s.2.2.1 > 0)) ((a0A (s.2.2.2.2.1,50)).bind fun y3=>(a0A (y3.2,3)).bind fun y4=>(a0A (y4.2,8)).bind fun y5=>(a0A (y5.2,3)).bind fun y6=>cond ((decide (0≤y6.1))&&(decide (y6.1<3))) ((a1T (y6.2,a04 [20,300,900] (a01 y6.1) 0)).bind fun y7=>cond (lim ((a00 s.2.2.2.1)+1)) ((a0A (y7.2,60)).bind fun y8=>some (.inl (s.1,wrap .i64 (s.2.1+y8.1),wrap .i64 (s.2.2.1-1),a02 s.2.2.2.1 ([(s.1,s.2.1,y3.1,decide (y4.1 > 0),y5.1==7,y7.1,())]:List Z28),y8.2,()))) none) none) (some (.inr (s.2.2.2.1,s.2.2.2.2.1,())))
def a1L(x:(Z1×Int×Int)):Option (Z32×Z1):=(a0A (x.1,40)).bind fun y1=>(a0A (y1.2,wrap .i64 (x.2.2+1))).bind fun y2=>(x0w a1Y (x.2.1,y1.1,y2.1,[],y2.2,())).bind fun w9=>some (w9.1,w9.2.1)
def a5a:FSem:=⟨[.r false (.b Q5),.v QI,.v QI],[.o Q16],a1L⟩
def H85:Hints:=⟨[(122,[1,7,9,.own 8 8 Q16,.box pinned Q5,Qp 0 pinned],[Qe 0 [.own 8 8 Q16,.box pinned Q5]])],[],[]⟩
def a1Z(s:(Int×Int×Z40×Z12)):Option ((Int×Int×Z40×Z12) ⊕ (Z40×Z12)):=cond (decide (s.2.1 > 0)) ((a1L (s.2.2.2.1,(s.2.2.1.length:Int),s.1)).bind fun y2=>cond (lim ((a00 s.2.2.1)+1)) (some (.inl (s.1,wrap .i64 (s.2.1-1),a02 s.2.2.1 ([y2.1]:List Z32),y2.2,()))) none) (some (.inr (s.2.2.1,s.2.2.2.1,())))
def a1M(x:Z8):Option (Z40×Z1):=(a0A (x.1,4)).bind fun y1=>(x0w a1Z (x.2,wrap .i64 (1+y1.1),[],y1.2,())).bind fun w3=>some (w3.1,w3.2.1)
def a5b:FSem:=⟨[.r false (.b Q5),.v QI],[.o (.list false Q16)],a1M⟩
def H35:Hints:=⟨[(58,[1,6,.own 5 5 (.list false Q16),.box pinned Q5,Qp 0 pinned],[Qe 0 [.own 5 5 (.list false Q16),.box pinned Q5]])],[],[]⟩
def a1I(x:Z1):Option ((Int×Int×Unit)×Z1):=(a0A (x,6)).bind fun y1=>cond ((decide (0≤y1.1))&&(decide (y1.1<6))) (some (a04 ([(1,1,()),(30000,1001,()),(3,7,()),(7,3,()),(1,100,()),(44100,90000,())]:List (Int×Int×Unit)) (a01 y1.1) (0,0,()),y1.2)) none
def a5B:FSem:=⟨[.r false (.b Q5)],[.v Q2],a1I⟩
def a1R(x:Z1):Option (Z5×Z1):=(a0A (x,50000)).bind fun y1=>(a0A (y1.2,3)).bind fun y2=>(a0A (y2.2,4)).bind fun y3=>cond ((decide (0≤y3.1))&&(decide (y3.1<4))) (some ((wrap .i64 (1+y1.1),wrap .i64 (1+y2.1),a04 [16,8,4,24] (a01 y3.1) 0,()),y3.2)) none
def a5f:FSem:=⟨[.r false (.b Q5)],[.v Q6],a1R⟩
def a4L(s:(Int×Z40×Z59×Z12)):Option ((Int×Z40×Z59×Z12) ⊕ (Z40×Z59×Z12)):=cond (decide (s.1<(s.2.1.length:Int))) ((a0A (s.2.2.2.1,2)).bind fun y2=>cond (y2.1==0) ((a1I y2.2).bind fun y3=>(a1R y3.2).bind fun y4=>cond (lim ((a00 s.2.2.1)+1)) (some (.inl (wrap .i64 (s.1+1),s.2.1,a02 s.2.2.1 ([(1,y3.1,y4.1,0,0,0,0,())]:List Z55),y4.2,()))) none) ((a1I y2.2).bind fun y5=>(a0A (y5.2,64)).bind fun y6=>(a0A (y6.2,64)).bind fun y7=>(a0A (y7.2,16)).bind fun y8=>(a0A (y8.2,4)).bind fun y9=>cond (lim ((a00 s.2.2.1)+1)) (some (.inl (wrap .i64 (s.1+1),s.2.1,a02 s.2.2.1 ([(2,y5.1,(0,0,0,()),wrap .i64 (1+y6.1),wrap .i64 (1+y7.1),wrap .i64 (1+y8.1),wrap .i64 (1+y9.1),())]:List Z55),y9.2,()))) none)) (some (.inr (s.2.1,s.2.2.1,s.2.2.2.1,())))
def a4U(x:Z8):Option (Z59×Z40×Z1):=(a1M (x.1,x.2)).bind fun y1=>(x0w a4L (0,y1.1,[],y1.2,())).bind fun w10=>some (w10.2.1,w10.1,w10.2.2.1)
def a9s:FSem:=⟨[.r false (.b Q5),.v QI],[.o Q19,.o (.list false Q16)],a4U⟩
def H8:Hints:=⟨[(122,[8,.own 6 6 (.list false Q16),.own 7 7 Q19,.box pinned Q5,Qp 0 pinned],[Qe 0 [.own 6 6 (.list false Q16),.own 7 7 Q19,.box pinned Q5]])],[],[]⟩
def a3Z(x:LI):Option Z1:=some (x,0,())
def a6L:FSem:=⟨[.v QL],[.b Q5],a3Z⟩
def a2k(x:Int):Option Int:=some (x0t (x0s x 0) 8)
def a8g:FSem:=⟨[.v QI],[.v QI],a2k⟩
def a3m(s:(Int×Z9)):Option ((Int×Z9) ⊕ (LI×Unit)):=cond (decide (s.2.2.1<s.2.1)) (cond (lim ((a00 s.2.2.2.1)+1)) (some (.inl (wrap .u64 (a14 s.1 256),s.2.1,wrap .i64 (s.2.2.1+1),a02 s.2.2.2.1 [wrap .u8 (a07 s.1 256)],()))) none) (some (.inr (s.2.2.2.1,())))
def a4j(x:(Int×Int)):Option LI:=(a2k x.2).bind fun y1=>(x0w a3m (x.1,y1,0,[],())).bind fun w2=>some w2.1
def a8h:FSem:=⟨[.v QU,.v QI],[.o QV],a4j⟩
def b4j:Hints:=⟨[(58,[.sv 0 QU,7,8,.own 5 5 QV],[Qe 0 [.own 5 5 QV]])],[],[]⟩
def a2a(x:LI):Option LI:=cond (decide (a00 x<2147483648)) (some (List.reverse x)) none
def a4K:FSem:=⟨[.r false (.o QV)],[],a2a⟩
def a1S(x:(Int×Int)):Option LI:=(a4j (x.1,x.2)).bind fun y1=>(a2a y1).bind fun y2=>some y2
def a9t:FSem:=⟨[.v QU,.v QI],[.o QV],a1S⟩
def a1K(x:(Bool×Int)):Option Int:=cond x.1 (some x.2) (some 0)
def a9u:FSem:=⟨[.v .bool,.v QV],[.v QV],a1K⟩
def a4q(x:Z28):Option (LI×Int):=(show Option (Bool×Z28×Unit)from cond (decide (x.1<0)) (some (true,x,())) (cond (decide (x.1≥4)) (some (true,x,())) (cond (decide (x.2.1<0)) (some (true,x,())) (cond (decide (x.2.1 > 1125899906842624)) (some (true,x,())) (cond (decide (x.2.2.1<0)) (some (true,x,())) (some (decide (x.2.2.1 > 1125899906842624),x,()))))))).bind fun z1=>cond z1.1 (some ([],1)) (cond (decide ((z1.2.1.2.2.2.2.2.1.length:Int) > 65536)) (some ([],4)) ((a1K (z1.2.1.2.2.2.1,1)).bind fun y2=>(a1K (z1.2.1.2.2.2.2.1,2)).bind fun y3=>(a1S (wrap .u64 z1.2.1.2.1,8)).bind fun y4=>cond (lim (2+(a00 y4))) ((a1S (wrap .u64 z1.2.1.2.2.1,8)).bind fun y5=>cond (lim ((a00 (a02 [wrap .u8 z1.2.1.1,bits .u8 .or y2 y3] y4))+(a00 y5))) (cond (lim ((a00 (a02 (a02 [wrap .u8 z1.2.1.1,bits .u8 .or y2 y3] y4) y5))+(a00 z1.2.1.2.2.2.2.2.1))) (some (a02 (a02 (a02 [wrap .u8 z1.2.1.1,bits .u8 .or y2 y3] y4) y5) z1.2.1.2.2.2.2.2.1,0)) none) none) none))
def b0G:FSem:=⟨[.v Q16],[.o QV,.v QI],a4q⟩
def H57:Hints:=⟨[],[(6,[Qn [.sv 32 .bool,.vp 1 Q16]])],[(5,[.v,.v,.v,.v,.v,.v,.v,.v,.v,.v,.x,.x])]⟩
def a2l(x:LI):Option LI:=cond (List.isEmpty x) (m0a (some []) (cond (lim (0+(a00 x))) (some (a02 [] x)) none)) (cond (lim (0+(a00 x))) (some (a02 [] x)) none)
def a8i:FSem:=⟨[.v QB],[.o QV],a2l⟩
def a4k(x:Z28):Option Z28:=(a2l x.2.2.2.2.2.1).bind fun y1=>some (x.1,x.2.1,x.2.2.1,x.2.2.2.1,x.2.2.2.2.1,y1,x.2.2.2.2.2.2)
def a8j:FSem:=⟨[.v Q16],[.v Q16],a4k⟩
def a7b(s:Z18):Option (Z18 ⊕ ((Int×Unit) ⊕ (Int×Unit))):=(fun(a b:Int)=>cond (decide (b<a)) ((n0o s.2.1 b).bind fun x1=>cond (x1 != s.1) (some (.inr (Sum.inr ((x1,()))))) (some (.inl (s.1,s.2.1,a,wrap .i64 (b+1),())))) (some (.inr (Sum.inl (s.1,()))))) s.2.2.1 s.2.2.2.1
def a5c(x:LI):Option Int:=(x0w a7b (0,x,(x.length:Int),0,())).bind fun w2=>match w2 with |.inl a3=>some a3.1 |.inr b4=>some b4.1
def a8k:FSem:=⟨[.v QL],[.v QI],a5c⟩
def H61:Hints:=⟨[(58,[3,.sv 6 QL,7,8],[Qe 0 [3],Qr [2]])],[],[]⟩
def a2J(x:Int):Option Bool:=some (x != x)
def a6s:FSem:=⟨[.v QI],[.v .bool],a2J⟩
def a2q(x:(Int×Int)):Option Int:=(a2J x.1).bind fun y1=>(a2J x.2).bind fun y2=>cond y1 (cond y2 (some 0) (some (-1))) (cond y2 (some 1) (cond (decide (x.1<x.2)) (some (-1)) (cond (decide (x.1 > x.2)) (some 1) (some 0))))
def a5R:FSem:=⟨[.v QI,.v QI],[.v QI],a2q⟩
def a3n(x:Int):Option Bool:=some (x != x)
def a7c:FSem:=⟨[.v QI],[.v .bool],a3n⟩
def a2K(x:(Int×Int)):Option Int:=(a3n x.1).bind fun y1=>(a3n x.2).bind fun y2=>cond y1 (cond y2 (some 0) (some (-1))) (cond y2 (some 1) (cond (decide (x.1<x.2)) (some (-1)) (cond (decide (x.1 > x.2)) (some 1) (some 0))))
def a6t:FSem:=⟨[.v QI,.v QI],[.v QI],a2K⟩
def a2m(x:(Z28×Z28)):Option Int:=(a2q (x.1.2.1,x.2.2.1)).bind fun y1=>(a2K (x.1.1,x.2.1)).bind fun y2=>(a5c [y1,y2]).bind fun y3=>some y3
def a6m:FSem:=⟨[.v Q16,.v Q16],[.v QI],a2m⟩
def H60:Hints:=⟨[],[],[(1,[.v,.v,.v,.v,.v,.v,.v,.v,.v,.x,.x,.x,.x])]⟩
def a0Z(s:(Int×Z61)):Option ((Int×Z61) ⊕ (Int×Z57)):=cond (decide (s.2.2.2.2.1 > s.1)) (cond ((decide (0≤s.2.2.2.2.1))&&(decide (s.2.2.2.2.1<(s.2.2.2.2.2.1.length:Int)))) (cond ((decide (0≤(wrap .i64 (s.2.2.2.2.1-1))))&&(decide ((wrap .i64 (s.2.2.2.2.1-1))<(s.2.2.2.2.2.1.length:Int)))) ((a2m (a04 s.2.2.2.2.2.1 (a01 s.2.2.2.2.1) (0,0,0,false,false,[],()),a04 s.2.2.2.2.2.1 (a01 (wrap .i64 (s.2.2.2.2.1-1))) (0,0,0,false,false,[],()))).bind fun y2=>cond (decide (y2<0)) (cond ((decide (0≤(wrap .i64 (s.2.2.2.2.1-1))))&&(decide ((wrap .i64 (s.2.2.2.2.1-1))<(s.2.2.2.2.2.1.length:Int)))) (cond ((decide (0≤s.2.2.2.2.1))&&(decide (s.2.2.2.2.1<(s.2.2.2.2.2.1.length:Int)))) (cond ((decide (0≤s.2.2.2.2.1))&&(decide (s.2.2.2.2.1<(s.2.2.2.2.2.1.length:Int)))) (cond ((decide (0≤(wrap .i64 (s.2.2.2.2.1-1))))&&(decide ((wrap .i64 (s.2.2.2.2.1-1))<((a00 (a06 s.2.2.2.2.2.1 (a01 s.2.2.2.2.1) (a04 s.2.2.2.2.2.1 (a01 (wrap .i64 (s.2.2.2.2.1-1))) (0,0,0,false,false,[],()))):Nat):Int)))) (some (.inl (s.1,s.2.1,s.2.2.1,s.2.2.2.1,wrap .i64 (s.2.2.2.2.1-1),a06 (a06 s.2.2.2.2.2.1 (a01 s.2.2.2.2.1) (a04 s.2.2.2.2.2.1 (a01 (wrap .i64 (s.2.2.2.2.1-1))) (0,0,0,false,false,[],()))) (a01 (wrap .i64 (s.2.2.2.2.1-1))) (a04 s.2.2.2.2.2.1 (a01 s.2.2.2.2.1) (0,0,0,false,false,[],())),()))) none) none) none) none) (some (.inr (s.1,s.2.1,s.2.2.1,s.2.2.2.1,s.2.2.2.2.2.1,())))) none) none) (some (.inr (s.1,s.2.1,s.2.2.1,s.2.2.2.1,s.2.2.2.2.2.1,())))
def a1a(s:(Int×Z57)):Option ((Int×Z57) ⊕ Z41):=cond (decide (s.2.2.2.1<s.2.1)) ((x0w a0Z (s.1,s.2.1,s.2.2.1,s.2.2.2.1,s.2.2.2.1,s.2.2.2.2.1,())).bind fun w3=>some (.inl (w3.1,w3.2.1,w3.2.2.1,wrap .i64 (w3.2.2.2.1+1),w3.2.2.2.2.1,()))) (some (.inr (s.2.2.2.2.1,())))
def a0J(x:(Z32×Int×Int×Unit)):Option Z32:=(x0w a1a (x.2.1,x.2.2.1,x.2.2.2,wrap .i64 (x.2.1+1),x.1,())).bind fun w4=>some w4.1
def a3l:FSem:=⟨[.r false (.o Q16),.v QI,.v QI,.v (.fn 60)],[],a0J⟩
def b4k:Hints:=⟨[(6,[1,2,.sv 3 (.fn 60),8,.own 0 pinned Q16],[Qe 0 [.own 0 pinned Q16]]),(402,[1,2,.sv 3 (.fn 60),8,9,.own 0 pinned Q16],[Qe 2 [1,2,.sv 3 (.fn 60),8,.own 0 pinned Q16]])],[],[(4,[.v,.v,.x,.x,.v,.q,.v,.q,.q,.q,.v,.v,.q,.q,.x,.x,.x]),(6,[.q,.v,.h,.v,.v,.q,.v,.v,.q,.q,.q,.v,.q,.q,.q,.k [0,pinned],.x,.x])]⟩
def a1e(s:Z60):Option (Z60 ⊕ Z41):=cond (decide (s.2.2.2.1<s.2.2.1)) (cond ((decide (0≤(wrap .i64 (s.2.1+s.2.2.2.1))))&&(decide ((wrap .i64 (s.2.1+s.2.2.2.1))<(s.2.2.2.2.1.length:Int)))) (cond ((decide (0≤(wrap .i64 (s.1+s.2.2.2.1))))&&(decide ((wrap .i64 (s.1+s.2.2.2.1))<(s.2.2.2.2.1.length:Int)))) (cond ((decide (0≤(wrap .i64 (s.1+s.2.2.2.1))))&&(decide ((wrap .i64 (s.1+s.2.2.2.1))<(s.2.2.2.2.1.length:Int)))) (cond ((decide (0≤(wrap .i64 (s.2.1+s.2.2.2.1))))&&(decide ((wrap .i64 (s.2.1+s.2.2.2.1))<((a00 (a06 s.2.2.2.2.1 (a01 (wrap .i64 (s.1+s.2.2.2.1))) (a04 s.2.2.2.2.1 (a01 (wrap .i64 (s.2.1+s.2.2.2.1))) (0,0,0,false,false,[],()))):Nat):Int)))) (some (.inl (s.1,s.2.1,s.2.2.1,wrap .i64 (s.2.2.2.1+1),a06 (a06 s.2.2.2.2.1 (a01 (wrap .i64 (s.1+s.2.2.2.1))) (a04 s.2.2.2.2.1 (a01 (wrap .i64 (s.2.1+s.2.2.2.1))) (0,0,0,false,false,[],()))) (a01 (wrap .i64 (s.2.1+s.2.2.2.1))) (a04 s.2.2.2.2.1 (a01 (wrap .i64 (s.1+s.2.2.2.1))) (0,0,0,false,false,[],())),()))) none) none) none) none) (some (.inr (s.2.2.2.2.1,())))
def a0Q(x:(Z32×Z5)):Option Z32:=(x0w a1e (x.2.1,x.2.2.1,x.2.2.2.1,0,x.1,())).bind fun w2=>some w2.1
def a3J:FSem:=⟨[.r false (.o Q16),.v QI,.v QI,.v QI,.v (.fn 60)],[],a0Q⟩
def b4l:Hints:=⟨[(6,[1,2,3,10,.own 0 pinned Q16],[Qe 0 [.own 0 pinned Q16]])],[],[(3,[.q,.v,.v,.v,.h,.v,.v,.v,.q,.v,.v,.v,.q,.q,.q,.v,.v,.v,.q,.q,.q,.k [0,pinned],.x,.x])]⟩
def a1D(s:Z61):Option (Z61 ⊕ Z57):=cond (s.2.2.1 != s.2.2.2.1) (cond (decide (s.2.2.1 > s.2.2.2.1)) ((a0Q (s.2.2.2.2.1,wrap .i64 (s.1-s.2.2.1),s.1,s.2.2.2.1,s.2.1)).bind fun y1=>some (.inl (s.1,s.2.1,wrap .i64 (s.2.2.1-s.2.2.2.1),s.2.2.2.1,y1,()))) ((a0Q (s.2.2.2.2.1,wrap .i64 (s.1-s.2.2.1),wrap .i64 ((wrap .i64 (s.1+s.2.2.2.1))-s.2.2.1),s.2.2.1,s.2.1)).bind fun y2=>some (.inl (s.1,s.2.1,s.2.2.1,wrap .i64 (s.2.2.2.1-s.2.2.1),y2,())))) (some (.inr (s.1,s.2.1,s.2.2.1,s.2.2.2.2.1,())))
def a1u(x:(Z32×Z5)):Option Z32:=(x0w a1D (x.2.2.1,x.2.2.2.2,wrap .i64 (x.2.2.1-x.2.1),wrap .i64 (x.2.2.2.1-x.2.2.1),x.1,())).bind fun w3=>(a0Q (w3.2.2.2.1,wrap .i64 (w3.1-w3.2.2.1),w3.1,w3.2.2.1,w3.2.1)).bind fun y4=>some y4
def a2p:FSem:=⟨[.r false (.o Q16),.v QI,.v QI,.v QI,.v (.fn 60)],[],a1u⟩
def b4m:Hints:=⟨[(28,[2,.sv 4 (.fn 60),10,11,.own 0 pinned Q16],[Qe 0 [2,.sv 4 (.fn 60),10,.own 0 pinned Q16]])],[],[]⟩
def a1h(s:Z61):Option (Z61 ⊕ Z49):=cond (decide (s.2.2.1<s.2.2.2.1)) (cond ((decide (0≤(wrap .i64 (D0o .u64 (wrap .u64 (wrap .i64 (s.2.2.1+s.2.2.2.1))) 1))))&&(decide ((wrap .i64 (D0o .u64 (wrap .u64 (wrap .i64 (s.2.2.1+s.2.2.2.1))) 1))<(s.2.2.2.2.1.length:Int)))) (cond ((decide (0≤s.1))&&(decide (s.1<(s.2.2.2.2.1.length:Int)))) ((a2m (a04 s.2.2.2.2.1 (a01 (wrap .i64 (D0o .u64 (wrap .u64 (wrap .i64 (s.2.2.1+s.2.2.2.1))) 1))) (0,0,0,false,false,[],()),a04 s.2.2.2.2.1 (a01 s.1) (0,0,0,false,false,[],()))).bind fun y1=>cond (decide (y1<0)) (some (.inl (s.1,s.2.1,wrap .i64 ((wrap .i64 (D0o .u64 (wrap .u64 (wrap .i64 (s.2.2.1+s.2.2.2.1))) 1))+1),s.2.2.2.1,s.2.2.2.2.1,()))) (some (.inl (s.1,s.2.1,s.2.2.1,wrap .i64 (D0o .u64 (wrap .u64 (wrap .i64 (s.2.2.1+s.2.2.2.1))) 1),s.2.2.2.2.1,())))) none) none) (some (.inr (s.1,s.2.2.1,s.2.2.2.2.1,())))
def a1i(s:Z49):Option (Z49 ⊕ Z41):=cond (decide (s.2.1<(wrap .i64 (s.1-1)))) (cond ((decide (0≤(wrap .i64 (s.2.1+1))))&&(decide ((wrap .i64 (s.2.1+1))<(s.2.2.1.length:Int)))) (cond ((decide (0≤s.2.1))&&(decide (s.2.1<(s.2.2.1.length:Int)))) (cond ((decide (0≤s.2.1))&&(decide (s.2.1<(s.2.2.1.length:Int)))) (cond ((decide (0≤(wrap .i64 (s.2.1+1))))&&(decide ((wrap .i64 (s.2.1+1))<((a00 (a06 s.2.2.1 (a01 s.2.1) (a04 s.2.2.1 (a01 (wrap .i64 (s.2.1+1))) (0,0,0,false,false,[],()))):Nat):Int)))) (some (.inl (s.1,wrap .i64 (s.2.1+1),a06 (a06 s.2.2.1 (a01 s.2.1) (a04 s.2.2.1 (a01 (wrap .i64 (s.2.1+1))) (0,0,0,false,false,[],()))) (a01 (wrap .i64 (s.2.1+1))) (a04 s.2.2.1 (a01 s.2.1) (0,0,0,false,false,[],())),()))) none) none) none) none) (some (.inr (s.2.2.1,())))
def a1j(s:Z61):Option (Z61 ⊕ Z49):=cond (decide (s.2.2.1<s.2.2.2.1)) (cond ((decide (0≤s.1))&&(decide (s.1<(s.2.2.2.2.1.length:Int)))) (cond ((decide (0≤(wrap .i64 (D0o .u64 (wrap .u64 (wrap .i64 (s.2.2.1+s.2.2.2.1))) 1))))&&(decide ((wrap .i64 (D0o .u64 (wrap .u64 (wrap .i64 (s.2.2.1+s.2.2.2.1))) 1))<(s.2.2.2.2.1.length:Int)))) ((a2m (a04 s.2.2.2.2.1 (a01 s.1) (0,0,0,false,false,[],()),a04 s.2.2.2.2.1 (a01 (wrap .i64 (D0o .u64 (wrap .u64 (wrap .i64 (s.2.2.1+s.2.2.2.1))) 1))) (0,0,0,false,false,[],()))).bind fun y4=>cond (!(decide (y4<0))) (some (.inl (s.1,s.2.1,wrap .i64 ((wrap .i64 (D0o .u64 (wrap .u64 (wrap .i64 (s.2.2.1+s.2.2.2.1))) 1))+1),s.2.2.2.1,s.2.2.2.2.1,()))) (some (.inl (s.1,s.2.1,s.2.2.1,wrap .i64 (D0o .u64 (wrap .u64 (wrap .i64 (s.2.2.1+s.2.2.2.1))) 1),s.2.2.2.2.1,())))) none) none) (some (.inr (s.1,s.2.2.1,s.2.2.2.2.1,())))
def a1k(s:Z49):Option (Z49 ⊕ Z41):=cond (decide (s.2.1 > s.1)) (cond ((decide (0≤(wrap .i64 (s.2.1-1))))&&(decide ((wrap .i64 (s.2.1-1))<(s.2.2.1.length:Int)))) (cond ((decide (0≤s.2.1))&&(decide (s.2.1<(s.2.2.1.length:Int)))) (cond ((decide (0≤s.2.1))&&(decide (s.2.1<(s.2.2.1.length:Int)))) (cond ((decide (0≤(wrap .i64 (s.2.1-1))))&&(decide ((wrap .i64 (s.2.1-1))<((a00 (a06 s.2.2.1 (a01 s.2.1) (a04 s.2.2.1 (a01 (wrap .i64 (s.2.1-1))) (0,0,0,false,false,[],()))):Nat):Int)))) (some (.inl (s.1,wrap .i64 (s.2.1-1),a06 (a06 s.2.2.1 (a01 s.2.1) (a04 s.2.2.1 (a01 (wrap .i64 (s.2.1-1))) (0,0,0,false,false,[],()))) (a01 (wrap .i64 (s.2.1-1))) (a04 s.2.2.1 (a01 s.2.1) (0,0,0,false,false,[],())),()))) none) none) none) none) (some (.inr (s.2.2.1,())))
def a0U(s:(Int×Int×Int×Unit×Int×Z60)):Option ((Int×Int×Int×Unit×Int×Z60) ⊕ (Int×Int×Z64)):=cond (decide (s.2.2.2.2.2.2.1<s.2.2.2.2.2.2.2.1)) (cond ((decide (0≤(wrap .i64 (s.2.2.2.2.2.2.2.2.1-(wrap .i64 (D0o .u64 (wrap .u64 (wrap .i64 (s.2.2.2.2.2.2.1+s.2.2.2.2.2.2.2.1))) 1))))))&&(decide ((wrap .i64 (s.2.2.2.2.2.2.2.2.1-(wrap .i64 (D0o .u64 (wrap .u64 (wrap .i64 (s.2.2.2.2.2.2.1+s.2.2.2.2.2.2.2.1))) 1))))<(s.2.2.2.2.2.2.2.2.2.1.length:Int)))) (cond ((decide (0≤(wrap .i64 (D0o .u64 (wrap .u64 (wrap .i64 (s.2.2.2.2.2.2.1+s.2.2.2.2.2.2.2.1))) 1))))&&(decide ((wrap .i64 (D0o .u64 (wrap .u64 (wrap .i64 (s.2.2.2.2.2.2.1+s.2.2.2.2.2.2.2.1))) 1))<(s.2.2.2.2.2.2.2.2.2.1.length:Int)))) ((a2m (a04 s.2.2.2.2.2.2.2.2.2.1 (a01 (wrap .i64 (s.2.2.2.2.2.2.2.2.1-(wrap .i64 (D0o .u64 (wrap .u64 (wrap .i64 (s.2.2.2.2.2.2.1+s.2.2.2.2.2.2.2.1))) 1))))) (0,0,0,false,false,[],()),a04 s.2.2.2.2.2.2.2.2.2.1 (a01 (wrap .i64 (D0o .u64 (wrap .u64 (wrap .i64 (s.2.2.2.2.2.2.1+s.2.2.2.2.2.2.2.1))) 1))) (0,0,0,false,false,[],()))).bind fun y8=>cond (!(decide (y8<0))) (some (.inl (s.1,s.2.1,s.2.2.1,s.2.2.2.1,s.2.2.2.2.1,s.2.2.2.2.2.1,wrap .i64 ((wrap .i64 (D0o .u64 (wrap .u64 (wrap .i64 (s.2.2.2.2.2.2.1+s.2.2.2.2.2.2.2.1))) 1))+1),s.2.2.2.2.2.2.2.1,s.2.2.2.2.2.2.2.2.1,s.2.2.2.2.2.2.2.2.2.1,()))) (some (.inl (s.1,s.2.1,s.2.2.1,s.2.2.2.1,s.2.2.2.2.1,s.2.2.2.2.2.1,s.2.2.2.2.2.2.1,wrap .i64 (D0o .u64 (wrap .u64 (wrap .i64 (s.2.2.2.2.2.2.1+s.2.2.2.2.2.2.2.1))) 1),s.2.2.2.2.2.2.2.2.1,s.2.2.2.2.2.2.2.2.2.1,())))) none) none) (some (.inr (s.1,s.2.1,s.2.2.1,s.2.2.2.1,s.2.2.2.2.1,s.2.2.2.2.2.1,s.2.2.2.2.2.2.1,s.2.2.2.2.2.2.2.2.2.1,())))
def a0C:Nat→(Z32×Z5)→Option Z32 |0,_=>none |fu+1,x=>cond ((wrap .i64 (x.2.2.1-x.2.1))==(1:Int)) ((x0w a1h (x.2.1,x.2.2.2.2,x.2.2.1,x.2.2.2.1,x.1,())).bind fun w2=>(x0w a1i (w2.2.1,w2.1,w2.2.2.1,())).bind fun w3=>some w3.1) (cond ((wrap .i64 (x.2.2.2.1-x.2.2.1))==(1:Int)) ((x0w a1j (x.2.2.1,x.2.2.2.2,x.2.1,x.2.2.1,x.1,())).bind fun w5=>(x0w a1k (w5.2.1,w5.1,w5.2.2.1,())).bind fun w6=>some w6.1) ((show Option (Int×Int×Int×Unit×Z60)from cond (decide (x.2.2.1 > (wrap .i64 (D0o .u64 (wrap .u64 (wrap .i64 (x.2.1+x.2.2.2.1))) (1:Int))))) (some (x.2.1,x.2.2.1,x.2.2.2.1,x.2.2.2.2,wrap .i64 (D0o .u64 (wrap .u64 (wrap .i64 (x.2.1+x.2.2.2.1))) (1:Int)),wrap .i64 ((wrap .i64 (D0o .u64 (wrap .u64 (wrap .i64 (x.2.1+x.2.2.2.1))) (1:Int)))+x.2.2.1),wrap .i64 ((wrap .i64 ((wrap .i64 (D0o .u64 (wrap .u64 (wrap .i64 (x.2.1+x.2.2.2.1))) (1:Int)))+x.2.2.1))-x.2.2.2.1),wrap .i64 (D0o .u64 (wrap .u64 (wrap .i64 (x.2.1+x.2.2.2.1))) (1:Int)),x.1,())) (some (x.2.1,x.2.2.1,x.2.2.2.1,x.2.2.2.2,wrap .i64 (D0o .u64 (wrap .u64 (wrap .i64 (x.2.1+x.2.2.2.1))) (1:Int)),wrap .i64 ((wrap .i64 (D0o .u64 (wrap .u64 (wrap .i64 (x.2.1+x.2.2.2.1))) (1:Int)))+x.2.2.1),x.2.1,x.2.2.1,x.1,()))).bind fun z7=>(x0w a0U (z7.1,z7.2.1,z7.2.2.1,z7.2.2.2.1,z7.2.2.2.2.1,z7.2.2.2.2.2.1,z7.2.2.2.2.2.2.1,z7.2.2.2.2.2.2.2.1,wrap .i64 (z7.2.2.2.2.2.1-(1:Int)),z7.2.2.2.2.2.2.2.2.1,())).bind fun w9=>(show Option (Int×Z64)from(show Option (Int×Int×Int×Unit×Int×Int×Int×Bool×Z41)from cond (decide (w9.2.2.2.2.2.2.1<w9.2.1)) (some (w9.1,w9.2.1,w9.2.2.1,w9.2.2.2.1,w9.2.2.2.2.1,w9.2.2.2.2.2.2.1,wrap .i64 (w9.2.2.2.2.2.1-w9.2.2.2.2.2.2.1),decide (w9.2.1<(wrap .i64 (w9.2.2.2.2.2.1-w9.2.2.2.2.2.2.1))),w9.2.2.2.2.2.2.2.1,())) (some (w9.1,w9.2.1,w9.2.2.1,w9.2.2.2.1,w9.2.2.2.2.1,w9.2.2.2.2.2.2.1,wrap .i64 (w9.2.2.2.2.2.1-w9.2.2.2.2.2.2.1),false,w9.2.2.2.2.2.2.2.1,()))).bind fun z10=>cond z10.2.2.2.2.2.2.2.1 ((a1u (z10.2.2.2.2.2.2.2.2.1,z10.2.2.2.2.2.1,z10.2.1,z10.2.2.2.2.2.2.1,z10.2.2.2.1)).bind fun y11=>some (z10.1,z10.2.2.1,z10.2.2.2.1,z10.2.2.2.2.1,z10.2.2.2.2.2.1,z10.2.2.2.2.2.2.1,y11,())) (some (z10.1,z10.2.2.1,z10.2.2.2.1,z10.2.2.2.2.1,z10.2.2.2.2.2.1,z10.2.2.2.2.2.2.1,z10.2.2.2.2.2.2.2.2.1,()))).bind fun z12=>(show Option Z61 from(show Option (Int×Int×Unit×Int×Int×Int×Bool×Z41)from cond (decide (z12.1<z12.2.2.2.2.1)) (some (z12.1,z12.2.1,z12.2.2.1,z12.2.2.2.1,z12.2.2.2.2.1,z12.2.2.2.2.2.1,decide (z12.2.2.2.2.1<z12.2.2.2.1),z12.2.2.2.2.2.2.1,())) (some (z12.1,z12.2.1,z12.2.2.1,z12.2.2.2.1,z12.2.2.2.2.1,z12.2.2.2.2.2.1,false,z12.2.2.2.2.2.2.1,()))).bind fun z13=>cond z13.2.2.2.2.2.2.1 ((a0C fu (z13.2.2.2.2.2.2.2.1,z13.1,z13.2.2.2.2.1,z13.2.2.2.1,z13.2.2.1)).bind fun y14=>some (z13.2.1,z13.2.2.1,z13.2.2.2.1,z13.2.2.2.2.2.1,y14,())) (some (z13.2.1,z13.2.2.1,z13.2.2.2.1,z13.2.2.2.2.2.1,z13.2.2.2.2.2.2.2.1,()))).bind fun z15=>(show Option (Int×Unit×Int×Int×Bool×Z41)from cond (decide (z15.2.2.1<z15.2.2.2.1)) (some (z15.1,z15.2.1,z15.2.2.1,z15.2.2.2.1,decide (z15.2.2.2.1<z15.1),z15.2.2.2.2.1,())) (some (z15.1,z15.2.1,z15.2.2.1,z15.2.2.2.1,false,z15.2.2.2.2.1,()))).bind fun z16=>cond z16.2.2.2.2.1 ((a0C fu (z16.2.2.2.2.2.1,z16.2.2.1,z16.2.2.2.1,z16.1,z16.2.1)).bind fun y17=>some y17) (some z16.2.2.2.2.2.1)))
def a1b(fu:Nat):FSem:=⟨[.r false (.o Q16),.v QI,.v QI,.v QI,.v (.fn 60)],[],a0C fu⟩
def b4n:Hints:=⟨[(172,[1,.sv 4 (.fn 60),10,11,.own 0 pinned Q16],[Qe 0 [1,10,.own 0 pinned Q16]]),(428,[2,.sv 4 (.fn 60),14,15,.own 0 pinned Q16],[Qe 4 [2,14,.own 0 pinned Q16]]),(698,[10,13,.own 0 pinned Q16],[Qe 2 [.own 0 pinned Q16]]),(1020,[1,2,3,.sv 4 (.fn 60),18,19,20,21,22,.own 0 pinned Q16],[Qe 8 [1,2,3,.sv 4 (.fn 60),18,19,20,.own 0 pinned Q16]]),(1722,[14,17,.own 0 pinned Q16],[Qe 6 [.own 0 pinned Q16]])],[(63,[Qn [1,2,3,.sv 4 (.fn 60),18,19,20,21,.own 0 pinned Q16]]),(1023,[Qn [1,3,.sv 4 (.fn 60),18,20,24,.own 0 pinned Q16]]),(2046,[Qn [1,2,3,.sv 4 (.fn 60),18,20,24,.sv 185 .bool,.own 0 pinned Q16]]),(2047,[Qn [3,.sv 4 (.fn 60),18,24,.own 0 pinned Q16]]),(4094,[Qn [1,3,.sv 4 (.fn 60),18,20,24,.sv 199 .bool,.own 0 pinned Q16]]),(4095,[Qn [3,.sv 4 (.fn 60),18,24,.sv 213 .bool,.own 0 pinned Q16]])],[(5,[.v,.q,.v,.q,.q,.q,.v,.q,.q,.x,.x]),(11,[.q,.v,.h,.v,.v,.q,.v,.v,.q,.q,.q,.v,.q,.q,.q,.k [0,pinned],.x,.x]),(17,[.v,.q,.v,.q,.q,.q,.v,.q,.q,.x,.x,.x]),(23,[.q,.v,.h,.v,.v,.q,.v,.v,.q,.q,.q,.v,.q,.q,.q,.k [0,pinned],.x,.x]),(35,[.v,.q,.v,.v,.v,.q,.q,.q,.v,.q,.q,.x,.x,.x])]⟩
def b2E(fu:Nat):Cx:=b1X [(60,a6m),(123,a1b fu),(128,a2p)] [] 33553439 0
theorem b3O(h:Nat)(x):D0j (b2E h) b4n Tryz.f123 (a1b (h+1)).ps (a1b (h+1)).rs x=(a1b (h+1)).F x:=by kernel_rfl
def a0X(s:Z64):Option (Z64 ⊕ Z61):=cond (decide (s.2.2.2.2.1≤s.1)) ((a0J (s.2.2.2.2.2.1,s.2.2.2.1,s.2.2.2.2.1,s.2.1)).bind fun y1=>some (.inl (s.1,s.2.1,s.2.2.1,s.2.2.2.2.1,wrap .i64 (s.2.2.2.2.1+s.2.2.1),y1,()))) (some (.inr (s.1,s.2.1,s.2.2.1,s.2.2.2.1,s.2.2.2.2.2.1,())))
def a2f(s:Z64):Option (Z64 ⊕ Z61):=cond (decide (s.2.2.2.2.1≤s.1)) ((a0C 64 (s.2.2.2.2.2.1,s.2.2.2.1,wrap .i64 (s.2.2.2.1+s.2.2.1),s.2.2.2.2.1,s.2.1)).bind fun y5=>some (.inl (s.1,s.2.1,s.2.2.1,s.2.2.2.2.1,wrap .i64 (s.2.2.2.2.1+(wrap .i64 (2*s.2.2.1))),y5,()))) (some (.inr (s.1,s.2.1,s.2.2.1,s.2.2.2.1,s.2.2.2.2.2.1,())))
def a0R(s:Z57):Option (Z57 ⊕ Z41):=cond (decide (s.2.2.1<s.1)) ((x0w a2f (s.1,s.2.1,s.2.2.1,0,wrap .i64 (2*s.2.2.1),s.2.2.2.1,())).bind fun w6=>cond (decide ((wrap .i64 (w6.2.2.2.1+w6.2.2.1))<w6.1)) ((a0C 64 (w6.2.2.2.2.1,w6.2.2.2.1,wrap .i64 (w6.2.2.2.1+w6.2.2.1),w6.1,w6.2.1)).bind fun y7=>some (.inl (w6.1,w6.2.1,wrap .i64 (w6.2.2.1*2),y7,()))) (some (.inl (w6.1,w6.2.1,wrap .i64 (w6.2.2.1*2),w6.2.2.2.2.1,())))) (some (.inr (s.2.2.2.1,())))
def a1v(x:(Z32×Int×Unit)):Option Z32:=(x0w a0X (x.2.1,x.2.2,20,0,20,x.1,())).bind fun w2=>(a0J (w2.2.2.2.2.1,w2.2.2.2.1,w2.1,w2.2.1)).bind fun y3=>(x0w a0R (w2.1,w2.2.1,w2.2.2.1,y3,())).bind fun w8=>some w8.1
def a4a:FSem:=⟨[.r false (.o Q16),.v QI,.v (.fn 60)],[],a1v⟩
def H95:Hints:=⟨[(28,[1,.sv 2 (.fn 60),6,7,8,.own 0 pinned Q16],[Qe 0 [1,.sv 2 (.fn 60),6,7,.own 0 pinned Q16]]),(62,[1,.sv 2 (.fn 60),6,.own 0 pinned Q16],[Qe 2 [.own 0 pinned Q16]]),(3988,[1,.sv 2 (.fn 60),6,7,8,.own 0 pinned Q16],[Qe 4 [1,.sv 2 (.fn 60),6,7,.own 0 pinned Q16]])],[],[]⟩
def a0S(x:Z41):Option Z32:=(a1v (x.1,(x.1.length:Int),x.2)).bind fun y1=>some y1
def a2x:FSem:=⟨[.r false (.o Q16),.v (.fn 60)],[],a0S⟩
def a2Z(s:(Z40×Int×Z40×Int×Int×Z32×Int×Int×Unit)):Option ((Z40×Int×Z40×Int×Int×Z32×Int×Int×Unit) ⊕ ((Z40×Z40×Int×Int×Unit) ⊕ Z45)):=cond (decide (s.2.2.2.2.2.2.2.1<s.2.2.2.2.2.2.1)) ((n0o s.2.2.2.2.2.1 s.2.2.2.2.2.2.2.1).bind fun x3=>(a4q x3).bind fun y4=>(show Option (Z40×Int×Z40×Int×Int×Z32×Z6)from cond (y4.2 != 0) (some (s.1,s.2.1,s.2.2.1,s.2.2.2.1,s.2.2.2.2.1,s.2.2.2.2.2.1,s.2.2.2.2.2.2.1,s.2.2.2.2.2.2.2.1,true,())) (some (s.1,s.2.1,s.2.2.1,s.2.2.2.1,s.2.2.2.2.1,s.2.2.2.2.2.1,s.2.2.2.2.2.2.1,s.2.2.2.2.2.2.2.1,x3.1 != s.2.1,()))).bind fun z5=>cond z5.2.2.2.2.2.2.2.2.1 (some (.inr (Sum.inr ((1,[],()))))) (some (.inl (z5.1,z5.2.1,z5.2.2.1,z5.2.2.2.1,z5.2.2.2.2.1,z5.2.2.2.2.2.1,z5.2.2.2.2.2.2.1,wrap .i64 (z5.2.2.2.2.2.2.2.1+1),())))) (some (.inr (Sum.inl (s.1,s.2.2.1,s.2.2.2.1,s.2.2.2.2.1,()))))
def a3R(s:(Z40×Z40×Int×Int×Unit)):Option ((Z40×Z40×Int×Int×Unit) ⊕ ((Z40×Unit) ⊕ Z45)):=cond (decide (s.2.2.2.1<s.2.2.1)) ((n0o s.2.1 s.2.2.2.1).bind fun x2=>(x0w a2Z (s.1,s.2.2.2.1,s.2.1,s.2.2.1,s.2.2.2.1,x2,(x2.length:Int),0,())).bind fun w6=>match w6 with |.inl a7=>some (.inl (a7.1,a7.2.1,a7.2.2.1,wrap .i64 (a7.2.2.2.1+1),())) |.inr b8=>some (.inr (Sum.inr ((b8.1,b8.2.1,()))))) (some (.inr (Sum.inl (s.1,()))))
def a3a(s:(Z32×Z40×Int×Int×Z32×Z49)):Option ((Z32×Z40×Int×Int×Z32×Z49) ⊕ ((Z40×Z49) ⊕ Z45)):=cond (decide (s.2.2.2.2.2.2.1<s.2.2.2.2.2.1)) ((n0o s.2.2.2.2.1 s.2.2.2.2.2.2.1).bind fun x13=>(show Option (Z32×Z40×Int×Int×Z32×Int×Int×Bool×Z32×Z28×Unit)from cond (decide (s.2.2.2.2.2.2.1 > 0)) ((n0o s.1 (wrap .i64 (s.2.2.2.2.2.2.1-1))).bind fun x14=>some (s.1,s.2.1,s.2.2.1,s.2.2.2.1,s.2.2.2.2.1,s.2.2.2.2.2.1,s.2.2.2.2.2.2.1,decide (x13.2.1<x14.2.1),s.2.2.2.2.2.2.2.1,x13,())) (some (s.1,s.2.1,s.2.2.1,s.2.2.2.1,s.2.2.2.2.1,s.2.2.2.2.2.1,s.2.2.2.2.2.2.1,false,s.2.2.2.2.2.2.2.1,x13,()))).bind fun z15=>cond z15.2.2.2.2.2.2.2.1 (some (.inr (Sum.inr ((12,[],()))))) ((a4k z15.2.2.2.2.2.2.2.2.2.1).bind fun y16=>cond (lim ((a00 z15.2.2.2.2.2.2.2.2.1)+1)) (some (.inl (z15.1,z15.2.1,z15.2.2.1,z15.2.2.2.1,z15.2.2.2.2.1,z15.2.2.2.2.2.1,wrap .i64 (z15.2.2.2.2.2.2.1+1),a02 z15.2.2.2.2.2.2.2.2.1 ([y16]:List Z28),()))) none)) (some (.inr (Sum.inl (s.2.1,s.2.2.1,s.2.2.2.1,s.2.2.2.2.2.2.2.1,()))))
def a3S(s:(Z40×Z49)):Option ((Z40×Z49) ⊕ (Z41 ⊕ Z45)):=cond (decide (s.2.2.1<s.2.1)) ((n0o s.1 s.2.2.1).bind fun x12=>(x0w a3a (x12,s.1,s.2.1,s.2.2.1,x12,(x12.length:Int),0,s.2.2.2.1,())).bind fun w17=>match w17 with |.inl a18=>some (.inl (a18.1,a18.2.1,wrap .i64 (a18.2.2.1+1),a18.2.2.2.1,())) |.inr b19=>some (.inr (Sum.inr ((b19.1,b19.2.1,()))))) (some (.inr (Sum.inl (s.2.2.2.1,()))))
def a2T(x:Z40):Option (Z32×Int):=(show Option (Z40×Bool×Unit)from cond (decide ((x.length:Int)<1)) (some (x,true,())) (some (x,decide ((x.length:Int) > 4),()))).bind fun z1=>cond z1.2.1 (some ([],1)) ((x0w a3R (z1.1,z1.1,(z1.1.length:Int),0,())).bind fun w9=>match w9 with |.inl a10=>((x0w a3S (a10.1,(a10.1.length:Int),0,[],())).bind fun w20=>match w20 with |.inl a21=>((a0S (a21.1,())).bind fun y23=>some (y23,0)) |.inr b22=>some (b22.2.1,b22.1)) |.inr b11=>some (b11.2.1,b11.1))
def a9v:FSem:=⟨[.v (.list false (.list false Q16))],[.o Q16,.v QI],a2T⟩
def H17:Hints:=⟨[(58,[.sv 0 (.list false (.list false Q16)),.sv 23 (.list false (.list false Q16)),24,25],[Qe 0 [.sv 0 (.list false (.list false Q16))],Qr [3,.own 2 2 Q16]]),(250,[.sv 51 (.list false (.list false Q16)),52,53,.own 10 10 Q16],[Qe 4 [.own 10 10 Q16],Qr [3,.own 2 2 Q16]]),(14950,[.sv 0 (.list false (.list false Q16)),4,.sv 23 (.list false (.list false Q16)),24,25,.sv 30 (.list false Q16),31,32],[Qe 2 [.sv 0 (.list false (.list false Q16)),.sv 23 (.list false (.list false Q16)),24,25],Qr [3,.own 2 2 Q16]]),(64102,[.sv 12 (.list false Q16),.sv 51 (.list false (.list false Q16)),52,53,.sv 57 (.list false Q16),58,59,.own 10 10 Q16],[Qe 6 [.sv 51 (.list false (.list false Q16)),52,53,.own 10 10 Q16],Qr [3,.own 2 2 Q16]])],[(6,[Qn [.sv 0 (.list false (.list false Q16)),.sv 22 .bool]]),(1913651,[Qn [.sv 0 (.list false (.list false Q16)),4,.sv 23 (.list false (.list false Q16)),24,25,.sv 30 (.list false Q16),31,32,.sv 48 .bool]]),(8205106,[Qn [.sv 12 (.list false Q16),.sv 51 (.list false (.list false Q16)),52,53,.sv 57 (.list false Q16),58,59,.sv 76 .bool,.own 10 10 Q16,.box 14 Q16,Qp 14 14]])],[(21,[.x,.x,.x,.q,.q,.v,.v,.v,.v,.v,.v,.x,.x])]⟩
def a3B(s:(Int×Z32×Int×Int×Z0)):Option ((Int×Z32×Int×Int×Z0) ⊕ ((Int×Z0) ⊕ Z43)):=cond (decide (s.2.2.2.1<s.2.2.1)) ((n0o s.2.1 s.2.2.2.1).bind fun x2=>(a4q x2).bind fun y3=>cond (y3.2 != 0) (some (.inr (Sum.inr ((y3.2,[],()))))) (cond ((decide (0≤s.2.2.2.1))&&(decide (s.2.2.2.1<(s.2.2.2.2.1.length:Int)))) (some (.inl (s.1,s.2.1,s.2.2.1,wrap .i64 (s.2.2.2.1+1),a06 s.2.2.2.2.1 (a01 s.2.2.2.1) y3.1,()))) none)) (some (.inr (Sum.inl (s.1,s.2.2.2.2.1,()))))
def a3C(s:(Int×(LI×Z63))):Option ((Int×(LI×Z63)) ⊕ (Z63 ⊕ Z43)):=cond (decide (s.2.2.1<(s.2.1.length:Int))) (cond (decide ((wrap .i64 (s.1+(s.2.2.2.2.2.1.length:Int))) > 2147483647)) (some (.inr (Sum.inr ((4,[],()))))) (cond ((decide (0≤(x0t (wrap .i64 (s.2.2.1+252)) (s.2.1.length:Int))))&&(decide ((x0t (wrap .i64 (s.2.2.1+252)) (s.2.1.length:Int))≤(s.2.1.length:Int)))) (cond ((decide (0≤s.2.2.1))&&(decide (s.2.2.1≤((a01 (x0t (wrap .i64 (s.2.2.1+252)) (s.2.1.length:Int)):Nat):Int)))) ((a2l (a05 (a01 s.2.2.1) (a03 (a01 (x0t (wrap .i64 (s.2.2.1+252)) (s.2.1.length:Int))) s.2.1))).bind fun y7=>cond (lim ((a00 s.2.2.2.2.2.1)+1)) (some (.inl (s.1,s.2.1,wrap .i64 (s.2.2.1+252),s.2.2.2.1,s.2.2.2.2.1,a02 s.2.2.2.2.2.1 ([(wrap .i64 (s.1+(s.2.2.2.2.2.1.length:Int)),s.2.2.1==0,(x0t (wrap .i64 (s.2.2.1+252)) (s.2.1.length:Int))==(s.2.1.length:Int),false,y7,())]:List Z27),s.2.2.2.2.2.2.1,()))) none) none) none)) (some (.inr (Sum.inl (s.1,s.2.2.2.1,s.2.2.2.2.1,s.2.2.2.2.2.1,s.2.2.2.2.2.2.1,()))))
def a2L(s:Z63):Option (Z63 ⊕ (Z36 ⊕ Z43)):=cond (decide (s.2.2.1<s.2.1)) (cond ((decide (0≤s.2.2.1))&&(decide (s.2.2.1<(s.2.2.2.2.1.length:Int)))) ((x0w a3C (s.1,a04 s.2.2.2.2.1 (a01 s.2.2.1) [],0,s.2.1,s.2.2.1,s.2.2.2.1,s.2.2.2.2.1,())).bind fun w8=>match w8 with |.inl a9=>some (.inl (a9.1,a9.2.1,wrap .i64 (a9.2.2.1+1),a9.2.2.2.1,a9.2.2.2.2.1,())) |.inr b10=>some (.inr (Sum.inr ((b10.1,b10.2.1,()))))) none) (some (.inr (Sum.inl (s.2.2.2.1,()))))
def a3b(x:(Z32×Int)):Option Z34:=(show Option (Z32×Int×Bool×Unit)from cond (decide (x.2<0)) (some (x.1,x.2,true,())) (some (x.1,x.2,decide (x.2 > 2147483647),()))).bind fun z1=>cond z1.2.2.1 (some ([],1)) (cond ((decide (0≤(z1.1.length:Int)))&&((decide ((z1.1.length:Int)≤(z1.1.length:Int)))&&(lim (a01 (z1.1.length:Int))))) ((x0w a3B (z1.2.1,z1.1,(z1.1.length:Int),0,List.replicate (a01 (z1.1.length:Int)) [],())).bind fun w4=>match w4 with |.inl a5=>((x0w a2L (a5.1,(a5.2.1.length:Int),0,[],a5.2.1,())).bind fun w11=>match w11 with |.inl a12=>some (a12.1,0) |.inr b13=>some (b13.2.1,b13.1)) |.inr b6=>some (b6.2.1,b6.1)) none)
def a8u:FSem:=⟨[.v (.list false Q16),.v QI],[.o Q14,.v QI],a3b⟩
def H18:Hints:=⟨[(122,[1,.sv 26 (.list false Q16),27,28,.own 6 6 QB],[Qe 0 [1,.own 6 6 QB],Qr [5,.own 4 4 Q14]]),(506,[1,47,48,.own 11 11 Q14,.own 46 6 QB],[Qe 2 [.own 11 11 Q14],Qr [5,.own 4 4 Q14]]),(129638,[1,.sv 13 QB,14,47,48,.own 11 11 Q14,.own 46 6 QB],[Qe 4 [1,47,48,.own 11 11 Q14,.own 46 6 QB],Qr [5,.own 4 4 Q14]])],[(6,[Qn [.sv 0 (.list false Q16),1,.sv 22 .bool]])],[]⟩
def a3y(s:(Int×(LI×Z5))):Option ((Int×(LI×Z5)) ⊕ Z18):=cond (decide (s.2.2.2.2.1<8)) (cond ((bits .u32 .and s.1 1)==1) (some (.inl (bits .u32 .xor (D0o .u32 s.1 1) 3988292384,s.2.1,s.2.2.1,s.2.2.2.1,wrap .i64 (s.2.2.2.2.1+1),()))) (some (.inl (D0o .u32 s.1 1,s.2.1,s.2.2.1,s.2.2.2.1,wrap .i64 (s.2.2.2.2.1+1),())))) (some (.inr (s.1,s.2.1,s.2.2.1,s.2.2.2.1,())))
def a3z(s:Z18):Option (Z18 ⊕ (Int×Unit)):=cond (decide (s.2.2.2.1<s.2.2.1)) ((n0o s.2.1 s.2.2.2.1).bind fun x1=>(x0w a3y (bits .u32 .xor s.1 (wrap .u32 x1),s.2.1,s.2.2.1,s.2.2.2.1,0,())).bind fun w2=>some (.inl (w2.1,w2.2.1,w2.2.2.1,wrap .i64 (w2.2.2.2.1+1),()))) (some (.inr (s.1,())))
def a1l(x:LI):Option Int:=(x0w a3z (4294967295,x,(x.length:Int),0,())).bind fun w3=>some (bits .u32 .xor (IntKind.max .u32) w3.1)
def a7d:FSem:=⟨[.v QB],[.v (.int .u32)],a1l⟩
def H54:Hints:=⟨[(58,[.sv 3 (.int .u32),.sv 7 QB,8,9],[Qe 0 [.sv 3 (.int .u32)]]),(29902,[.sv 3 (.int .u32),.sv 7 QB,8,9,17],[Qe 2 [.sv 3 (.int .u32),.sv 7 QB,8,9]])],[],[]⟩
def a1U(x:Bool):Option Int:=cond x (some 255) (some 252)
def a7l:FSem:=⟨[.v .bool],[.v QI],a1U⟩
def a2y(x:Z27):Option (LI×Int):=(show Option Z39 from cond (decide (x.1<0)) (some (true,x,())) (cond (decide (x.1 > 2147483647)) (some (true,x,())) (cond (decide ((x.2.2.2.2.1.length:Int)<1)) (some (true,x,())) ((a1U x.2.2.2.1).bind fun y1=>some (decide ((x.2.2.2.2.1.length:Int) > y1),x,()))))).bind fun z2=>cond z2.1 (some ([],1)) ((a1K (z2.2.1.2.1,1)).bind fun y3=>(a1K (z2.2.1.2.2.1,2)).bind fun y4=>(a1K (z2.2.1.2.2.2.1,4)).bind fun y5=>(a1S (wrap .u64 z2.2.1.1,4)).bind fun y6=>cond (lim (3+(a00 y6))) (cond (lim ((a00 (a02 [75,80,bits .u8 .or (bits .u8 .or y3 y4) y5] y6))+1)) (cond (lim ((a00 (a02 (a02 [75,80,bits .u8 .or (bits .u8 .or y3 y4) y5] y6) ([wrap .u8 (z2.2.1.2.2.2.2.1.length:Int)]:List Int)))+(a00 z2.2.1.2.2.2.2.1))) ((a1l (a02 (a02 (a02 [75,80,bits .u8 .or (bits .u8 .or y3 y4) y5] y6) ([wrap .u8 (z2.2.1.2.2.2.2.1.length:Int)]:List Int)) z2.2.1.2.2.2.2.1)).bind fun y7=>(a1S (wrap .u64 y7,4)).bind fun y8=>cond (lim ((a00 (a02 (a02 (a02 [75,80,bits .u8 .or (bits .u8 .or y3 y4) y5] y6) ([wrap .u8 (z2.2.1.2.2.2.2.1.length:Int)]:List Int)) z2.2.1.2.2.2.2.1))+(a00 y8))) (some (a02 (a02 (a02 (a02 [75,80,bits .u8 .or (bits .u8 .or y3 y4) y5] y6) ([wrap .u8 (z2.2.1.2.2.2.2.1.length:Int)]:List Int)) z2.2.1.2.2.2.2.1) y8,0)) none) none) none) none)
def a8v:FSem:=⟨[.v Q14],[.o QV,.v QI],a2y⟩
def H68:Hints:=⟨[],[(6,[Qn [.sv 28 .bool,.vp 1 Q14]])],[(1,[.x,.x,.x,.x,.x,.x,.x,.x,.x,.x,.x,.x,.x,.x,.x,.v,.v,.v,.v,.v,.v,.x,.x]),(3,[.v,.v,.v,.v,.v,.v,.v,.v,.v,.v,.x,.x])]⟩
def a2i(x:Z27):Option Bool:=(a2y x).bind fun y1=>some (y1.2==0)
def a3D:FSem:=⟨[.v Q14],[.v .bool],a2i⟩
def a2F(x:Z27):Option Z27:=cond (lim (a00 x.2.2.2.2.1)) (some (x.1,x.2.1,x.2.2.1,x.2.2.2.1,x.2.2.2.2.1,x.2.2.2.2.2)) none
def a4l:FSem:=⟨[.v Q14],[.v Q14],a2F⟩
def a3K(x:Z27):Option Int:=(show Option Z38 from cond x.2.1 (some (bits .u8 .or 0 1,x,())) (some (0,x,()))).bind fun z1=>(show Option (Int×Unit)from cond z1.2.1.2.2.1 (some (bits .u8 .or z1.1 2,())) (some (z1.1,()))).bind fun z2=>some z2.1
def a8w:FSem:=⟨[.v Q14],[.v QV],a3K⟩
def H98:Hints:=⟨[],[(7,[Qn [.sv 3 QV,.vp 1 Q14]]),(15,[Qn [.sv 3 QV]])],[]⟩
def a4r(s:Z7):Option (Z7 ⊕ Z7):=cond (decide ((s.2.1.length:Int)<(s.1.length:Int))) (cond (lim ((a00 s.2.1)+1)) (some (.inl (s.1,a02 s.2.1 [0],()))) none) (some (.inr (s.1,s.2.1,())))
def a4s(s:Z24):Option (Z24 ⊕ (LI×Unit)):=cond (decide (s.2.2.1<s.2.1)) ((n0o s.1 s.2.2.1).bind fun x2=>cond ((decide (0≤s.2.2.1))&&(decide (s.2.2.1<(s.2.2.2.1.length:Int)))) (cond ((decide (0≤s.2.2.1))&&(decide (s.2.2.1<(s.2.2.2.1.length:Int)))) (some (.inl (s.1,s.2.1,wrap .i64 (s.2.2.1+1),a06 s.2.2.2.1 (a01 s.2.2.1) (bits .u8 .xor (a04 s.2.2.2.1 (a01 s.2.2.1) 0) x2),()))) none) none) (some (.inr (s.2.2.2.1,())))
def a3L(x:(LI×LI)):Option (LI×LI):=(x0w a4r (x.2,x.1,())).bind fun w1=>(x0w a4s (w1.1,(w1.1.length:Int),0,w1.2.1,())).bind fun w3=>some (w3.1,[])
def a8x:FSem:=⟨[.r true (.o QV),.v QB],[.o QV],a3L⟩
def H99:Hints:=⟨[(12,[.sv 1 QB,.own 0 0 QV],[Qe 0 [.sv 1 QB,.own 0 0 QV]]),(58,[.sv 15 QB,16,17,.own 0 0 QV],[Qe 2 [.own 0 0 QV]])],[],[]⟩
def a4t(s:(Z29×Z73)):Option ((Z29×Z73) ⊕ Z70):=cond (decide (s.2.2.2.2.2.1<s.2.2.2.2.1)) ((n0o s.2.2.2.1 s.2.2.2.2.2.1).bind fun x1=>(a3K x1).bind fun y2=>(a3L (s.2.2.2.2.2.2.1,x1.2.2.2.2.1)).bind fun y3=>some (.inl (s.1,bits .u8 .xor s.2.1 y2,bits .u8 .xor s.2.2.1 (wrap .u8 (x1.2.2.2.2.1.length:Int)),s.2.2.2.1,s.2.2.2.2.1,wrap .i64 (s.2.2.2.2.2.1+1),y3.1,s.2.2.2.2.2.2.2.1,()))) (some (.inr (s.1,s.2.1,s.2.2.1,s.2.2.2.2.2.2.1,s.2.2.2.2.2.2.2.1,())))
def a3c(x:Z29):Option Z27:=(x0w a4t (x,0,0,x,(x.length:Int),0,[],(0,false,false,false,[],()),())).bind fun w4=>cond (lim (3+(a00 w4.2.2.2.1))) ((n0o w4.1 0).bind fun x5=>some (x5.1,false,false,true,a02 ([wrap .u8 (w4.1.length:Int),w4.2.1,w4.2.2.1]:List Int) w4.2.2.2.1,())) none
def a8y:FSem:=⟨[.v (.list false Q14)],[.v Q14],a3c⟩
def H67:Hints:=⟨[(122,[.sv 0 (.list false Q14),.sv 3 QV,.sv 4 QV,.sv 9 (.list false Q14),10,11,.own 5 5 QV,.box 2 Q14,Qp 2 2],[Qe 0 [.sv 0 (.list false Q14),.sv 3 QV,.sv 4 QV,.own 5 5 QV,.box 2 Q14,Qp 2 2]])],[],[]⟩
def a2M(s:(Z29×Z29×Int×Int×Unit)):Option ((Z29×Z29×Int×Int×Unit) ⊕ (Z36 ⊕ Z43)):=cond (decide (s.2.2.2.1<s.2.2.1)) ((n0o s.2.1 s.2.2.2.1).bind fun x1=>(show Option (Z29×Int×Z29×Int×Int×Z39)from(a2i x1).bind fun y2=>cond (!y2) (some (s.1,s.2.2.2.1,s.2.1,s.2.2.1,s.2.2.2.1,true,x1,())) (some (s.1,s.2.2.2.1,s.2.1,s.2.2.1,s.2.2.2.1,x1.2.2.2.1,x1,()))).bind fun z3=>cond z3.2.2.2.2.2.1 (some (.inr (Sum.inr ((1,[],()))))) ((show Option (Z29×Z29×Z6)from cond (decide (z3.2.1 > 0)) ((n0o z3.1 (wrap .i64 (z3.2.1-1))).bind fun x4=>some (z3.1,z3.2.2.1,z3.2.2.2.1,z3.2.2.2.2.1,z3.2.2.2.2.2.2.1.1 != (wrap .i64 (x4.1+1)),())) (some (z3.1,z3.2.2.1,z3.2.2.2.1,z3.2.2.2.2.1,false,()))).bind fun z5=>cond z5.2.2.2.2.1 (some (.inr (Sum.inr ((1,[],()))))) (some (.inl (z5.1,z5.2.1,z5.2.2.1,wrap .i64 (z5.2.2.2.1+1),()))))) (some (.inr (Sum.inl (s.1,()))))
def a2N(s:(Z29×Int×Z29×Z29×Z47)):Option ((Z29×Int×Z29×Z29×Z47) ⊕ (Z29×Z66)):=cond (decide (s.2.2.2.2.2.1<s.2.2.2.2.1)) ((n0o s.2.2.2.1 s.2.2.2.2.2.1).bind fun x9=>(a2F x9).bind fun y10=>cond (lim ((a00 s.2.2.2.2.2.2.1)+1)) (some (.inl (s.1,s.2.1,s.2.2.1,s.2.2.2.1,s.2.2.2.2.1,wrap .i64 (s.2.2.2.2.2.1+1),a02 s.2.2.2.2.2.2.1 ([y10]:List Z27),()))) none) (some (.inr (s.1,s.2.1,s.2.2.1,s.2.2.2.2.2.2.1,())))
def a4u(s:(Z29×Z43)):Option ((Z29×Z43) ⊕ Z36):=cond (decide (s.2.1<(s.1.length:Int))) (cond ((decide (0≤(x0t (wrap .i64 (s.2.1+8)) (s.1.length:Int))))&&(decide ((x0t (wrap .i64 (s.2.1+8)) (s.1.length:Int))≤(s.1.length:Int)))) (cond ((decide (0≤s.2.1))&&(decide (s.2.1≤((a01 (x0t (wrap .i64 (s.2.1+8)) (s.1.length:Int)):Nat):Int)))) ((x0w a2N (s.1,s.2.1,a05 (a01 s.2.1) (a03 (a01 (x0t (wrap .i64 (s.2.1+8)) (s.1.length:Int))) s.1),a05 (a01 s.2.1) (a03 (a01 (x0t (wrap .i64 (s.2.1+8)) (s.1.length:Int))) s.1),((a00 (a05 (a01 s.2.1) (a03 (a01 (x0t (wrap .i64 (s.2.1+8)) (s.1.length:Int))) s.1)):Nat):Int),0,s.2.2.1,())).bind fun w11=>(a3c w11.2.2.1).bind fun y12=>cond (lim ((a00 w11.2.2.2.1)+1)) (some (.inl (w11.1,wrap .i64 (w11.2.1+8),a02 w11.2.2.2.1 ([y12]:List Z27),()))) none) none) none) (some (.inr (s.2.2.1,())))
def a3d(x:Z29):Option Z34:=(x0w a2M (x,x,(x.length:Int),0,())).bind fun w6=>match w6 with |.inl a7=>((x0w a4u (a7.1,0,[],())).bind fun w13=>some (w13.1,0)) |.inr b8=>some (b8.2.1,b8.1)
def a8z:FSem:=⟨[.v (.list false Q14)],[.o Q14,.v QI],a3d⟩
def H19:Hints:=⟨[(26,[.sv 0 (.list false Q14),.sv 11 (.list false Q14),12,13],[Qe 0 [.sv 0 (.list false Q14)],Qr [3,.own 2 2 Q14]]),(122,[.sv 0 (.list false Q14),7,.own 6 6 Q14],[Qe 2 [.own 6 6 Q14]]),(31306,[.sv 0 (.list false Q14),7,.sv 8 (.list false Q14),.sv 54 (.list false Q14),55,56,.own 6 6 Q14],[Qe 4 [.sv 0 (.list false Q14),7,.sv 8 (.list false Q14),.own 6 6 Q14]])],[(3378,[Qn [.sv 0 (.list false Q14),4,.sv 11 (.list false Q14),12,13,.sv 24 .bool,.box 5 Q14,Qp 5 5]]),(3379,[Qn [.sv 0 (.list false Q14),.sv 11 (.list false Q14),12,13,.sv 38 .bool]])],[(6,[.x,.x,.x,.q,.q,.v,.v,.v,.v,.v,.v,.v,.x,.x])]⟩
def a3E(s:(Z29×Z9)):Option ((Z29×Z9) ⊕ ((LI×Unit) ⊕ Z2)):=cond (decide (s.2.2.1<s.2.1)) ((n0o s.1 s.2.2.1).bind fun x1=>(a2y x1).bind fun y2=>cond (y2.2 != 0) (some (.inr (Sum.inr ((y2.2,[],()))))) (cond (lim ((a00 s.2.2.2.1)+(a00 y2.1))) (some (.inl (s.1,s.2.1,wrap .i64 (s.2.2.1+1),a02 s.2.2.2.1 y2.1,()))) none)) (some (.inr (Sum.inl (s.2.2.2.1,()))))
def a3e(x:Z29):Option (LI×Int):=(x0w a3E (x,(x.length:Int),0,[],())).bind fun w3=>match w3 with |.inl a4=>some (a4.1,0) |.inr b5=>some (b5.2.1,b5.1)
def a8A:FSem:=⟨[.v (.list false Q14)],[.o QV,.v QI],a3e⟩
def H20:Hints:=⟨[(58,[.sv 9 (.list false Q14),10,11,.own 4 4 QV],[Qe 0 [.own 4 4 QV],Qr [3,.own 2 2 QV]])],[],[]⟩
def a5g(x:(Int×Int×Unit)):Option Bool:=cond (decide (x.1≥1)) (cond (decide (x.1≤1048576)) (cond (decide (x.2.1≥1)) (some (decide (x.2.1≤1048576))) (some false)) (some false)) (some false)
def b0H:FSem:=⟨[.v Q2],[.v .bool],a5g⟩
def a5d(x:Int):Option Bool:=cond (decide (4≤x)) (some (decide (x≤24))) (some false)
def a8l:FSem:=⟨[.v QI],[.v .bool],a5d⟩
def a5e(x:Z5):Option Bool:=cond (decide (1≤x.1)) (cond (decide (x.1≤1048576)) (cond (decide (1≤x.2.1)) (cond (decide (x.2.1≤8)) ((a5d x.2.2.1).bind fun y1=>some y1) (some false)) (some false)) (some false)) (some false)
def a8m:FSem:=⟨[.v Q6],[.v .bool],a5e⟩
def a2G(x:(Int×Int)):Option Bool:=cond (decide (x.1≥1)) (some (decide (x.1≤x.2))) (some false)
def a8n:FSem:=⟨[.v QI,.v QI],[.v .bool],a2G⟩
def a3T(x:Z55):Option Bool:=(fun(a:Z5)(b c d e:Int)=>(a5g x.2.1).bind fun y1=>cond (!y1) (some false) (cond (x.1==1) ((a5e a).bind fun y2=>cond y2 (cond (b==0) (cond (c==0) (cond (d==0) (some (e==0)) (some false)) (some false)) (some false)) (some false)) (cond (x.1==2) ((a2G (b,64)).bind fun y3=>cond y3 ((a2G (c,64)).bind fun y4=>cond y4 ((a2G (d,16)).bind fun y5=>cond y5 ((a2G (e,4)).bind fun y6=>cond y6 (some (eqT Q6 a ((0: Int),(0: Int),(0: Int),()))) (some false)) (some false)) (some false)) (some false)) (some false)))) x.2.2.1 x.2.2.2.1 x.2.2.2.2.1 x.2.2.2.2.2.1 x.2.2.2.2.2.2.1
def b0I:FSem:=⟨[.v Q19],[.v .bool],a3T⟩
def a2d(x:(Int×Int)):Option Bool:=cond (decide (x.1≥0)) (cond (decide (x.1≤1125899906842624)) (cond (decide (x.2≥0)) (some (decide (x.2≤2147483647))) (some false)) (some false)) (some false)
def a7e:FSem:=⟨[.v QI,.v QI],[.v .bool],a2d⟩
def a3U(s:(Int×Z24)):Option ((Int×Z24) ⊕ (Int×Z24)):=(fun(a b c:Int)(d:LI)=>cond (decide (a≥128)) (cond (lim ((a00 d)+1)) (some (.inl (wrap .u64 (a14 a 128),s.2.1,b,c,a02 d [wrap .u8 ((wrap .u8 (a07 a 128))+128)],()))) none) (some (.inr (a,s.2.1,b,c,d,())))) s.1 s.2.2.1 s.2.2.2.1 s.2.2.2.2.1
def a3V(s:Z24):Option (Z24 ⊕ (LI×Unit)):=cond (decide (s.2.2.1<s.2.1)) ((n0o s.1 s.2.2.1).bind fun x1=>(x0w a3U (x1,s.1,s.2.1,s.2.2.1,s.2.2.2.1,())).bind fun w2=>cond (lim ((a00 w2.2.2.2.2.1)+1)) (some (.inl (w2.2.1,w2.2.2.1,wrap .i64 (w2.2.2.2.1+1),a02 w2.2.2.2.2.1 [wrap .u8 w2.1],()))) none) (some (.inr (s.2.2.2.1,())))
def a1z(x:LI):Option LI:=(x0w a3V (x,(x.length:Int),0,[],())).bind fun w3=>some w3.1
def a9w:FSem:=⟨[.v (.list false QU)],[.o QV],a1z⟩
def H70:Hints:=⟨[(58,[.sv 6 (.list false QU),7,8,.own 3 3 QV],[Qe 0 [.own 3 3 QV]]),(14948,[.sv 5 QU,.sv 6 (.list false QU),7,8,.own 3 3 QV],[Qe 2 [.sv 5 QU,.sv 6 (.list false QU),7,8,.own 3 3 QV]])],[],[]⟩
def a4c(x:Int):Option Int:=cond (decide (x≥0)) (some (wrap .u64 (2*(wrap .u64 x)))) (some (wrap .u64 ((wrap .u64 (2*(wrap .u64 (wrap .i64 (0-(wrap .i64 (x+1)))))))+1)))
def a9x:FSem:=⟨[.v QI],[.v QU],a4c⟩
def a3o(s:(Z11×Z11×Int×Int×Unit)):Option ((Z11×Z11×Int×Int×Unit) ⊕ (Z19 ⊕ Z2)):=cond (decide (s.2.2.2.1<s.2.2.1)) ((n0o s.2.1 s.2.2.2.1).bind fun x1=>(show Option (Z11×Z11×Z6)from cond (decide (x1.1<0)) (some (s.1,s.2.1,s.2.2.1,s.2.2.2.1,true,())) (cond (decide (x1.1≥4)) (some (s.1,s.2.1,s.2.2.1,s.2.2.2.1,true,())) ((a2d (x1.2.1,x1.2.2.1)).bind fun y2=>some (s.1,s.2.1,s.2.2.1,s.2.2.2.1,!y2,())))).bind fun z3=>cond z3.2.2.2.2.1 (some (.inr (Sum.inr ((1,[],()))))) (some (.inl (z3.1,z3.2.1,z3.2.2.1,wrap .i64 (z3.2.2.2.1+1),())))) (some (.inr (Sum.inl (s.1,()))))
def a2z(s:(Int×Int×Z11×Z9)):Option ((Int×Int×Z11×Z9) ⊕ (LI×Unit)):=cond (decide (s.2.2.2.2.1<s.2.2.2.1)) ((n0o s.2.2.1 s.2.2.2.2.1).bind fun x8=>(a4c (wrap .i64 (x8.2.1-s.1))).bind fun y9=>(a4c (wrap .i64 (x8.2.2.1-s.2.1))).bind fun y10=>(a1z [wrap .u64 x8.1,y9,y10]).bind fun y11=>cond (lim ((a00 s.2.2.2.2.2.1)+(a00 y11))) (some (.inl (x8.2.1,x8.2.2.1,s.2.2.1,s.2.2.2.1,wrap .i64 (s.2.2.2.2.1+1),a02 s.2.2.2.2.2.1 y11,()))) none) (some (.inr (s.2.2.2.2.2.1,())))
def a3t(x:Z11):Option (LI×Int):=(x0w a3o (x,x,(x.length:Int),0,())).bind fun w4=>match w4 with |.inl a5=>((a1z ([wrap .u64 (a5.1.length:Int)]:List Int)).bind fun y7=>(x0w a2z (0,0,a5.1,(a5.1.length:Int),0,y7,())).bind fun w12=>(a1l w12.1).bind fun y13=>(a1S (wrap .u64 y13,4)).bind fun y14=>cond (lim ((a00 w12.1)+(a00 y14))) (some (a02 w12.1 y14,0)) none) |.inr b6=>some (b6.2.1,b6.1)
def a8o:FSem:=⟨[.v (.list false Q6)],[.o QV,.v QI],a3t⟩
def H21:Hints:=⟨[(26,[.sv 0 (.list false Q6),.sv 12 (.list false Q6),13,14],[Qe 0 [.sv 0 (.list false Q6)],Qr [3,.own 2 2 QV]]),(250,[7,8,.sv 40 (.list false Q6),41,42,.own 6 6 QV],[Qe 2 [.own 6 6 QV]])],[(1689,[Qn [.sv 0 (.list false Q6),.sv 12 (.list false Q6),13,14,.sv 33 .bool]])],[(13,[.q,.q,.q,.v,.q,.q,.v,.v,.v,.v,.v,.v,.v,.q,.q,.x,.x])]⟩
def a1A(x:LI):Option Z10:=cond (lim (a00 x)) (some (x,0,0,())) none
def a9y:FSem:=⟨[.v QB],[.b Q9],a1A⟩
def a1B(x:Z10):Option Z18:=some (wrap .i64 ((x.1.length:Int)-x.2.1),x)
def a6o:FSem:=⟨[.r false (.b Q9)],[.v QI],a1B⟩
def H53:Hints:=⟨[],[],[(1,[.p,.p,.q,.q,.v,.p,.p,.q,.q,.x,.x])]⟩
def a2c(x:(Z10×Int)):Option (LI×Z10):=cond (x.1.2.2.1 != 0) (some ([],x.1)) ((a1B x.1).bind fun y1=>cond (decide ((x0s x.2 0) > y1.1)) (some ([],y1.2.1,y1.2.2.1,3,y1.2.2.2.2)) (cond ((decide (0≤(wrap .i64 (y1.2.2.1+(x0s x.2 0)))))&&(decide ((wrap .i64 (y1.2.2.1+(x0s x.2 0)))≤(y1.2.1.length:Int)))) (cond ((decide (0≤y1.2.2.1))&&(decide (y1.2.2.1≤((a01 (wrap .i64 (y1.2.2.1+(x0s x.2 0))):Nat):Int)))) (cond (lim (a00 (a05 (a01 y1.2.2.1) (a03 (a01 (wrap .i64 (y1.2.2.1+(x0s x.2 0)))) y1.2.1)))) (some (a05 (a01 y1.2.2.1) (a03 (a01 (wrap .i64 (y1.2.2.1+(x0s x.2 0)))) y1.2.1),y1.2.1,wrap .i64 (y1.2.2.1+(x0s x.2 0)),y1.2.2.2)) none) none) none))
def a6p:FSem:=⟨[.r false (.b Q9),.v QI],[.o QV],a2c⟩
def H49:Hints:=⟨[],[],[(7,[.p,.p,.q,.q,.p,.p,.q,.q,.p,.p,.q,.q,.v,.v,.x,.x,.x])]⟩
def a2j(s:(Int×(Int×(Int×(LI×Z20))))):Option ((Int×(Int×(Int×(LI×Z20)))) ⊕ (Int×Z20)):=cond (decide (s.2.2.1<s.2.1)) (cond ((decide (0≤s.2.2.1))&&(decide (s.2.2.1<(s.2.2.2.1.length:Int)))) (some (.inl (wrap .u64 ((wrap .u64 (s.1*256))+(wrap .u64 (a04 s.2.2.2.1 (a01 s.2.2.1) 0))),s.2.1,wrap .i64 (s.2.2.1+1),s.2.2.2.1,s.2.2.2.2.1,()))) none) (some (.inr (s.1,s.2.2.2.2.1,())))
def a0I(x:(Z10×Int)):Option Z18:=(a2k x.2).bind fun y1=>(a2c (x.1,y1)).bind fun y2=>(x0w a2j (0,(y2.1.length:Int),0,y2.1,y2.2,())).bind fun w3=>some (w3.1,w3.2.1)
def a6u:FSem:=⟨[.r false (.b Q9),.v QI],[.v QU],a0I⟩
def H56:Hints:=⟨[(58,[.sv 5 QU,12,13,.own 11 1011 QV,.box pinned Q9],[Qe 0 [.sv 5 QU,.box pinned Q9]])],[],[]⟩
def a2u(x:LI):Option (Z28×Int):=cond (decide ((x.length:Int)<18)) (some ((0,0,0,false,false,[],()),3)) (cond (decide ((x.length:Int) > 65554)) (some ((0,0,0,false,false,[],()),4)) ((a1A x).bind fun y1=>(a0I (y1,1)).bind fun y2=>(a0I (y2.2,1)).bind fun y3=>(a0I (y3.2,8)).bind fun y4=>(a0I (y4.2,8)).bind fun y5=>(show Option (LI×(Int×Int×Int×Int×Bool×Z28×Unit))from cond (decide (y2.1≥4)) (some (x,y2.1,y3.1,y4.1,y5.1,true,(0,0,0,false,false,[],()),())) (cond (decide (y3.1 > 3)) (some (x,y2.1,y3.1,y4.1,y5.1,true,(0,0,0,false,false,[],()),())) (cond (decide (y4.1 > 1125899906842624)) (some (x,y2.1,y3.1,y4.1,y5.1,true,(0,0,0,false,false,[],()),())) (some (x,y2.1,y3.1,y4.1,y5.1,decide (y5.1 > 1125899906842624),(0,0,0,false,false,[],()),()))))).bind fun z6=>cond z6.2.2.2.2.2.1 (some ((0,0,0,false,false,[],()),2)) (cond (decide (18≤(z6.1.length:Int))) ((a2l (a05 18 (a03 (a00 z6.1) z6.1))).bind fun y7=>some ((wrap .i64 z6.2.1,wrap .i64 z6.2.2.2.1,wrap .i64 z6.2.2.2.2.1,(bits .u64 .and z6.2.2.1 1) != 0,(bits .u64 .and z6.2.2.1 2) != 0,y7,()),0)) none)))
def a9z:FSem:=⟨[.v QB],[.v Q16,.v QI],a2u⟩
def H73:Hints:=⟨[],[(126,[Qn [.sv 0 QB,.sv 5 QU,.sv 6 QU,.sv 7 QU,.sv 8 QU,.sv 40 .bool,.box 2 Q16,Qp 2 2]])],[]⟩
def a4m(s:(Z29×Int×Z25)):Option ((Z29×Int×Z25) ⊕ Z19):=cond (decide (s.2.2.1<s.2.1)) ((n0o s.1 s.2.2.1).bind fun x1=>cond (!x1.2.1) (some (.inl (s.1,s.2.1,wrap .i64 (s.2.2.1+1),s.2.2.2.1,()))) (cond x1.2.2.2.1 (some (.inl (s.1,s.2.1,wrap .i64 (s.2.2.1+1),s.2.2.2.1,()))) (cond (decide ((x1.2.2.2.2.1.length:Int)<18)) (some (.inl (s.1,s.2.1,wrap .i64 (s.2.2.1+1),s.2.2.2.1,()))) ((a2y x1).bind fun y2=>cond (y2.2 != 0) (some (.inl (s.1,s.2.1,wrap .i64 (s.2.2.1+1),s.2.2.2.1,()))) (cond (decide (18≤(x1.2.2.2.2.1.length:Int))) ((a2u (a03 18 x1.2.2.2.2.1)).bind fun y3=>cond (y3.2 != 0) (some (.inl (s.1,s.2.1,wrap .i64 (s.2.2.1+1),s.2.2.2.1,()))) (cond (!y3.1.2.2.2.1) (some (.inl (s.1,s.2.1,wrap .i64 (s.2.2.1+1),s.2.2.2.1,()))) (cond (lim ((a00 s.2.2.2.1)+1)) (some (.inl (s.1,s.2.1,wrap .i64 (s.2.2.1+1),a02 s.2.2.2.1 ([(y3.1.1,y3.1.2.1,x1.1,())]:List Z5),()))) none))) none))))) (some (.inr (s.2.2.2.1,())))
def a5h(x:Z29):Option Z11:=(x0w a4m (x,(x.length:Int),0,[],())).bind fun w4=>some w4.1
def b0J:FSem:=⟨[.v (.list false Q14)],[.o Q6],a5h⟩
def H22:Hints:=⟨[(58,[.sv 10 (.list false Q14),11,12,.own 3 3 Q6],[Qe 0 [.own 3 3 Q6]])],[],[]⟩
def a3p(s:(Int×Int×Z7)):Option ((Int×Int×Z7) ⊕ (LI×Unit)):=cond (decide (s.2.1<s.1)) (cond ((decide (0≤s.2.1))&&(decide (s.2.1<(s.2.2.2.1.length:Int)))) (cond (lim ((a00 s.2.2.1)+2)) (some (.inl (s.1,wrap .i64 (s.2.1+1),a02 s.2.2.1 [wrap .u8 (96+(D0o .u8 (a04 s.2.2.2.1 (a01 s.2.1) 0) 4)),wrap .u8 (96+(bits .u8 .and (a04 s.2.2.2.1 (a01 s.2.1) 0) 15))],s.2.2.2.1,()))) none) none) (some (.inr (s.2.2.1,())))
def a3u(x:Z29):Option (LI×Int):=(a5h x).bind fun y1=>(a3t y1).bind fun y2=>cond (y2.2 != 0) (some ([],y2.2)) ((x0w a3p ((y2.1.length:Int),0,[],y2.1,())).bind fun w3=>(a1S (wrap .u64 (w3.1.length:Int),4)).bind fun y4=>cond (lim ((a00 w3.1)+(a00 y4))) (cond (lim ((a00 (a02 w3.1 y4))+4)) (some (a02 (a02 w3.1 y4) [75,69,78,68],0)) none) none)
def a8p:FSem:=⟨[.v (.list false Q14)],[.o QV,.v QI],a3u⟩
def H40:Hints:=⟨[(250,[19,20,.own 6 6 QV,.own 18 4 QV],[Qe 0 [.own 6 6 QV]])],[],[]⟩
def a2A(s:(Z59×Z9)):Option ((Z59×Z9) ⊕ (LI×Unit)):=cond (decide (s.2.2.1<s.2.1)) ((n0o s.1 s.2.2.1).bind fun x2=>(a1z [wrap .u64 x2.1,wrap .u64 x2.2.1.1,wrap .u64 x2.2.1.2.1]).bind fun y3=>cond (lim ((a00 s.2.2.2.1)+(a00 y3))) (cond (x2.1==1) ((a1z [wrap .u64 x2.2.2.1.1,wrap .u64 x2.2.2.1.2.1,wrap .u64 x2.2.2.1.2.2.1]).bind fun y4=>cond (lim ((a00 (a02 s.2.2.2.1 y3))+(a00 y4))) (some (.inl (s.1,s.2.1,wrap .i64 (s.2.2.1+1),a02 (a02 s.2.2.2.1 y3) y4,()))) none) ((a1z [wrap .u64 x2.2.2.2.1,wrap .u64 x2.2.2.2.2.1,wrap .u64 x2.2.2.2.2.2.1,wrap .u64 x2.2.2.2.2.2.2.1]).bind fun y5=>cond (lim ((a00 (a02 s.2.2.2.1 y3))+(a00 y5))) (some (.inl (s.1,s.2.1,wrap .i64 (s.2.2.1+1),a02 (a02 s.2.2.2.1 y3) y5,()))) none)) none) (some (.inr (s.2.2.2.1,())))
def a2H(x:Z59):Option LI:=(a1z ([wrap .u64 (x.length:Int)]:List Int)).bind fun y1=>cond (lim (6+(a00 y1))) ((x0w a2A (x,(x.length:Int),0,a02 [75,73,78,79,82,65] y1,())).bind fun w6=>(a1l w6.1).bind fun y7=>(a1S (wrap .u64 y7,4)).bind fun y8=>cond (lim ((a00 w6.1)+(a00 y8))) (some (a02 w6.1 y8)) none) none
def a8q:FSem:=⟨[.v (.list false Q19)],[.o QV],a2H⟩
def H41:Hints:=⟨[(58,[.sv 15 (.list false Q19),16,17,.own 3 3 QV],[Qe 0 [.own 3 3 QV]])],[],[]⟩
def a2O(s:(Z59×Z40×Z59×Int×Int×Unit)):Option ((Z59×Z40×Z59×Int×Int×Unit) ⊕ ((Z59×Z40×Unit) ⊕ Z2)):=cond (decide (s.2.2.2.2.1<s.2.2.2.1)) ((n0o s.2.2.1 s.2.2.2.2.1).bind fun x2=>(a3T x2).bind fun y3=>cond (!y3) (some (.inr (Sum.inr ((1,[],()))))) (some (.inl (s.1,s.2.1,s.2.2.1,s.2.2.2.1,wrap .i64 (s.2.2.2.2.1+1),())))) (some (.inr (Sum.inl (s.1,s.2.1,()))))
def a2h(x:(Z59×Z40)):Option (LI×Int):=(show Option (Z59×Z40×Bool×Unit)from cond (decide ((x.1.length:Int)<1)) (some (x.1,x.2,true,())) (cond (decide ((x.1.length:Int) > 4)) (some (x.1,x.2,true,())) (some (x.1,x.2,(x.2.length:Int) != (x.1.length:Int),())))).bind fun z1=>cond z1.2.2.1 (some ([],1)) ((x0w a2O (z1.1,z1.2.1,z1.1,(z1.1.length:Int),0,())).bind fun w4=>match w4 with |.inl a5=>((a2T a5.2.1).bind fun y7=>cond (y7.2 != 0) (some ([],y7.2)) ((a3b (y7.1,0)).bind fun y8=>cond (y8.2 != 0) (some ([],y8.2)) ((a3d y8.1).bind fun y9=>cond (y9.2 != 0) (some ([],y9.2)) ((a3e y9.1).bind fun y10=>cond (y10.2 != 0) (some ([],y10.2)) ((a3u y9.1).bind fun y11=>cond (y11.2 != 0) (some ([],y11.2)) ((a2H a5.1).bind fun y12=>cond (lim ((a00 y12)+(a00 y10.1))) (cond (lim ((a00 (a02 y12 y10.1))+(a00 y11.1))) (some (a02 (a02 y12 y10.1) y11.1,0)) none) none)))))) |.inr b6=>some (b6.2.1,b6.1))
def a8B:FSem:=⟨[.v (.list false Q19),.v (.list false (.list false Q16))],[.o QV,.v QI],a2h⟩
def H10:Hints:=⟨[(58,[.sv 0 (.list false Q19),.sv 1 (.list false (.list false Q16)),.sv 28 (.list false Q19),29,30],[Qe 0 [.sv 0 (.list false Q19),.sv 1 (.list false (.list false Q16))],Qr [5,.own 4 4 QV]])],[(6,[Qn [.sv 0 (.list false Q19),.sv 1 (.list false (.list false Q16)),.sv 27 .bool]])],[]⟩
def a2W(s:Z18):Option (Z18 ⊕ (Unit ⊕ Z5)):=(fun(a:Int)(b:LI)(c d:Int)=>cond (decide (d<c)) ((n0o b d).bind fun x1=>(show Option (Int×(Int×(Int×(LI×Z6))))from cond (d==9) (cond (decide (x1 > 1)) (some (a,d,x1,b,c,d,true,())) (cond (decide (d > 0)) (some (a,d,x1,b,c,d,x1==0,())) (some (a,d,x1,b,c,d,false,())))) (cond (decide (d > 0)) (some (a,d,x1,b,c,d,x1==0,())) (some (a,d,x1,b,c,d,false,())))).bind fun z2=>cond z2.2.2.2.2.2.2.1 (some (.inr (Sum.inr ((0,0,2,()))))) (cond (decide ((wrap .i64 (7*z2.2.1))<0)) none (cond (decide (z2.2.2.1<128)) (some (.inr (Sum.inr ((bits .u64 .or z2.1 (D0n .u64 (wrap .u64 (a07 z2.2.2.1 128)) (wrap .i64 (7*z2.2.1))),wrap .i64 (z2.2.1+1),0,()))))) (some (.inl (bits .u64 .or z2.1 (D0n .u64 (wrap .u64 (a07 z2.2.2.1 128)) (wrap .i64 (7*z2.2.1))),z2.2.2.2.1,z2.2.2.2.2.1,wrap .i64 (z2.2.2.2.2.2.1+1),())))))) (some (.inr (Sum.inl ())))) s.1 s.2.1 s.2.2.1 s.2.2.2.1
def a3W(x:LI):Option (Int×Int×Int):=(x0w a2W (0,x,(x.length:Int),0,())).bind fun w3=>match w3 with |.inl a4=>some (0,0,3) |.inr b5=>some (b5.1,b5.2.1,b5.2.2.1)
def a7E:FSem:=⟨[.v QB],[.v QU,.v QI,.v QI],a3W⟩
def H92:Hints:=⟨[(58,[.sv 5 QU,.sv 8 QB,9,10],[Qe 0 [],Qr [.sv 2 QU,3,4]])],[(7474,[Qn [.sv 5 QU,6,.sv 7 QV,.sv 8 QB,9,10,.sv 28 .bool]])],[]⟩
def a0D(x:(Z10×Int)):Option Z18:=cond (x.1.2.2.1 != 0) (some (0,x.1)) (cond ((decide (0≤x.1.2.1))&&(decide (x.1.2.1≤(x.1.1.length:Int)))) ((a3W (a05 (a01 x.1.2.1) (a03 (a00 x.1.1) x.1.1))).bind fun y1=>(show Option (Int×Int×Int×Z20)from cond (y1.2.2==0) (cond (decide (y1.1 > x.2)) (some (y1.1,y1.2.1,4,x.1,())) (some (y1.1,y1.2.1,y1.2.2,x.1,()))) (some (y1.1,y1.2.1,y1.2.2,x.1,()))).bind fun z2=>cond (z2.2.2.1 != 0) (some (0,z2.2.2.2.1.1,z2.2.2.2.1.2.1,z2.2.2.1,z2.2.2.2.1.2.2.2)) (some (z2.1,z2.2.2.2.1.1,wrap .i64 (z2.2.2.2.1.2.1+z2.2.1),z2.2.2.2.1.2.2))) none)
def a6v:FSem:=⟨[.r false (.b Q9),.v QU],[.v QU],a0D⟩
def H50:Hints:=⟨[],[(15,[Qn [.sv 5 QU,6,7,.box pinned Q9,Qp 0 pinned]])],[(3,[.p,.p,.q,.q,.p,.p,.q,.q,.x,.x,.x,.v,.v,.v,.v,.v,.x])]⟩
def a4d(x:Z10):Option (Z55×Z10):=(a0D (x,2)).bind fun y1=>(a0D (y1.2,1048576)).bind fun y2=>(a0D (y2.2,1048576)).bind fun y3=>cond ((wrap .i64 y1.1)==1) ((a0D (y3.2,1048576)).bind fun y4=>(a0D (y4.2,8)).bind fun y5=>(a0D (y5.2,24)).bind fun y6=>some ((wrap .i64 y1.1,(wrap .i64 y2.1,wrap .i64 y3.1,()),(wrap .i64 y4.1,wrap .i64 y5.1,wrap .i64 y6.1,()),0,0,0,0,()),y6.2)) ((a0D (y3.2,64)).bind fun y7=>(a0D (y7.2,64)).bind fun y8=>(a0D (y8.2,16)).bind fun y9=>(a0D (y9.2,4)).bind fun y10=>some ((wrap .i64 y1.1,(wrap .i64 y2.1,wrap .i64 y3.1,()),(0,0,0,()),wrap .i64 y7.1,wrap .i64 y8.1,wrap .i64 y9.1,wrap .i64 y10.1,()),y10.2))
def a9A:FSem:=⟨[.r false (.b Q9)],[.v Q19],a4d⟩
def a1G(x:Z10):Option Z18:=some (x.2.2.1,x)
def a6w:FSem:=⟨[.r false (.b Q9)],[.v QI],a1G⟩
def a2X(x:Z10):Option Z18:=some (x.2.1,x)
def a6M:FSem:=⟨[.r false (.b Q9)],[.v QI],a2X⟩
def a3f(s:(LI×Z71)):Option ((LI×Z71) ⊕ (LI×Z69)):=cond (decide (s.2.1 > 0)) ((a4d s.2.2.2.1).bind fun y4=>cond (lim ((a00 s.2.2.1)+1)) (some (.inl (s.1,wrap .u64 (s.2.1-1),a02 s.2.2.1 ([y4.1]:List Z55),y4.2,()))) none) (some (.inr (s.1,s.2.2.1,s.2.2.2.1,())))
def a3g(s:(LI×(Int×Z71))):Option ((LI×(Int×Z71)) ⊕ ((LI×Z69) ⊕ (Int×Int×Z59×Unit))):=cond (decide (s.2.2.1<s.2.1)) (cond ((decide (0≤s.2.2.1))&&(decide (s.2.2.1<(s.2.2.2.1.length:Int)))) ((a3T (a04 s.2.2.2.1 (a01 s.2.2.1) (0,(0,0,()),(0,0,0,()),0,0,0,0,()))).bind fun y7=>cond (!y7) (some (.inr (Sum.inr ((0,2,[],()))))) (some (.inl (s.1,s.2.1,wrap .i64 (s.2.2.1+1),s.2.2.2.1,s.2.2.2.2.1,())))) none) (some (.inr (Sum.inl (s.1,s.2.2.2.1,s.2.2.2.2.1,()))))
def a2U(x:LI):Option (Z59×Int×Int):=cond (decide ((x.length:Int)<6)) (some ([],0,3)) (cond (decide (6≤(x.length:Int))) (cond ((b2s (a03 6 x)) != [75,73,78,79,82,65]) (some ([],0,2)) ((a1A x).bind fun y1=>(a2c (y1,6)).bind fun y2=>(a0D (y2.2,4)).bind fun y3=>(x0w a3f (x,y3.1,[],y3.2,())).bind fun w5=>(a1G w5.2.2.1).bind fun y6=>cond (y6.1 != 0) (some ([],0,y6.1)) (cond ((w5.2.1.length:Int)==0) (some ([],0,2)) ((x0w a3g (w5.1,(w5.2.1.length:Int),0,w5.2.1,y6.2,())).bind fun w8=>match w8 with |.inl a9=>((a1B a9.2.2.1).bind fun y11=>cond (decide (y11.1<4)) (some ([],0,3)) ((a2X y11.2).bind fun y12=>cond ((decide (0≤y12.1))&&(decide (y12.1≤(a9.1.length:Int)))) ((a1l (a03 (a01 y12.1) a9.1)).bind fun y13=>(a0I (y12.2,4)).bind fun y14=>cond (y14.1 != (wrap .u64 y13)) (some ([],0,5)) ((a2X y14.2).bind fun y15=>some (a9.2.1,y15.1,0))) none)) |.inr b10=>some (b10.2.2.1,b10.1,b10.2.1))))) none)
def a9B:FSem:=⟨[.v QB],[.o Q19,.v QI,.v QI],a2U⟩
def H16:Hints:=⟨[(1018,[.sv 0 QB,.sv 7 QU,.own 6 6 Q19,.box 1020 Q9,Qp 5 1020],[Qe 0 [.sv 0 QB,.own 6 6 Q19,.box 1020 Q9,Qp 5 1020]]),(8186,[.sv 0 QB,43,44,.own 6 6 Q19,.box 1020 Q9,Qp 5 1020,.ref 42 6 []],[Qe 2 [.sv 0 QB,.own 6 6 Q19,.box 1020 Q9,Qp 5 1020],Qr [3,4,.own 2 2 Q19]])],[],[]⟩
def a3v(x:(LI×Int)):Option (Z27×Int×Int):=(show Option (LI×(Int×Z39))from cond (decide (x.2<0)) (some (x.1,x.2,true,(0,false,false,false,[],()),())) (some (x.1,x.2,decide (x.2 > (x.1.length:Int)),(0,false,false,false,[],()),()))).bind fun z1=>cond z1.2.2.1 (some ((0,false,false,false,[],()),0,6)) (cond ((decide (0≤z1.2.1))&&(decide (z1.2.1≤(z1.1.length:Int)))) (cond (decide ((a00 (a05 (a01 z1.2.1) (a03 (a00 z1.1) z1.1)):Int)<2)) (some ((0,false,false,false,[],()),0,3)) ((show Option (LI×Z39)from(n0o (a05 (a01 z1.2.1) (a03 (a00 z1.1) z1.1)) 0).bind fun x2=>cond (x2 != 75) (some (a05 (a01 z1.2.1) (a03 (a00 z1.1) z1.1),true,z1.2.2.2.1,())) ((n0o (a05 (a01 z1.2.1) (a03 (a00 z1.1) z1.1)) 1).bind fun x3=>some (a05 (a01 z1.2.1) (a03 (a00 z1.1) z1.1),x3 != 80,z1.2.2.2.1,()))).bind fun z4=>cond z4.2.1 (some ((0,false,false,false,[],()),0,2)) (cond (decide ((z4.1.length:Int)<8)) (some ((0,false,false,false,[],()),0,3)) (cond (decide (8≤(z4.1.length:Int))) ((a1A (a05 2 (a03 8 z4.1))).bind fun y5=>(a0I (y5,1)).bind fun y6=>(a0I (y6.2,4)).bind fun y7=>(a0I (y7.2,1)).bind fun y8=>(show Option (LI×(Int×Int×Int×Bool×Z39))from cond (decide (y6.1 > 7)) (some (z4.1,y6.1,y7.1,wrap .i64 y8.1,(bits .u64 .and y6.1 4) != 0,true,z4.2.2.1,())) (cond (decide (y7.1 > 2147483647)) (some (z4.1,y6.1,y7.1,wrap .i64 y8.1,(bits .u64 .and y6.1 4) != 0,true,z4.2.2.1,())) (cond (decide ((wrap .i64 y8.1)<1)) (some (z4.1,y6.1,y7.1,wrap .i64 y8.1,(bits .u64 .and y6.1 4) != 0,true,z4.2.2.1,())) ((a1U ((bits .u64 .and y6.1 4) != 0)).bind fun y9=>some (z4.1,y6.1,y7.1,wrap .i64 y8.1,(bits .u64 .and y6.1 4) != 0,decide ((wrap .i64 y8.1) > y9),z4.2.2.1,()))))).bind fun z10=>cond z10.2.2.2.2.2.1 (some ((0,false,false,false,[],()),0,2)) (cond (decide ((z10.1.length:Int)<(wrap .i64 ((wrap .i64 (8+z10.2.2.2.1))+4)))) (some ((0,false,false,false,[],()),0,3)) (cond ((decide (0≤(wrap .i64 ((wrap .i64 (8+z10.2.2.2.1))+4))))&&(decide ((wrap .i64 ((wrap .i64 (8+z10.2.2.2.1))+4))≤(z10.1.length:Int)))) (cond ((decide (0≤(wrap .i64 (8+z10.2.2.2.1))))&&(decide ((wrap .i64 (8+z10.2.2.2.1))≤((a01 (wrap .i64 ((wrap .i64 (8+z10.2.2.2.1))+4)):Nat):Int)))) ((a1A (a05 (a01 (wrap .i64 (8+z10.2.2.2.1))) (a03 (a01 (wrap .i64 ((wrap .i64 (8+z10.2.2.2.1))+4))) z10.1))).bind fun y11=>(a0I (y11,4)).bind fun y12=>cond ((decide (0≤(wrap .i64 (8+z10.2.2.2.1))))&&(decide ((wrap .i64 (8+z10.2.2.2.1))≤(z10.1.length:Int)))) ((a1l (a03 (a01 (wrap .i64 (8+z10.2.2.2.1))) z10.1)).bind fun y13=>cond (y12.1 != (wrap .u64 y13)) (some ((0,false,false,false,[],()),0,5)) (cond ((decide (0≤(wrap .i64 (8+z10.2.2.2.1))))&&(decide ((wrap .i64 (8+z10.2.2.2.1))≤(z10.1.length:Int)))) (cond (decide (8≤((a01 (wrap .i64 (8+z10.2.2.2.1)):Nat):Int))) ((a2l (a05 8 (a03 (a01 (wrap .i64 (8+z10.2.2.2.1))) z10.1))).bind fun y14=>some ((wrap .i64 z10.2.2.1,(bits .u64 .and z10.2.1 1) != 0,(bits .u64 .and z10.2.1 2) != 0,z10.2.2.2.2.1,y14,()),wrap .i64 ((wrap .i64 (8+z10.2.2.2.1))+4),0)) none) none)) none) none) none))) none)))) none)
def a9C:FSem:=⟨[.v QB,.v QI],[.v Q14,.v QI,.v QI],a3v⟩
def b4o:Hints:=⟨[],[(6,[Qn [.sv 0 QB,1,.sv 20 .bool,.box 4 Q14,Qp 4 4]]),(62,[Qn [.sv 0 QB,.sv 38 .bool,.box 4 Q14,Qp 4 4]]),(2046,[Qn [.sv 0 QB,.sv 8 QU,.sv 9 QU,10,.sv 11 .bool,.sv 72 .bool,.box 4 Q14,Qp 4 4]])],[(18,[.v,.v,.v,.v,.v,.q,.w [88,1087,1088],.v,.v,.v,.x,.x,.x])]⟩
def a1P(s:(LI×Z47)):Option ((LI×Z47) ⊕ Z43):=cond (decide (s.2.2.1<(s.1.length:Int))) ((a3v (s.1,s.2.2.1)).bind fun y1=>cond (y1.2.2 != 0) (some (.inl (s.1,wrap .i64 (s.2.1+1),wrap .i64 (s.2.2.1+1),s.2.2.2.1,()))) (cond (lim ((a00 s.2.2.2.1)+1)) (some (.inl (s.1,s.2.1,wrap .i64 (s.2.2.1+y1.2.1),a02 s.2.2.2.1 ([y1.1]:List Z27),()))) none)) (some (.inr (s.2.1,s.2.2.2.1,())))
def a4V(x:LI):Option Z34:=(x0w a1P (x,0,0,[],())).bind fun w2=>some (w2.2.1,w2.1)
def a9D:FSem:=⟨[.v QB],[.o Q14,.v QI],a4V⟩
def H89:Hints:=⟨[(122,[.sv 0 QB,5,6,.own 4 4 Q14],[Qe 0 [5,.own 4 4 Q14]])],[],[]⟩
def a3X(x:Z27):Option Bool:=cond x.2.2.2.1 (cond (decide ((x.2.2.2.2.1.length:Int) > 3)) ((n0o x.2.2.2.2.1 0).bind fun x1=>cond (decide (x1≥1)) ((n0o x.2.2.2.2.1 0).bind fun x2=>some (decide (x2≤8))) (some false)) (some false)) (some false)
def a3Y:FSem:=⟨[.v Q14],[.v .bool],a3X⟩
def a1w(mb:Int)(mL:List Z30)(s:(Int×Int×Int×Int×Z29×Z31)):Option ((Int×Int×Int×Int×Z29×Z31) ⊕ Z47):=(n0o s.2.2.2.2.2.1.2.2.2.2.1 0).bind fun x1=>cond (decide (s.2.2.2.1<(wrap .i64 (s.2.2.2.2.2.1.1+(wrap .i64 x1))))) (cond (s.1==mb) (cond (a17 (g0k s.2.2.2.1 mL)) (cond (lim ((a00 s.2.2.2.2.1)+1)) (some (.inl (s.1,s.2.1,s.2.2.1,wrap .i64 (s.2.2.2.1+1),a02 s.2.2.2.2.1 ([Option.getD (g0k s.2.2.2.1 mL) (0,false,false,false,[],())]:List Z27),s.2.2.2.2.2.1,()))) none) (some (.inl (s.1,wrap .i64 (s.2.1+1),s.2.2.2.1,wrap .i64 (s.2.2.2.1+1),s.2.2.2.2.1,s.2.2.2.2.2.1,())))) none) (some (.inr (s.2.1,s.2.2.1,s.2.2.2.2.1,())))
def a2e(mb:Int)(mL:List Z30)(x:(Z27×Int)):Option (Int×Z29×Bool):=(x0w (a1w mb mL) (x.2,0,0,x.1.1,[],x.1,())).bind fun w2=>some (w2.2.1,w2.2.2.1,w2.1==1)
def b4p:Hints:=⟨[(122,[.sv 1 (.hd),8,9,10,.own 7 7 Q14,.vp 2 Q14],[Qe 0 [8,9,.own 7 7 Q14]])],[],[(4,[.v,.v,.v,.v,.v,.v,.v,.v,.v,.x])]⟩
def b2F:Ty:=.pair QI Q10
def a2w(mb:Int)(mL:List Z30):FSem:=⟨[.v Q14,.v (.hd)],[.v QI,.o Q14,.v .bool],a2e mb mL⟩
def b2G(mb:Int)(mL:List Z30):Cx:=⟨b1W,b1V,T0,fun f=>find [] f,fun d=>find ([]:List (Nat×Ty)) d,fun i=>([0,1,4,5,6,7,8,9,10,12]:List Nat).contains i,fun i=>([2]:List Nat).contains i,{ G0 with m:=some ⟨b2F,mb,mL⟩ }⟩
theorem b3P(g:Int)(h:List Z30)(x):D0j (b2G g h) b4p Tryz.f116 (a2w g h).ps (a2w g h).rs x=(a2w g h).F x:=by kernel_rfl
def a6x(s:(Int×Z73)):Option ((Int×Z73) ⊕ (Int×Z52)):=(fun(a:Int)(b:Z29)(c d:Int)(e:LI)(f:Z27)=>cond (decide (d<c)) ((n0o b d).bind fun x3=>(a3K x3).bind fun y4=>(a3L (e,x3.2.2.2.2.1)).bind fun y5=>some (.inl (s.1,bits .u8 .xor s.2.1 y4,bits .u8 .xor a (wrap .u8 (x3.2.2.2.2.1.length:Int)),b,c,wrap .i64 (d+1),y5.1,f,()))) (some (.inr (s.1,s.2.1,a,e,f,())))) s.2.2.1 s.2.2.2.1 s.2.2.2.2.1 s.2.2.2.2.2.1 s.2.2.2.2.2.2.1 s.2.2.2.2.2.2.2.1
def a6y(s:(Int×(Int×(LI×(Int×(LI×(Int×Z38))))))):Option ((Int×(Int×(LI×(Int×(LI×(Int×Z38)))))) ⊕ ((Int×(Int×(LI×Z38))) ⊕ Z39)):=(fun(a:LI)(b:Int)(c:LI)(d e:Int)(f:Z27)=>cond (decide (e<d)) ((n0o c e).bind fun x8=>cond (x8 != 0) (some (.inr (Sum.inr ((false,(0,false,false,false,[],()),()))))) (some (.inl (s.1,s.2.1,a,b,c,d,wrap .i64 (e+1),f,())))) (some (.inr (Sum.inl (s.1,s.2.1,a,b,f,()))))) s.2.2.1 s.2.2.2.1 s.2.2.2.2.1 s.2.2.2.2.2.1 s.2.2.2.2.2.2.1 s.2.2.2.2.2.2.2.1
def a5D(x:(Z27×Z34)):Option (Z27×Bool):=(n0o x.1.2.2.2.2.1 1).bind fun x1=>(n0o x.1.2.2.2.2.1 2).bind fun x2=>cond (decide (3≤(x.1.2.2.2.2.1.length:Int))) (cond (lim (a00 (a05 3 (a03 (a00 x.1.2.2.2.2.1) x.1.2.2.2.2.1)))) ((x0w a6x (x.2.2,x1,x2,x.2.1,(x.2.1.length:Int),0,a05 3 (a03 (a00 x.1.2.2.2.2.1) x.1.2.2.2.2.1),(0,false,false,false,[],()),())).bind fun w6=>(show Option (Int×Int×Int×Bool×Z44)from cond (decide (w6.2.1 > 3)) (some (w6.1,w6.2.1,wrap .i64 w6.2.2.1,true,w6.2.2.2.1,w6.2.2.2.2.1,())) (cond (decide ((wrap .i64 w6.2.2.1)<1)) (some (w6.1,w6.2.1,wrap .i64 w6.2.2.1,true,w6.2.2.2.1,w6.2.2.2.2.1,())) (cond (decide ((wrap .i64 w6.2.2.1) > 252)) (some (w6.1,w6.2.1,wrap .i64 w6.2.2.1,true,w6.2.2.2.1,w6.2.2.2.2.1,())) (some (w6.1,w6.2.1,wrap .i64 w6.2.2.1,decide ((wrap .i64 w6.2.2.1) > (w6.2.2.2.1.length:Int)),w6.2.2.2.1,w6.2.2.2.2.1,()))))).bind fun z7=>cond z7.2.2.2.1 (some ((0,false,false,false,[],()),false)) (cond ((decide (0≤z7.2.2.1))&&(decide (z7.2.2.1≤(z7.2.2.2.2.1.length:Int)))) ((x0w a6y (z7.1,z7.2.1,z7.2.2.2.2.1,z7.2.2.1,a03 ((a00 z7.2.2.2.2.1)-(a01 z7.2.2.1)) (a05 (a01 z7.2.2.1) z7.2.2.2.2.1),(((a00 z7.2.2.2.2.1)-(a01 z7.2.2.1):Nat):Int),0,z7.2.2.2.2.2.1,())).bind fun w9=>match w9 with |.inl a10=>(cond ((decide (0≤a10.2.2.2.1))&&(decide (a10.2.2.2.1≤(a10.2.2.1.length:Int)))) (cond (lim (a00 (a03 (a01 a10.2.2.2.1) a10.2.2.1))) ((a2i (a10.1,(bits .u8 .and a10.2.1 1) != 0,(bits .u8 .and a10.2.1 2) != 0,false,a03 (a01 a10.2.2.2.1) a10.2.2.1,())).bind fun y12=>some ((a10.1,(bits .u8 .and a10.2.1 1) != 0,(bits .u8 .and a10.2.1 2) != 0,false,a03 (a01 a10.2.2.2.1) a10.2.2.1,()),y12)) none) none) |.inr b11=>some (b11.2.1,b11.1)) none)) none) none
def a3F:FSem:=⟨[.v Q14,.v (.list false Q14),.v QI],[.v Q14,.v .bool],a5D⟩
def b4q:Hints:=⟨[(122,[2,.sv 8 QV,.sv 9 QV,.sv 29 (.list false Q14),30,31,.own 10 10 QV,.box 6 Q14,Qp 6 6],[Qe 0 [2,.sv 8 QV,.sv 9 QV,.own 10 10 QV,.box 6 Q14,Qp 6 6]]),(1018,[2,.sv 8 QV,.sv 10 QB,13,.sv 71 QB,72,73,.box 6 Q14,Qp 6 6],[Qe 2 [2,.sv 8 QV,.sv 10 QB,13,.box 6 Q14,Qp 6 6],Qr [.sv 7 .bool,.box 6 Q14,Qp 6 6]])],[(126,[Qn [2,.sv 8 QV,13,.sv 67 .bool,.own 10 10 QV,.box 6 Q14,Qp 6 6]])],[(1,[.v,.v,.v,.v,.v,.v,.v,.v,.v,.x]),(20,[.q,.q,.v,.x,.x])]⟩
def a1m(x:Z36):Option Z29:=cond (decide (a00 x.1<4611686018427387904)&&a2I x.1) (some (a1F x.1)) none
def a1n:FSem:=⟨[.r false (.o Q14),.v (.fn 119)],[],a1m⟩
def a3G(s:(Int×Int×Z29×Int×Int×Z14)):Option ((Int×Int×Z29×Int×Int×Z14) ⊕ (Int×Int×Z14)):=cond (decide (s.2.2.2.2.1<s.2.2.2.1)) ((n0o s.2.2.1 s.2.2.2.2.1).bind fun x1=>(show Option (Int×Z29×Int×Int×Z3×Z31)from cond (decide (x1.1 > s.2.1)) (cond (lim ((a00 s.2.2.2.2.2.1)+1)) (some (s.1,s.2.2.1,s.2.2.2.1,s.2.2.2.2.1,a02 s.2.2.2.2.2.1 ([(s.2.1,wrap .i64 (x1.1-1),())]:List (Int×Int×Unit)),x1,())) none) (some (s.1,s.2.2.1,s.2.2.2.1,s.2.2.2.2.1,s.2.2.2.2.2.1,x1,()))).bind fun z2=>some (.inl (z2.1,wrap .i64 (z2.2.2.2.2.2.1.1+1),z2.2.1,z2.2.2.1,wrap .i64 (z2.2.2.2.1+1),z2.2.2.2.2.1,()))) (some (.inr (s.1,s.2.1,s.2.2.2.2.2.1,())))
def a4v(x:Z34):Option Z3:=(x0w a3G (x.2,0,x.1,(x.1.length:Int),0,[],())).bind fun w3=>(show Option Z14 from cond (decide (w3.1≥w3.2.1)) (cond (lim ((a00 w3.2.2.1)+1)) (some (a02 w3.2.2.1 ([(w3.2.1,w3.1,())]:List (Int×Int×Unit)),())) none) (some (w3.2.2.1,()))).bind fun z4=>some z4.1
def a4w:FSem:=⟨[.v (.list false Q14),.v QI],[.o Q2],a4v⟩
def b4r:Hints:=⟨[(122,[1,6,.sv 9 (.list false Q14),10,11,.own 5 5 Q2],[Qe 0 [1,6,.own 5 5 Q2]])],[(31,[Qn [.own 5 5 Q2]]),(7833,[Qn [1,.sv 9 (.list false Q14),10,11,.own 5 5 Q2,.box 8 Q14,Qp 8 8]])],[]⟩
def a1f(s:((Int×Int×Z29×Z68)×Z42)):Option (((Int×Int×Z29×Z68)×Z42) ⊕ (Z68×Z42)):=cond (decide (s.1.2.2.2.2.1<s.1.2.2.2.1)) ((n0o s.1.2.2.1 s.1.2.2.2.2.1).bind fun x2=>(a2i x2).bind fun y3=>cond (!y3) (some (.inl ((s.1.1,s.1.2.1,s.1.2.2.1,s.1.2.2.2.1,wrap .i64 (s.1.2.2.2.2.1+1),s.1.2.2.2.2.2.1,s.1.2.2.2.2.2.2.1,()),s.2.1,s.2.2))) (cond x2.2.2.2.1 ((a3X x2).bind fun y4=>cond y4 (cond (lim ((a00 s.1.2.2.2.2.2.1)+1)) ((n0o x2.2.2.2.2.1 0).bind fun x5=>some (.inl ((s.1.1,x0s s.1.2.1 (wrap .i64 ((wrap .i64 (x2.1+(wrap .i64 x5)))-1)),s.1.2.2.1,s.1.2.2.2.1,wrap .i64 (s.1.2.2.2.2.1+1),a02 s.1.2.2.2.2.2.1 ([x2]:List Z27),s.1.2.2.2.2.2.2.1,()),s.2.1,s.2.2))) none) (some (.inl ((s.1.1,s.1.2.1,s.1.2.2.1,s.1.2.2.2.1,wrap .i64 (s.1.2.2.2.2.1+1),s.1.2.2.2.2.2.1,s.1.2.2.2.2.2.2.1,()),s.2.1,s.2.2)))) (cond (s.1.1==s.2.1) (cond (a17 (g0k x2.1 s.2.2)) (some (.inl ((s.1.1,s.1.2.1,s.1.2.2.1,s.1.2.2.2.1,wrap .i64 (s.1.2.2.2.2.1+1),s.1.2.2.2.2.2.1,s.1.2.2.2.2.2.2.1,()),s.2.1,s.2.2))) (cond ((s.1.1==s.2.1)&&a19 (g0k x2.1 s.2.2)) ((a2F x2).bind fun y6=>cond (lim ((a00 s.1.2.2.2.2.2.2.1)+1)) (some (.inl ((s.1.1,x0s s.1.2.1 x2.1,s.1.2.2.1,s.1.2.2.2.1,wrap .i64 (s.1.2.2.2.2.1+1),s.1.2.2.2.2.2.1,a02 s.1.2.2.2.2.2.2.1 ([y6]:List Z27),()),s.2.1,s.2.2++[(x2.1,x2)]))) none) none)) none))) (some (.inr ((s.1.1,s.1.2.1,s.1.2.2.2.2.2.1,s.1.2.2.2.2.2.2.1,()),s.2.1,s.2.2)))
def a1g(s:((Int×Int×Z68)×Z42)):Option (((Int×Int×Z68)×Z42) ⊕ (Z43×Z42)):=cond (decide (s.1.2.2.2.1<s.1.2.2.1)) (cond ((decide (0≤s.1.2.2.2.1))&&(decide (s.1.2.2.2.1<(s.1.2.2.2.2.2.1.length:Int)))) ((a2e s.2.1 s.2.2 (a04 s.1.2.2.2.2.2.1 (a01 s.1.2.2.2.1) (0,false,false,false,[],()),s.1.1)).bind fun y8=>cond (!y8.2.2) (some (.inl ((s.1.1,s.1.2.1,s.1.2.2.1,wrap .i64 (s.1.2.2.2.1+1),s.1.2.2.2.2.1,s.1.2.2.2.2.2.1,()),s.2.1,s.2.2))) ((a5D (a04 s.1.2.2.2.2.2.1 (a01 s.1.2.2.2.1) (0,false,false,false,[],()),y8.2.1,y8.1)).bind fun y9=>cond y9.2 (cond ((s.1.1==s.2.1)&&a19 (g0k y8.1 s.2.2)) ((a2F y9.1).bind fun y10=>cond (lim ((a00 s.1.2.2.2.2.1)+1)) (some (.inl ((s.1.1,s.1.2.1,s.1.2.2.1,wrap .i64 (s.1.2.2.2.1+1),a02 s.1.2.2.2.2.1 ([y10]:List Z27),s.1.2.2.2.2.2.1,()),s.2.1,s.2.2++[(y8.1,y9.1)]))) none) none) (some (.inl ((s.1.1,s.1.2.1,s.1.2.2.1,wrap .i64 (s.1.2.2.2.1+1),s.1.2.2.2.2.1,s.1.2.2.2.2.2.1,()),s.2.1,s.2.2))))) none) (some (.inr ((s.1.2.1,s.1.2.2.2.2.1,()),s.2.1,s.2.2)))
def a2n(mb1:Int)(x:Z29):Option (Z29×Z3):=(x0w a1f ((mb1,(-1),x,(x.length:Int),0,[],[],()),mb1,([]:List Z30))).bind fun w7=>(x0w a1g ((w7.1.1,w7.1.2.1,(w7.1.2.2.1.length:Int),0,w7.1.2.2.2.1,w7.1.2.2.1,()),w7.2.1,w7.2.2)).bind fun w11=>(a1m (w11.1.2.1,())).bind fun y12=>(a4v (y12,w11.1.1)).bind fun y13=>some (y12,y13)
def a4e(x:Z29):Option (Z29×Z3):=a2n 0 x
def H90:Hints:=⟨[(250,[.sv 4 (.hd),7,.sv 20 (.list false Q14),21,22,.own 5 5 Q14,.own 6 6 Q14],[Qe 0 [.sv 4 (.hd),7,.own 5 5 Q14,.own 6 6 Q14]]),(506,[.sv 4 (.hd),7,71,72,.own 6 6 Q14,.own 70 5 Q14],[Qe 2 [7,.own 6 6 Q14]])],[],[(11,[.v,.q,.q,.q,.q,.v,.v,.v,.v,.v,.x,.x])]⟩
def b4s:Ty:=.pair QI Q10
def b3f:List PA:=[.v (.list false Q14)]
def b3g:List RA:=[.o Q14,.o Q2]
def b0K(μ:Mu b4s):Cx:=⟨b1W,b1V,T0,fun f=>(match μ with|some p=>find ((116,a2w p.1 p.2)::[(65,a3D),(66,a4l),(115,a3Y),(117,a3F),(118,a1n),(120,a4w)]) f|none=>find [(65,a3D),(66,a4l),(115,a3Y),(117,a3F),(118,a1n),(120,a4w)] f),fun d=>find ([]:List (Nat×Ty)) d,fun i=>([0,2,3,4,5,6,7,11,14,15,16,18]:List Nat).contains i,fun i=>([]:List Nat).contains i,G0.withM μ⟩
theorem b4t(x):C0a b0K H90 Tryz.f90 b3f b3g x=t0s fun b=>a2n b x:=by kernel_rfl
def a9E:FSem:=⟨b3f,b3g,a4e⟩
def a3h(x:LI):Option (Z29×Z3):=(a4V x).bind fun y1=>(a4e y1.1).bind fun y2=>some (y2.1,y2.2)
def a7F:FSem:=⟨[.v QB],[.o Q14,.o Q2],a3h⟩
def a5S(x:Int):Option Z21:=some (x0s x 0,false,[],0,())
def b0L:FSem:=⟨[.v QI],[.b Q13],a5S⟩
def a1J(x:Z21):Option Z21:=cond x.2.1 (some (x.1,false,[],wrap .i64 (x.2.2.2.1+1),x.2.2.2.2)) (some x)
def a6q:FSem:=⟨[.r false (.b Q13)],[],a1J⟩
def a1x(x:(Z21×Z27)):Option (Z32×Z3×Z21):=(a2y x.2).bind fun y1=>(show Option (Bool×Z21×Z31)from cond (y1.2 != 0) (some (true,x.1,x.2,())) (cond x.2.2.2.2.1 (some (true,x.1,x.2,())) (some (decide (x.2.1<x.1.1),x.1,x.2,())))).bind fun z2=>cond z2.1 (some ([],[],z2.2.1)) ((show Option (Z3×Z21×Z31)from cond (decide (z2.2.2.1.1 > z2.2.1.1)) ((a1J z2.2.1).bind fun y3=>some (([(z2.2.1.1,wrap .i64 (z2.2.2.1.1-1),())]:List (Int×Int×Unit)),y3,z2.2.2.1,())) (some ([],z2.2.1,z2.2.2.1,()))).bind fun z4=>(show Option (Z3×Z21×Z31)from cond z4.2.2.1.2.1 ((a1J (wrap .i64 (z4.2.2.1.1+1),z4.2.1.2)).bind fun y5=>some (z4.1,(y5.1,true,y5.2.2),z4.2.2.1,())) (some (z4.1,(wrap .i64 (z4.2.2.1.1+1),z4.2.1.2),z4.2.2.1,()))).bind fun z6=>cond (!z6.2.1.2.1) (some ([],z6.1,z6.2.1)) (cond (lim ((a00 z6.2.1.2.2.1)+(a00 z6.2.2.1.2.2.2.2.1))) (cond (decide ((a00 (a02 z6.2.1.2.2.1 z6.2.2.1.2.2.2.2.1):Int) > 65554)) ((a1J (z6.2.1.1,z6.2.1.2.1,a02 z6.2.1.2.2.1 z6.2.2.1.2.2.2.2.1,z6.2.1.2.2.2)).bind fun y7=>some ([],z6.1,y7)) (cond (!z6.2.2.1.2.2.1) (some ([],z6.1,z6.2.1.1,z6.2.1.2.1,a02 z6.2.1.2.2.1 z6.2.2.1.2.2.2.2.1,z6.2.1.2.2.2)) ((a2u (a02 z6.2.1.2.2.1 z6.2.2.1.2.2.2.2.1)).bind fun y8=>cond (y8.2 != 0) none ((show Option (Z3×Z28×Z21×Unit)from some (z6.1,y8.1,(z6.2.1.1,false,[],z6.2.1.2.2.2),())).bind fun z9=>some (([z9.2.1]:List Z28),z9.1,z9.2.2.1))))) none))
def a6N:FSem:=⟨[.r false (.b Q13),.v Q14],[.o Q16,.o Q2],a1x⟩
def H29:Hints:=⟨[],[(13,[Qn [.sv 30 .bool,.box pinned Q13,Qp 0 pinned,.vp 3 Q14]]),(15,[Qn [.own 8 8 Q2,.box pinned Q13,Qp 0 pinned,.vp 3 Q14]]),(63,[Qn [.own 8 8 Q2,.box pinned Q13,Qp 0 pinned,.vp 3 Q14]]),(8191,[Qn [.own 8 8 Q2,.box 9 Q16,.box pinned Q13,Qp 9 9]])],[(2,[.x,.x,.x,.x,.x,.x,.x,.v,.v,.p,.q,.q,.q,.x,.x]),(5,[.v,.v,.p,.p,.q,.q,.x]),(6,[.v,.p,.p,.q,.q,.v,.v,.v,.v,.q,.x,.x]),(14,[.p,.p,.p,.q,.q,.v,.v,.a [77,pinned],.x,.x,.x])]⟩
def a3q(s:(Z29×Int×Int×Z32×Z21×Unit)):Option ((Z29×Int×Int×Z32×Z21×Unit) ⊕ Z41):=cond (decide (s.2.2.1<s.2.1)) ((n0o s.1 s.2.2.1).bind fun x2=>(a1x (s.2.2.2.2.1,x2)).bind fun y3=>cond (lim ((a00 s.2.2.2.1)+(a00 y3.1))) (some (.inl (s.1,s.2.1,wrap .i64 (s.2.2.1+1),a02 s.2.2.2.1 y3.1,y3.2.2,()))) none) (some (.inr (s.2.2.2.1,())))
def a2o(x:(Int×Z29)):Option Z32:=(a5S x.1).bind fun y1=>(x0w a3q (x.2,(x.2.length:Int),0,[],y1,())).bind fun w4=>some w4.1
def a8r:FSem:=⟨[.v QI,.v (.list false Q14)],[.o Q16],a2o⟩
def H43:Hints:=⟨[(122,[.sv 13 (.list false Q14),14,15,.own 6 6 Q16,.box 1012 Q13,Qp 5 1012],[Qe 0 [.own 6 6 Q16]])],[],[]⟩
def a4f(x:LI):Option (Z32×Z3×Int):=(a2U x).bind fun y1=>cond (y1.2.2 != 0) (some ([],[],y1.2.2)) (cond ((decide (0≤y1.2.1))&&(decide (y1.2.1≤(x.length:Int)))) ((a3h (a05 (a01 y1.2.1) (a03 (a00 x) x))).bind fun y2=>(a2o (0,y2.1)).bind fun y3=>some (y3,y2.2,0)) none)
def a9F:FSem:=⟨[.v QB],[.o Q16,.o Q2,.v QI],a4f⟩
def a4g(x:Int):Option Int:=cond ((a07 x 2)==0) (some (wrap .i64 (wrap .u64 (a14 x 2)))) (some (wrap .i64 ((wrap .i64 (0-(wrap .i64 (wrap .u64 (a14 x 2)))))-1)))
def a9G:FSem:=⟨[.v QU],[.v QI],a4g⟩
def a3H(s:(Int×Int×Int×Z11×Z20)):Option ((Int×Int×Int×Z11×Z20) ⊕ ((Z11×Z20) ⊕ Z25)):=cond (decide (s.1 > 0)) ((a0D (s.2.2.2.2.1,3)).bind fun y7=>(a0D (y7.2,4611686018427387904)).bind fun y8=>(a4g y8.1).bind fun y9=>(a0D (y8.2,4611686018427387904)).bind fun y10=>(a4g y10.1).bind fun y11=>(a1G y10.2).bind fun y12=>cond (y12.1 != 0) (some (.inr (Sum.inr ((y12.1,[],()))))) ((a2d (wrap .i64 (s.2.1+y9),wrap .i64 (s.2.2.1+y11))).bind fun y13=>cond (!y13) (some (.inr (Sum.inr ((2,[],()))))) (cond (lim ((a00 s.2.2.2.1)+1)) (some (.inl (wrap .u64 (s.1-1),wrap .i64 (s.2.1+y9),wrap .i64 (s.2.2.1+y11),a02 s.2.2.2.1 ([(wrap .i64 y7.1,wrap .i64 (s.2.1+y9),wrap .i64 (s.2.2.1+y11),())]:List Z5),y12.2,()))) none))) (some (.inr (Sum.inl (s.2.2.2.1,s.2.2.2.2.1,()))))
def a4x(x:LI):Option (Z11×Int):=cond (decide ((x.length:Int)<4)) (some ([],3)) (cond ((decide (0≤(wrap .i64 ((x.length:Int)-4))))&&(decide ((wrap .i64 ((x.length:Int)-4))≤(x.length:Int)))) (cond ((decide (0≤((a00 (a03 (a01 (wrap .i64 ((x.length:Int)-4))) x):Nat):Int)))&&(decide (((a00 (a03 (a01 (wrap .i64 ((x.length:Int)-4))) x):Nat):Int)≤(x.length:Int)))) ((a1A (a05 (a01 ((a00 (a03 (a01 (wrap .i64 ((x.length:Int)-4))) x):Nat):Int)) (a03 (a00 x) x))).bind fun y1=>(a0I (y1,4)).bind fun y2=>(a1l (a03 (a01 (wrap .i64 ((x.length:Int)-4))) x)).bind fun y3=>cond (y2.1 != (wrap .u64 y3)) (some ([],5)) ((a1A (a03 (a01 (wrap .i64 ((x.length:Int)-4))) x)).bind fun y4=>(a0D (y4,wrap .u64 ((a00 (a03 (a01 (wrap .i64 ((x.length:Int)-4))) x):Nat):Int))).bind fun y5=>(a1G y5.2).bind fun y6=>cond (y6.1 != 0) (some ([],y6.1)) ((x0w a3H (y5.1,0,0,[],y6.2,())).bind fun w14=>match w14 with |.inl a15=>((a1B a15.2.1).bind fun y17=>cond (decide (y17.1 > 0)) (some ([],2)) (some (a15.1,0))) |.inr b16=>some (b16.2.1,b16.1)))) none) none)
def a8C:FSem:=⟨[.v QB],[.o Q6,.v QI],a4x⟩
def H91:Hints:=⟨[(4092,[.sv 6 QU,9,10,.own 8 8 Q6,.box 1032 Q9,Qp 5 1032],[Qe 0 [.own 8 8 Q6,.box 1032 Q9,Qp 5 1032],Qr [3,.own 2 2 Q6]])],[],[]⟩
def a2P(s:(LI×Z10)):Option ((LI×Z10) ⊕ ((LI×Unit) ⊕ Z25)):=cond (decide (s.2.2.2.1<s.2.2.1)) ((n0o s.2.1 s.2.2.2.1).bind fun x4=>(show Option (LI×(LI×Z6))from cond (decide (x4<96)) (some (s.1,s.2.1,s.2.2.1,s.2.2.2.1,true,())) (some (s.1,s.2.1,s.2.2.1,s.2.2.2.1,decide (x4 > 111),()))).bind fun z5=>cond z5.2.2.2.2.1 (some (.inr (Sum.inr ((2,[],()))))) (some (.inl (z5.1,z5.2.1,z5.2.2.1,wrap .i64 (z5.2.2.2.1+1),())))) (some (.inr (Sum.inl (s.1,()))))
def a2Q(s:(LI×Z2)):Option ((LI×Z2) ⊕ (LI×Unit)):=cond (decide (s.2.1<(s.1.length:Int))) ((n0o s.1 s.2.1).bind fun x9=>(n0o s.1 (wrap .i64 (s.2.1+1))).bind fun x10=>cond (lim ((a00 s.2.2.1)+1)) (some (.inl (s.1,wrap .i64 (s.2.1+2),a02 s.2.2.1 [bits .u8 .or (D0n .u8 (wrap .u8 (x9-96)) 4) (wrap .u8 (x10-96))],()))) none) (some (.inr (s.2.2.1,())))
def a4y(x:LI):Option (Z11×Int):=cond (decide ((wrap .i64 ((wrap .i64 ((x.length:Int)-4))-4))<0)) (some ([],3)) (cond ((decide (0≤(wrap .i64 ((wrap .i64 ((wrap .i64 ((x.length:Int)-4))-4))+4))))&&(decide ((wrap .i64 ((wrap .i64 ((wrap .i64 ((x.length:Int)-4))-4))+4))≤(x.length:Int)))) (cond ((b2s (a05 (a01 (wrap .i64 ((wrap .i64 ((wrap .i64 ((x.length:Int)-4))-4))+4))) (a03 (a00 x) x))) != [75,69,78,68]) (some ([],2)) (cond ((decide (0≤(wrap .i64 ((wrap .i64 ((x.length:Int)-4))-4))))&&(decide ((wrap .i64 ((wrap .i64 ((x.length:Int)-4))-4))≤(x.length:Int)))) ((a1A (a05 (a01 (wrap .i64 ((wrap .i64 ((x.length:Int)-4))-4))) (a03 (a00 x) x))).bind fun y1=>(a0I (y1,4)).bind fun y2=>(show Option (LI×Z6)from cond ((a07 y2.1 2) != 0) (some (x,wrap .i64 ((wrap .i64 ((x.length:Int)-4))-4),y2.1,true,())) (some (x,wrap .i64 ((wrap .i64 ((x.length:Int)-4))-4),y2.1,decide (y2.1 > (wrap .u64 (wrap .i64 ((wrap .i64 ((x.length:Int)-4))-4)))),()))).bind fun z3=>cond z3.2.2.2.1 (some ([],2)) (cond ((decide (0≤z3.2.1))&&(decide (z3.2.1≤(z3.1.length:Int)))) (cond ((decide (0≤(wrap .i64 (z3.2.1-(wrap .i64 z3.2.2.1)))))&&(decide ((wrap .i64 (z3.2.1-(wrap .i64 z3.2.2.1)))≤((a01 z3.2.1:Nat):Int)))) ((x0w a2P (a05 (a01 (wrap .i64 (z3.2.1-(wrap .i64 z3.2.2.1)))) (a03 (a01 z3.2.1) z3.1),a05 (a01 (wrap .i64 (z3.2.1-(wrap .i64 z3.2.2.1)))) (a03 (a01 z3.2.1) z3.1),(a00 (a05 (a01 (wrap .i64 (z3.2.1-(wrap .i64 z3.2.2.1)))) (a03 (a01 z3.2.1) z3.1)):Int),0,())).bind fun w6=>match w6 with |.inl a7=>((x0w a2Q (a7.1,0,[],())).bind fun w11=>(a4x w11.1).bind fun y12=>some (y12.1,y12.2)) |.inr b8=>some (b8.2.1,b8.1)) none) none)) none)) none)
def a8D:FSem:=⟨[.v QB],[.o Q6,.v QI],a4y⟩
def H44:Hints:=⟨[(2042,[.sv 6 QB,.sv 44 QB,45,46],[Qe 0 [.sv 6 QB],Qr [3,.own 2 2 Q6]]),(8186,[.sv 6 QB,10,.own 9 9 QV],[Qe 2 [.own 9 9 QV]])],[(126,[Qn [.sv 0 QB,4,.sv 5 QU,.sv 36 .bool]]),(130713,[Qn [.sv 6 QB,.sv 44 QB,45,46,.sv 55 .bool]])],[(20,[.q,.v,.v,.v,.v,.v,.v,.v,.v,.v,.v,.v,.v,.v,.q,.x,.x])]⟩
def a3I(s:(Int×Int×Bool×Z11×Int×Int×Z37)):Option ((Int×Int×Bool×Z11×Int×Int×Z37) ⊕ (Bool×Z37)):=cond (decide (s.2.2.2.2.2.1<s.2.2.2.2.1)) ((n0o s.2.2.2.1 s.2.2.2.2.2.1).bind fun x1=>cond (x1.1 != s.1) (some (.inl (s.1,s.2.1,s.2.2.1,s.2.2.2.1,s.2.2.2.2.1,wrap .i64 (s.2.2.2.2.2.1+1),s.2.2.2.2.2.2.1,s.2.2.2.2.2.2.2.1,()))) (cond (decide (x1.2.1 > s.2.1)) (some (.inl (s.1,s.2.1,s.2.2.1,s.2.2.2.1,s.2.2.2.2.1,wrap .i64 (s.2.2.2.2.2.1+1),s.2.2.2.2.2.2.1,s.2.2.2.2.2.2.2.1,()))) ((show Option (Int×Int×Bool×Z11×Int×Int×Int×Int×Bool×Bool×Z5×Z37)from cond (!s.2.2.1) (some (s.1,s.2.1,s.2.2.1,s.2.2.2.1,s.2.2.2.2.1,s.2.2.2.2.2.1,x1.2.1,s.2.1,decide (x1.2.1 > s.2.1),true,s.2.2.2.2.2.2.1,s.2.2.2.2.2.2.2.1,x1,())) (some (s.1,s.2.1,s.2.2.1,s.2.2.2.1,s.2.2.2.2.1,s.2.2.2.2.2.1,x1.2.1,s.2.1,decide (x1.2.1 > s.2.1),decide (x1.2.1≥s.2.2.2.2.2.2.2.1.2.1),s.2.2.2.2.2.2.1,s.2.2.2.2.2.2.2.1,x1,()))).bind fun z2=>cond z2.2.2.2.2.2.2.2.2.2.1 (some (.inl (z2.1,z2.2.1,true,z2.2.2.2.1,z2.2.2.2.2.1,wrap .i64 (z2.2.2.2.2.2.1+1),z2.2.2.2.2.2.2.2.2.2.2.1,z2.2.2.2.2.2.2.2.2.2.2.2.2.1,()))) (some (.inl (z2.1,z2.2.1,z2.2.2.1,z2.2.2.2.1,z2.2.2.2.2.1,wrap .i64 (z2.2.2.2.2.2.1+1),z2.2.2.2.2.2.2.2.2.2.2.1,z2.2.2.2.2.2.2.2.2.2.2.2.1,())))))) (some (.inr (s.2.2.1,s.2.2.2.2.2.2.1,s.2.2.2.2.2.2.2.1,())))
def a4z(x:(Z11×Int×Int)):Option (Z5×Bool):=(x0w a3I (x.2.1,x.2.2,false,x.1,(x.1.length:Int),0,(0,0,0,()),(0,0,0,()),())).bind fun w3=>some (w3.2.2.1,w3.1)
def a8E:FSem:=⟨[.v (.list false Q6),.v QI,.v QI],[.v Q6,.v .bool],a4z⟩
def H45:Hints:=⟨[(122,[1,2,.sv 9 .bool,.sv 12 (.list false Q6),13,14,.box 6 Q6,.box 8 Q6,Qp 6 6,Qp 8 8],[Qe 0 [.sv 9 .bool,.box 6 Q6,.box 8 Q6,Qp 6 6,Qp 8 8]])],[(15667,[Qn [1,2,.sv 9 .bool,.sv 12 (.list false Q6),13,14,24,25,.sv 26 .bool,.sv 36 .bool,.box 6 Q6,.box 8 Q6,.box 11 Q6,Qp 6 6,Qp 8 8,Qp 11 11,.ptr 23 11 [.snd,.fst]]])],[]⟩
def a3w(x:(LI×(Int×Int))):Option (Z32×Int):=(a2U x.1).bind fun y1=>cond (y1.2.2 != 0) (some ([],y1.2.2)) ((show Option (LI×(Int×Z6))from cond (decide (x.2.1<0)) (some (x.1,x.2.1,x.2.2,y1.2.1,true,())) (cond (decide (x.2.1≥(y1.1.length:Int))) (some (x.1,x.2.1,x.2.2,y1.2.1,true,())) (cond (decide (x.2.2<0)) (some (x.1,x.2.1,x.2.2,y1.2.1,true,())) (some (x.1,x.2.1,x.2.2,y1.2.1,decide (x.2.2 > 1125899906842624),()))))).bind fun z2=>cond z2.2.2.2.2.1 (some ([],6)) (cond ((decide (0≤z2.2.2.2.1))&&(decide (z2.2.2.2.1≤(z2.1.length:Int)))) ((a4y (a05 (a01 z2.2.2.2.1) (a03 (a00 z2.1) z2.1))).bind fun y3=>cond (y3.2 != 0) (some ([],y3.2)) ((a4z (y3.1,z2.2.1,z2.2.2.1)).bind fun y4=>cond (!y4.2) (some ([],7)) (cond ((decide (0≤z2.2.2.2.1))&&(decide (z2.2.2.2.1≤(z2.1.length:Int)))) ((a3h (a05 (a01 z2.2.2.2.1) (a03 (a00 z2.1) z2.1))).bind fun y5=>(a2o (y4.1.2.2.1,y5.1)).bind fun y6=>some (y6,0)) none))) none))
def a9H:FSem:=⟨[.v QB,.v QI,.v QI],[.o Q16,.v QI],a3w⟩
def H13:Hints:=⟨[],[(30,[Qn [.sv 0 QB,1,2,9,.sv 40 .bool]])],[]⟩
def a3r(x:(Z28×Z28)):Option Bool:=cond (x.1.1==x.2.1) (cond (x.1.2.1==x.2.2.1) (cond (x.1.2.2.1==x.2.2.2.1) (cond (x.1.2.2.2.1==x.2.2.2.2.1) (cond (x.1.2.2.2.2.1==x.2.2.2.2.2.1) (some ((b2s x.1.2.2.2.2.2.1)==(b2s x.2.2.2.2.2.2.1))) (some false)) (some false)) (some false)) (some false)) (some false)
def a7f:FSem:=⟨[.v Q16,.v Q16],[.v .bool],a3r⟩
def a2r(s:(Z32×Z32×Int×Unit)):Option ((Z32×Z32×Int×Unit) ⊕ (Unit ⊕ (Bool×Unit))):=cond (decide (s.2.2.1<(s.1.length:Int))) ((n0o s.1 s.2.2.1).bind fun x1=>(n0o s.2.1 s.2.2.1).bind fun x2=>(a3r (x1,x2)).bind fun y3=>cond (!y3) (some (.inr (Sum.inr ((false,()))))) (some (.inl (s.1,s.2.1,wrap .i64 (s.2.2.1+1),())))) (some (.inr (Sum.inl ())))
def a1X(x:(Z32×Z32)):Option Bool:=cond ((x.1.length:Int) != (x.2.length:Int)) (some false) ((x0w a2r (x.1,x.2,0,())).bind fun w4=>match w4 with |.inl a5=>some true |.inr b6=>some b6.1)
def a6O:FSem:=⟨[.v (.list false Q16),.v (.list false Q16)],[.v .bool],a1X⟩
def H15:Hints:=⟨[(58,[.sv 0 (.list false Q16),.sv 1 (.list false Q16),5],[Qe 0 [],Qr [.sv 4 .bool]])],[],[(6,[.v,.v,.v,.v,.v,.v,.v,.v,.x,.x])]⟩
def a4A(x:Unit):Option Z55:=some (2,(1,1,()),(0,0,0,()),1,1,1,1,())
def b0M:FSem:=⟨[],[.v Q19],a4A⟩
def a4h(x:Unit):Option Bool:=(a4A ()).bind fun y1=>(a2h (([y1]:List Z55),([[]]:List Z32))).bind fun y2=>(a2U y2.1).bind fun y3=>(a4A ()).bind fun y4=>(a2h (([y4]:List Z55),([([(0,5,0,true,false,[120],())]:List Z28)]:List Z32))).bind fun y5=>(a4f y5.1).bind fun y6=>(a3w (y5.1,0,9)).bind fun y7=>(a3w (y5.1,0,4)).bind fun y8=>cond (y2.2==0) (cond ((y2.1.length:Int)==36) (cond (y3.2.2==0) (cond (y3.2.1==18) (cond ((y3.1.length:Int)==1) (cond (decide (0<(y3.1.length:Int))) ((a4A ()).bind fun y9=>cond (eqT Q19 (a04 y3.1 0 ((0: Int),((0: Int),(0: Int),()),((0: Int),(0: Int),(0: Int),()),(0: Int),(0: Int),(0: Int),(0: Int),())) y9) (cond (y5.2==0) (cond (y6.2.2==0) (cond ((y6.2.1.length:Int)==0) ((a1X (y6.1,([(0,5,0,true,false,[120],())]:List Z28))).bind fun y10=>cond y10 (cond (y7.2==0) ((a1X (y7.1,y6.1)).bind fun y11=>cond y11 (some (y8.2==7)) (some false)) (some false)) (some false)) (some false)) (some false)) (some false)) (some false)) none) (some false)) (some false)) (some false)) (some false)) (some false)
def a9I:FSem:=⟨[],[.v .bool],a4h⟩
def H14:Hints:=⟨[],[],[(4,[.v,.v,.q,.v,.v,.x,.x,.q,.q,.q,.x]),(8,[.x,.x,.x,.x,.x,.x,.x,.x,.x,.x,.x,.x,.x,.x,.x,.x,.x,.x,.x,.x,.x,.q,.q,.q,.v,.x,.x,.x,.x,.x,.x,.x,.x,.x,.x,.x,.x,.x,.x,.x,.x,.q,.q,.q,.x,.x,.x,.x,.x,.x,.x,.q,.q,.x,.x,.x,.x,.x,.x,.x])]⟩
def a1Q(s:(Int×Int×Int×Int×Int×Z67)):Option ((Int×Int×Int×Int×Int×Z67) ⊕ (Int×Int×Z67)):=cond (decide (s.2.2.2.2.1<(s.2.2.2.2.2.1.length:Int))) ((show Option (Int×Int×Int×Int×Int×Bool×Z67)from cond ((decide (0≤s.2.2.2.2.1))&&(decide (s.2.2.2.2.1<(s.2.2.2.2.2.1.length:Int)))) (cond (((a04 s.2.2.2.2.2.1 (a01 s.2.2.2.2.1) (0,0,0,false,false,[],())).1)==s.1) (cond ((decide (0≤s.2.2.2.2.1))&&(decide (s.2.2.2.2.1<(s.2.2.2.2.2.1.length:Int)))) (cond (((((a04 s.2.2.2.2.2.1 (a01 s.2.2.2.2.1) (0,0,0,false,false,[],())).2).2).2).1) (cond ((decide (0≤s.2.2.2.2.1))&&(decide (s.2.2.2.2.1<(s.2.2.2.2.2.1.length:Int)))) (some (s.1,s.2.1,s.2.2.1,s.2.2.2.1,s.2.2.2.2.1,decide ((((a04 s.2.2.2.2.2.1 (a01 s.2.2.2.2.1) (0,0,0,false,false,[],())).2).1)≤s.2.1),s.2.2.2.2.2.1,s.2.2.2.2.2.2.1,())) none) (some (s.1,s.2.1,s.2.2.1,s.2.2.2.1,s.2.2.2.2.1,false,s.2.2.2.2.2.1,s.2.2.2.2.2.2.1,()))) none) (some (s.1,s.2.1,s.2.2.1,s.2.2.2.1,s.2.2.2.2.1,false,s.2.2.2.2.2.1,s.2.2.2.2.2.2.1,()))) none).bind fun z9=>cond z9.2.2.2.2.2.1 (some (.inl (z9.1,z9.2.1,z9.2.2.1,z9.2.2.2.2.1,wrap .i64 (z9.2.2.2.2.1+1),z9.2.2.2.2.2.2.1,z9.2.2.2.2.2.2.2.1,()))) (some (.inl (z9.1,z9.2.1,z9.2.2.1,z9.2.2.2.1,wrap .i64 (z9.2.2.2.2.1+1),z9.2.2.2.2.2.2.1,z9.2.2.2.2.2.2.2.1,())))) (some (.inr (s.2.2.1,s.2.2.2.1,s.2.2.2.2.2.1,s.2.2.2.2.2.2.1,())))
def a4B(x:(LI×(Int×Int))):Option Bool:=(a3Z x.1).bind fun y1=>(a4U (y1,8)).bind fun y2=>(a2h (y2.1,y2.2.1)).bind fun y3=>(a1p (x.2.1,0,wrap .i64 ((y2.1.length:Int)-1))).bind fun y4=>(a1p (bits .i64 .and x.2.2 16777215,0,600)).bind fun y5=>(a4f y3.1).bind fun y6=>(a3w (y3.1,y4,y5)).bind fun y7=>(show Option (Int×Int×Int×Bool×Z67)from cond (y3.2 != 0) (some (y4,y5,y7.2,true,y6.1,y7.1,())) (some (y4,y5,y7.2,y6.2.2 != 0,y6.1,y7.1,()))).bind fun z8=>cond z8.2.2.2.1 (some false) ((x0w a1Q (z8.1,z8.2.1,z8.2.2.1,(-1),0,z8.2.2.2.2.1,z8.2.2.2.2.2.1,())).bind fun w10=>cond (decide (w10.2.1<0)) (cond (w10.1==7) (cond ((w10.2.2.2.1.length:Int)==0) ((a4h ()).bind fun y11=>some y11) (some false)) (some false)) (cond (w10.1==0) (cond ((decide (0≤w10.2.1))&&(decide (w10.2.1≤(w10.2.2.1.length:Int)))) ((a1X (w10.2.2.2.1,a03 ((a00 w10.2.2.1)-(a01 w10.2.1)) (a05 (a01 w10.2.1) w10.2.2.1))).bind fun y12=>cond y12 ((a4h ()).bind fun y13=>some y13) (some false)) none) (some false)))
def a4C:FSem:=⟨[.v QL,.v QI,.v QI],[.v .bool],a4B⟩
def H3:Hints:=⟨[(4090,[11,12,17,18,19,.own 13 13 Q16,.own 16 16 Q16],[Qe 0 [17,18,.own 13 13 Q16,.own 16 16 Q16]])],[(254,[Qn [11,12,17,.sv 58 .bool,.own 13 13 Q16,.own 16 16 Q16]]),(65444,[Qn [11,12,17,18,19,.sv 87 .bool,.own 13 13 Q16,.own 16 16 Q16]])],[]⟩
end Go.Ab
namespace Go.Ab
open IntKind(wrap)
section
variable {σ β:Type} {f:σ→Option (σ ⊕ β)}
theorem a5T:∀(n m:Nat)(s:σ){b:β},g0u f n s=some b→g0u f (n+m) s=some b
 |0,_,s,b,h=>by simp[g0u]at h
 |n+1,m,s,b,h=>by
  rw[show n+1+m=n+m+1 from by omega];simp only[g0u]at h⊢
  split at h
  cases h;rename_i s' g;exact a5T n m s' h;exact h
theorem a7O{n m:Nat}{s:σ}{b b':β}(h:g0u f n s=some b)(a:g0u f m s=some b'):b=b':=by
 have c:=a5T n m s h;have g:=a5T m n s a;rw[Nat.add_comm,c]at g;exact Option.some.inj g
theorem b1Y{n:Nat}{s:σ}{b:β}(h:g0u f n s=some b):x0x f s=some b:=by
 unfold x0x;have g:∃n b,g0u f n s=some b:=⟨n,b,h⟩;rw[dif_pos g];exact congrArg some (a7O g.choose_spec.choose_spec h)
theorem a5I{n:Nat}{s:σ}{b:β}(h:g0u f n s=some b):x0w f s=some b:=by
 unfold x0w;split;rename_i a g;rw[a7O g h];exact b1Y h
theorem a6z{s:σ}(h:∀n,g0u f n s=none):x0w f s=none:=by
 unfold x0w;rw[h 400];show x0x f s=none;unfold x0x;rw[dif_neg]
 rintro⟨n,b,g⟩
 rw[h n]at g;cases g
theorem a1c{s:σ}{b:β}(h:f s=some (.inr b)):x0w f s=some b:=a5I (n:=1) (by simp[g0u,h])
theorem a1t{s s':σ}(h:f s=some (.inl s')):x0w f s=x0w f s':=by
 by_cases hx:∃n b,g0u f n s'=some b
 obtain⟨n,b,a⟩:=hx;rw[a5I a];exact a5I (n:=n+1) (by simp[g0u,h,a])
 ·have g:∀n,g0u f n s'=none:=fun n=>by
   cases hn:g0u f n s' with
   |none=>rfl
   |some b=>exact absurd ⟨n,b,hn⟩ hx
  rw[a6z g];refine a6z fun n=>?_
  cases n with
  |zero=>rfl
  |succ n=>simp[g0u,h,g n]
theorem a9R(S:Nat→σ)(n:Nat){b:β}(g:∀i,i<n→f (S i)=some (.inl (S (i+1))))(h:f (S n)=some (.inr b)):∀(k:Nat),k≤n→x0w f (S (n-k))=some b
 |0,_=>a1c h
 |k+1,hk=>by
  rw[a1t (g (n-(k+1)) (by omega)),show n-(k+1)+1=n-k from by omega];exact a9R S n g h k (by omega)
theorem a0O(S:Nat→σ)(n:Nat){b:β}(g:∀i,i<n→f (S i)=some (.inl (S (i+1))))(h:f (S n)=some (.inr b)):x0w f (S 0)=some b:=by
 have:=a9R S n g h n (Nat.le_refl _)
 rwa [Nat.sub_self]at this
end
theorem wrap64{n:Int}(h:-9223372036854775808≤n∧n≤9223372036854775807):wrap .i64 n=n:=by
 simp only[wrap,IntKind.bits,IntKind.signed]
 simp
 split<;>omega
theorem a3i{n:Int}(h:0≤n∧n<18446744073709551616):wrap .u64 n=n:=by
 simp only[wrap,IntKind.bits,IntKind.signed]
 simp
 omega
theorem a8F(n:Int):wrap .u8 n=n%256:=by
 simp[wrap,IntKind.bits,IntKind.signed]
theorem a9S(x y:Int):x0s x y=max x y:=by
 simp only[x0s,cond_eq_ite,dT]
 split<;>omega
theorem b1n{n:Nat}(h:n<2147483648):lim n=true:=by simp[lim,h]
theorem a7P{σ τ β γ:Type}{f:σ→Option (σ ⊕ β)}{g:τ→Option (τ ⊕ γ)}(φ:σ→τ)(ψ:β→γ)(I:σ→Prop)
  (h:∀s,I s→g (φ s)=(f s).map (Sum.map φ ψ)∧∀s',f s=some (.inl s')→I s'):∀n s,I s→g0u g n (φ s)=(g0u f n s).map ψ
 |0,_,_=>rfl
 |n+1,s,hs=>by
  obtain⟨a,b⟩:=h s hs;simp only[g0u,a];cases hf:f s with
  |none=>rfl
  |some z=>
   cases z with
   |inl s'=>exact a7P φ ψ I h n s' (b s' hf)
   |inr r=>rfl
theorem a7G{α β:Type}{f:α→β}{c:Bool}{a b:Option α}:a16 f (bif c then a else b)=bif c then a16 f a else a16 f b:=by cases c<;>rfl
theorem a7g{σ τ β γ:Type}{f:σ→Option (σ ⊕ β)}{g:τ→Option (τ ⊕ γ)}(φ:σ→τ)(ψ:β→γ)(I:σ→Prop)
  (h:∀s,I s→g (φ s)=(f s).map (Sum.map φ ψ)∧∀s',f s=some (.inl s')→I s'){s:σ}(d:I s):x0w g (φ s)=(x0w f s).map ψ:=by
 have key:=fun n=>a7P φ ψ I h n s d;cases hr:x0w f s with
 |some r=>
  obtain⟨n,a⟩:=s0j hr;have c:=key n;rw[a]at c;exact a5I c
 |none=>
  refine a6z fun n=>?_
  rw[key n];cases a:g0u f n s with
  |none=>rfl
  |some b=>rw[a5I a]at hr;cases hr
theorem a7m(b m:Int)(s)(L):a1w b L (b,s)=(a1w m L (m,s)).map (Sum.map (fun s=>(b,s.2)) id):=by
 simp only[a1w,beq_self_eq_true,cT,a13,a7G,a09,Function.comp_def,a08,a11,Sum.map_inl,Sum.map_inr,id]
theorem a8G{σ β:Type}{e:Option (σ ⊕ β)}{φ:σ→σ}{ψ:β→β}(h:e=e.map (Sum.map φ ψ)){s':σ}(g:e=some (.inl s')):s'=φ s':=by
 rw[g]at h;exact Sum.inl.inj (Option.some.inj h)
theorem a9J(b m:Int)(L)(g):a2e b L (g,b)=a2e m L (g,m):=by
 unfold a2e
 have:=a7g (f:=a1w m L) (g:=a1w b L) (fun s=>(b,s.2)) id (fun s=>s=(m,s.2)) (fun s c=>⟨?_,fun s' h=>?_⟩) (s:=(m,(0,(0,(g.1,([],(g,()))))))) rfl
 rw[Option.map_id,id]at this;exact congrArg (fun z=>Option.bind z _) this;have a:=a7m b m s.2 L;rw[←c]at a;exact a;rw[c]at h;exact a8G (a7m m m s.2 L) h
theorem a9T(b m:Int)(s)(L):a1f ((b,s),(b,L))=(a1f ((m,s),(m,L))).map (Sum.map (fun s=>((b,s.1.2),(b,s.2.2))) (fun r=>((b,r.1.2),(b,r.2.2)))):=by
 simp only[a1f,beq_self_eq_true,cT,a13,a7G,a09,Function.comp_def,a08,a11,Sum.map_inl,Sum.map_inr]
theorem a9U(b m:Int)(s)(L):a1g ((b,s),(b,L))=(a1g ((m,s),(m,L))).map (Sum.map (fun s=>((b,s.1.2),(b,s.2.2))) (fun r=>(r.1,(b,r.2.2)))):=by
 simp only[a1g,a9J b m,beq_self_eq_true,cT,a13,a7G,a09,Function.comp_def,a08,a11,Sum.map_inl,Sum.map_inr]
theorem a9V(b:Int)(s)(L):x0w a1f ((b,s),(b,L))=(x0w a1f ((0,s),(0,L))).map (fun r=>((b,r.1.2),(b,r.2.2))):=
 a7g (f:=a1f) (g:=a1f) (fun s=>((b,s.1.2),(b,s.2.2))) (fun r=>((b,r.1.2),(b,r.2.2))) (fun s=>s=((0,s.1.2),(0,s.2.2))) (fun s c=>⟨by
  have a:=a9T b 0 s.1.2 s.2.2;rw[←c]at a;exact a,fun s' h=>by
  rw[c]at h;exact a8G (a9T 0 0 s.1.2 s.2.2) h⟩) (s:=((0,s),(0,L))) rfl
theorem b2M(b:Int)(s)(L):x0w a1g ((b,s),(b,L))=(x0w a1g ((0,s),(0,L))).map (fun r=>(r.1,(b,r.2.2))):=
 a7g (f:=a1g) (g:=a1g) (fun s=>((b,s.1.2),(b,s.2.2))) (fun r=>(r.1,(b,r.2.2))) (fun s=>s=((0,s.1.2),(0,s.2.2))) (fun s c=>⟨by
  have a:=a9U b 0 s.1.2 s.2.2;rw[←c]at a;exact a,fun s' h=>by
  rw[c]at h;exact a8G (a9U 0 0 s.1.2 s.2.2) h⟩) (s:=((0,s),(0,L))) rfl
theorem b1o(b:Int)(x):a2n b x=a2n 0 x:=by
 unfold a2n;rw[a9V b];have g:=a9V 0 ((-1:Int),(x,(((a00 x:Nat):Int),((0:Int),([],([],())))))) [];cases h:x0w a1f ((0,((-1:Int),(x,(((a00 x:Nat):Int),((0:Int),([],([],()))))))),(0,[]))with
 |none=>rfl
 |some w=>
  rw[h]at g;have f:w=((0,w.1.2),(0,w.2.2)):=Option.some.inj g;simp only[a08,oB];rw[b2M b];rw[f];simp only;cases x0w a1g ((0,(w.1.2.1,(((a00 w.1.2.2.1:Nat):Int),((0:Int),(w.1.2.2.2.1,(w.1.2.2.1,())))))),(0,w.2.2))with
  |none=>rfl
  |some r=>rfl
theorem b2N(x)(y)(h:a4e x=some y)(b:Int):a2n b x=some y:=(b1o b x).trans h
end Go.Ab
