/- Part of the proof: It. Conditions: as each statement tells. -/
import Derived.Test.YtlddggjghmobhaaGreatProg
import Derived.KernelRfl
import Derived.Test.YtlddggjghmobhaaGreatMF
noncomputable section
set_option linter.unusedSimpArgs false
set_option linter.unusedVariables false
open Bool renaming true_and→a13
open Int renaming toNat→a01,tmod→a07,tdiv→a14
open List renaming length→a00,append→a02,take→a03,getD→a04,drop→a05,set→a06,replicate→a17
open Option renaming map_some→a08,map_bind→a09,map_none→a11,map→a16,isSome→a19,isNone→a20
namespace Go.Ab
open IntKind(wrap)
open Go.Proofs
set_option maxRecDepth 100000
set_option linter.unusedVariables false
abbrev QI:Ty:=.int .i64
abbrev QL:Ty:=.list false QI
abbrev QU:Ty:=.int .u64
abbrev QV:Ty:=.int .u8
abbrev QB:Ty:=.list false QV
abbrev LI:Type:=List Int
instance (n:Nat):OfNat Ent n:=⟨.sv n QI⟩
@[reducible] def Qp(i n:Nat):Ent:=.ptr i n []
@[reducible] def Qn(l:a0c):Ex×a0c:=(.normal,l)
@[reducible] def Qe(n:Nat)(l:a0c):Ex×a0c:=(.exit n,l)
@[reducible] def Qr(l:a0c):Ex×a0c:=(.ret,l)
def QH:Hints:=⟨[],[],[]⟩
abbrev Z0:Type:=((List LI)×Unit)
abbrev Z1:Type:=(LI×(Int×Unit))
abbrev Z2:Type:=(Int×(LI×Unit))
abbrev Z3:Type:=(List (Int×(Int×Unit)))
abbrev Z4:Type:=(Bool×(LI×Unit))
abbrev Z5:Type:=(Int×(Int×(Int×Unit)))
abbrev Z6:Type:=(Int×(Int×(Bool×Unit)))
abbrev Z7:Type:=(LI×(LI×Unit))
abbrev Z8:Type:=(Z1×Int)
abbrev Z9:Type:=(Int×Z2)
abbrev Z10:Type:=(LI×(Int×(Int×Unit)))
abbrev Z11:Type:=(List Z5)
abbrev Z12:Type:=(Z1×Unit)
abbrev Z13:Type:=(Int×Z5)
abbrev Z14:Type:=(Z3×Unit)
abbrev Z15:Type:=(Bool×Z1)
abbrev Z16:Type:=(Bool×Z4)
abbrev Z17:Type:=(Z5×Unit)
abbrev Z18:Type:=(Int×Z10)
abbrev Z19:Type:=(Z11×Unit)
abbrev Z20:Type:=(Z10×Unit)
abbrev Z21:Type:=(Int×Z15)
abbrev Z22:Type:=(Int×Z16)
abbrev Z23:Type:=(Bool×Z16)
abbrev Z24:Type:=(LI×Z9)
abbrev Z25:Type:=(Int×Z19)
abbrev Z26:Type:=(Int×Z22)
abbrev Z27:Type:=(Int×Z23)
abbrev Z28:Type:=(Int×Z26)
abbrev Z29:Type:=(List Z27)
abbrev Z30:Type:=(Int×Z27)
abbrev Z31:Type:=(Z27×Unit)
abbrev Z32:Type:=(List Z28)
abbrev Z33:Type:=(Z5×Z13)
abbrev Z34:Type:=(Z29×Int)
abbrev Z35:Type:=(List Z30)
abbrev Z36:Type:=(Z28×Unit)
abbrev Z37:Type:=(Z29×Unit)
abbrev Z38:Type:=(Z5×Z17)
abbrev Z39:Type:=(Int×Z31)
abbrev Z40:Type:=(Bool×Z31)
abbrev Z41:Type:=(List Z32)
abbrev Z42:Type:=(Z32×Unit)
abbrev Z43:Type:=(Int×Z35)
abbrev Z44:Type:=(Int×Z37)
abbrev Z45:Type:=(LI×Z31)
abbrev Z46:Type:=(Int×Z42)
abbrev Z47:Type:=(Int×Z45)
abbrev Z48:Type:=(Int×Z44)
abbrev Z49:Type:=(Z29×Z0)
abbrev Z50:Type:=(Int×Z46)
abbrev Z51:Type:=((Int×(Int×Unit))×Z33)
abbrev Z52:Type:=(Unit×Z46)
abbrev Z53:Type:=(Int×Z47)
abbrev Z54:Type:=(Int×Z49)
abbrev Z55:Type:=(Int×Z50)
abbrev Z56:Type:=(Int×Z51)
abbrev Z57:Type:=(Unit×Z50)
abbrev Z58:Type:=(Int×Z52)
abbrev Z59:Type:=(Int×Z54)
abbrev Z60:Type:=(List Z56)
abbrev Z61:Type:=(Int×Z55)
abbrev Z62:Type:=(Int×Z57)
abbrev Z63:Type:=(Unit×Z55)
abbrev Z64:Type:=(Int×Z59)
abbrev Z65:Type:=(Int×Z63)
abbrev Z66:Type:=(Z29×Z37)
abbrev Z67:Type:=(Int×Z66)
abbrev Z68:Type:=(Int×Z67)
abbrev Z69:Type:=(Z60×Z20)
abbrev Z70:Type:=(Z29×Z53)
abbrev Z71:Type:=(Int×Z69)
abbrev Z72:Type:=(Int×Z70)
abbrev Z73:Type:=(Int×Z72)
abbrev Q0:Ty:=(.pair QI .unit)
abbrev Q1:Ty:=(.pair QB .unit)
abbrev Q2:Ty:=(.pair QI Q0)
abbrev Q3:Ty:=(.pair .bool Q1)
abbrev Q4:Ty:=(.pair (.list true QV) Q0)
abbrev Q5:Ty:=(.pair QL Q0)
abbrev Q6:Ty:=(.pair QI Q2)
abbrev Q7:Ty:=(.pair .bool Q3)
abbrev Q8:Ty:=(.pair .bool Q4)
abbrev Q9:Ty:=(.pair QB Q2)
abbrev Q10:Ty:=(.pair .bool Q7)
abbrev Q11:Ty:=(.pair QI Q6)
abbrev Q12:Ty:=(.pair QI Q7)
abbrev Q13:Ty:=(.pair QI Q8)
abbrev Q14:Ty:=(.pair QI Q10)
abbrev Q15:Ty:=(.pair QI Q12)
abbrev Q16:Ty:=(.pair QI Q15)
abbrev Q17:Ty:=(.pair Q6 Q11)
abbrev Q18:Ty:=(.pair Q2 Q17)
abbrev Q19:Ty:=(.pair QI Q18)
def a5o:List (Nat×Ty):=[(2,.int .i64),(3,.int .i64),(4,.bool),(5,.int .u8),(9,.str),(22,.list false QI),(23,.list false Q19),(24,.list false (.list false Q16)),(29,.list false QV),(30,.int .i64),(34,.list false Q16),(35,.list false Q2),(41,.pair QI Q15),(48,.list false Q14),(54,.list false Q6),(56,.int .u64),(60,.pair QI Q10),(78,.pair QI Q0),(81,.pair QI Q2),(84,.pair QI Q18),(86,.pair QL Q0),(94,.pair QI Q2),(102,.int .u64),(107,.int .u32),(117,.list false QB),(140,.pair QI (.pair .bool (.pair QB Q0))),(142,.pair QI Q0),(147,.list false Q2),(152,.pair QB Q2),(162,.list false QU),(182,.pair QI .unit),(195,.int .u64)]
def T0:Nat→Option Ty:=fun t=>find a5o t
def a5D:List Nat:=[81,84]
def b1O:Nat→Bool:=fun t=>a5D.contains t
def a4Z:List Nat:=[]
def b1P:Nat→Bool:=fun t=>a4Z.contains t
def b1h:List (Nat×Ty):=[(170,.pair QI Q10)]
def G0:GTab:={ g:=fun g=>find ([]:List (Nat×((t:Ty)×t.den))) g,w:=fun t=>find b1h t }
@[reducible] def b1Q(a:List (Nat×FSem))(b:List (Nat×Ty))(c d:Nat):Cx:=⟨b1P,b1O,T0,fun f=>find a f,fun n=>find b n,c.testBit,d.testBit,G0⟩
def a2h(x:(Int×Int×Int)):Option Int:=(show Option (Int×Z6)from cond (decide (x.1≥x.2.1)) (some (x.1,x.2.1,x.2.2,decide (x.1≤x.2.2),())) (some (x.1,x.2.1,x.2.2,false,()))).bind fun z1=>cond z1.2.2.2.1 (some z1.1) (cond ((wrap .i64 ((wrap .i64 (z1.2.2.1-z1.2.1))+1))==0) none ((show Option (Int×Int×Unit)from cond (decide ((a07 z1.1 (wrap .i64 ((wrap .i64 (z1.2.2.1-z1.2.1))+1)))<0)) (some (wrap .i64 ((wrap .i64 ((wrap .i64 ((a07 z1.1 (wrap .i64 ((wrap .i64 (z1.2.2.1-z1.2.1))+1)))+z1.2.2.1))-z1.2.1))+1),z1.2.1,())) (some (a07 z1.1 (wrap .i64 ((wrap .i64 (z1.2.2.1-z1.2.1))+1)),z1.2.1,()))).bind fun z2=>some (wrap .i64 (z2.2.1+z2.1))))
def a5E:FSem:=⟨[.v QI,.v QI,.v QI],[.v QI],a2h⟩
def H11:Hints:=⟨[],[(6,[Qn [0,1,2,.sv 14 .bool]]),(15,[Qn [0,1]])],[]⟩
def a0A(x:Z8):Option (Int×Z1):=(show Option (Int×Bool×Z12)from cond (decide (x.1.2.1≥(x.1.1.length:Int))) (some (x.2,true,x.1,())) (some (x.2,decide (x.2<1),x.1,()))).bind fun z1=>cond z1.2.1 (some (0,z1.2.2.1)) ((n0p z1.2.2.1.1 (wrap .i64 ((wrap .i64 (z1.2.2.1.2.1+1))-1))).bind fun x2=>(a2h (x2,0,1073741824)).bind fun y3=>cond (z1.1==0) none (some (a07 y3 z1.1,z1.2.2.1.1,wrap .i64 (z1.2.2.1.2.1+1),z1.2.2.1.2.2)))
def a5m:FSem:=⟨[.r false (.b Q5),.v QI],[.v QI],a0A⟩
def H36:Hints:=⟨[],[(6,[Qn [1,.sv 18 .bool,.box pinned Q5,Qp 0 pinned]])],[(1,[.p,.p,.q,.q,.p,.p,.q,.q,.v,.x,.x,.x,.x,.x]),(4,[.p,.p,.q,.q,.p,.p,.q,.q,.v,.v,.v,.v,.v,.x,.x])]⟩
def a2K(x:((Int×Unit)×Int)):Option (Int×Int×Unit):=cond (x.2==0) none (some (a07 (D0r .i64 (bits .i64 .and (wrap .i64 ((wrap .i64 (x.1.1*1103515245))+12345)) 2147483647) 8) x.2,bits .i64 .and (wrap .i64 ((wrap .i64 (x.1.1*1103515245))+12345)) 2147483647,x.1.2))
def a5t:FSem:=⟨[.r false (.b Q0),.v QI],[.v QI],a2K⟩
def a1Y(s:(Int×(LI×((Int×Unit)×Z12)))):Option ((Int×(LI×((Int×Unit)×Z12))) ⊕ (LI×Z12)):=cond (decide (s.1 > 0)) ((a2K (s.2.2.1,256)).bind fun y3=>cond (lim ((a00 s.2.1)+1)) (some (.inl (wrap .i64 (s.1-1),a02 s.2.1 [wrap .u8 y3.1],y3.2,s.2.2.2.1,()))) none) (some (.inr (s.2.1,s.2.2.2.1,())))
def a1L(x:Z8):Option (LI×Z1):=(a0A (x.1,1048576)).bind fun y1=>(a0A (y1.2,wrap .i64 (x.2+1))).bind fun y2=>(x0y a1Y (y2.1,[],(y1.1,()),y2.2,())).bind fun w4=>some (w4.1,w4.2.1)
def a5a:FSem:=⟨[.r false (.b Q5),.v QI],[.o QV],a1L⟩
def b3T:Hints:=⟨[(122,[7,.own 6 6 QV,.box 11 Q0,.box pinned Q5,Qp 5 11],[Qe 0 [.own 6 6 QV,.box pinned Q5]])],[],[]⟩
def a1S(s:(Int×Int×Int×Z32×Z12)):Option ((Int×Int×Int×Z32×Z12) ⊕ (Z32×Z12)):=cond (decide (s.2.2.1 > 0)) ((a0A (s.2.2.2.2.1,50)).bind fun y3=>(a0A (y3.2,3)).bind fun y4=>(a0A (y4.2,8)).bind fun y5=>(a0A (y5.2,3)).bind fun y6=>cond ((decide (0≤y6.1))&&(decide (y6.1<3))) ((a1L (y6.2,a04 [20,300,900] (a01 y6.1) 0)).bind fun y7=>cond (lim ((a00 s.2.2.2.1)+1)) ((a0A (y7.2,60)).bind fun y8=>some (.inl (s.1,wrap .i64 (s.2.1+y8.1),wrap .i64 (s.2.2.1-1),a02 s.2.2.2.1 ([(s.1,s.2.1,y3.1,decide (y4.1 > 0),y5.1==7,y7.1,())]:List Z28),y8.2,()))) none) none) (some (.inr (s.2.2.2.1,s.2.2.2.2.1,())))
def a1E(x:(Z1×Int×Int)):Option (Z32×Z1):=(a0A (x.1,40)).bind fun y1=>(a0A (y1.2,wrap .i64 (x.2.2+1))).bind fun y2=>(x0y a1S (x.2.1,y1.1,y2.1,[],y2.2,())).bind fun w9=>some (w9.1,w9.2.1)
def a4M:FSem:=⟨[.r false (.b Q5),.v QI,.v QI],[.o Q16],a1E⟩
def H85:Hints:=⟨[(122,[1,7,9,.own 8 8 Q16,.box pinned Q5,Qp 0 pinned],[Qe 0 [.own 8 8 Q16,.box pinned Q5]])],[],[]⟩
def a1T(s:(Int×Int×Z41×Z12)):Option ((Int×Int×Z41×Z12) ⊕ (Z41×Z12)):=cond (decide (s.2.1 > 0)) ((a1E (s.2.2.2.1,(s.2.2.1.length:Int),s.1)).bind fun y2=>cond (lim ((a00 s.2.2.1)+1)) (some (.inl (s.1,wrap .i64 (s.2.1-1),a02 s.2.2.1 ([y2.1]:List Z32),y2.2,()))) none) (some (.inr (s.2.2.1,s.2.2.2.1,())))
def a1F(x:Z8):Option (Z41×Z1):=(a0A (x.1,4)).bind fun y1=>(x0y a1T (x.2,wrap .i64 (1+y1.1),[],y1.2,())).bind fun w3=>some (w3.1,w3.2.1)
def a4N:FSem:=⟨[.r false (.b Q5),.v QI],[.o (.list false Q16)],a1F⟩
def H35:Hints:=⟨[(58,[1,6,.own 5 5 (.list false Q16),.box pinned Q5,Qp 0 pinned],[Qe 0 [.own 5 5 (.list false Q16),.box pinned Q5]])],[],[]⟩
def a1A(x:Z1):Option ((Int×Int×Unit)×Z1):=(a0A (x,6)).bind fun y1=>cond ((decide (0≤y1.1))&&(decide (y1.1<6))) (some (a04 ([(1,1,()),(30000,1001,()),(3,7,()),(7,3,()),(1,100,()),(44100,90000,())]:List (Int×Int×Unit)) (a01 y1.1) (0,0,()),y1.2)) none
def a5n:FSem:=⟨[.r false (.b Q5)],[.v Q2],a1A⟩
def a1J(x:Z1):Option (Z5×Z1):=(a0A (x,50000)).bind fun y1=>(a0A (y1.2,3)).bind fun y2=>(a0A (y2.2,4)).bind fun y3=>cond ((decide (0≤y3.1))&&(decide (y3.1<4))) (some ((wrap .i64 (1+y1.1),wrap .i64 (1+y2.1),a04 [16,8,4,24] (a01 y3.1) 0,()),y3.2)) none
def a4R:FSem:=⟨[.r false (.b Q5)],[.v Q6],a1J⟩
def a4x(s:(Int×Z41×Z60×Z12)):Option ((Int×Z41×Z60×Z12) ⊕ (Z41×Z60×Z12)):=cond (decide (s.1<(s.2.1.length:Int))) ((a0A (s.2.2.2.1,2)).bind fun y2=>cond (y2.1==0) ((a1A y2.2).bind fun y3=>(a1J y3.2).bind fun y4=>cond (lim ((a00 s.2.2.1)+1)) (some (.inl (wrap .i64 (s.1+1),s.2.1,a02 s.2.2.1 ([(1,y3.1,y4.1,0,0,0,0,())]:List Z56),y4.2,()))) none) ((a1A y2.2).bind fun y5=>(a0A (y5.2,64)).bind fun y6=>(a0A (y6.2,64)).bind fun y7=>(a0A (y7.2,16)).bind fun y8=>(a0A (y8.2,4)).bind fun y9=>cond (lim ((a00 s.2.2.1)+1)) (some (.inl (wrap .i64 (s.1+1),s.2.1,a02 s.2.2.1 ([(2,y5.1,(0,0,0,()),wrap .i64 (1+y6.1),wrap .i64 (1+y7.1),wrap .i64 (1+y8.1),wrap .i64 (1+y9.1),())]:List Z56),y9.2,()))) none)) (some (.inr (s.2.1,s.2.2.1,s.2.2.2.1,())))
def a4F(x:Z8):Option (Z60×Z41×Z1):=(a1F (x.1,x.2)).bind fun y1=>(x0y a4x (0,y1.1,[],y1.2,())).bind fun w10=>some (w10.2.1,w10.1,w10.2.2.1)
def a9j:FSem:=⟨[.r false (.b Q5),.v QI],[.o Q19,.o (.list false Q16)],a4F⟩
def H8:Hints:=⟨[(122,[8,.own 6 6 (.list false Q16),.own 7 7 Q19,.box pinned Q5,Qp 0 pinned],[Qe 0 [.own 6 6 (.list false Q16),.own 7 7 Q19,.box pinned Q5]])],[],[]⟩
def a3Q(x:LI):Option Z1:=some (x,0,())
def a6A:FSem:=⟨[.v QL],[.b Q5],a3Q⟩
def a2c(x:Int):Option Int:=some (x0v (x0u x 0) 8)
def a7Y:FSem:=⟨[.v QI],[.v QI],a2c⟩
def a3b(s:(Int×Z9)):Option ((Int×Z9) ⊕ (LI×Unit)):=cond (decide (s.2.2.1<s.2.1)) (cond (lim ((a00 s.2.2.2.1)+1)) (some (.inl (wrap .u64 (a14 s.1 256),s.2.1,wrap .i64 (s.2.2.1+1),a02 s.2.2.2.1 [wrap .u8 (a07 s.1 256)],()))) none) (some (.inr (s.2.2.2.1,())))
def a3Y(x:(Int×Int)):Option LI:=(a2c x.2).bind fun y1=>(x0y a3b (x.1,y1,0,[],())).bind fun w2=>some w2.1
def a7Z:FSem:=⟨[.v QU,.v QI],[.o QV],a3Y⟩
def b3U:Hints:=⟨[(58,[.sv 0 QU,7,8,.own 5 5 QV],[Qe 0 [.own 5 5 QV]])],[],[]⟩
def a1U(x:LI):Option LI:=cond (decide (a00 x<2147483648)) (some (List.reverse x)) none
def a4w:FSem:=⟨[.r false (.o QV)],[],a1U⟩
def a1K(x:(Int×Int)):Option LI:=(a3Y (x.1,x.2)).bind fun y1=>(a1U y1).bind fun y2=>some y2
def a9k:FSem:=⟨[.v QU,.v QI],[.o QV],a1K⟩
def a1D(x:(Bool×Int)):Option Int:=cond x.1 (some x.2) (some 0)
def a9l:FSem:=⟨[.v .bool,.v QV],[.v QV],a1D⟩
def a4g(x:Z28):Option (LI×Int):=(show Option (Bool×Z36)from cond (decide (x.1<0)) (some (true,x,())) (cond (decide (x.1≥4)) (some (true,x,())) (cond (decide (x.2.1<0)) (some (true,x,())) (cond (decide (x.2.1 > 1125899906842624)) (some (true,x,())) (cond (decide (x.2.2.1<0)) (some (true,x,())) (some (decide (x.2.2.1 > 1125899906842624),x,()))))))).bind fun z1=>cond z1.1 (some ([],1)) (cond (decide ((z1.2.1.2.2.2.2.2.1.length:Int) > 65536)) (some ([],4)) ((a1D (z1.2.1.2.2.2.1,1)).bind fun y2=>(a1D (z1.2.1.2.2.2.2.1,2)).bind fun y3=>(a1K (wrap .u64 z1.2.1.2.1,8)).bind fun y4=>cond (lim (2+(a00 y4))) ((a1K (wrap .u64 z1.2.1.2.2.1,8)).bind fun y5=>cond (lim ((a00 (a02 [wrap .u8 z1.2.1.1,bits .u8 .or y2 y3] y4))+(a00 y5))) (cond (lim ((a00 (a02 (a02 [wrap .u8 z1.2.1.1,bits .u8 .or y2 y3] y4) y5))+(a00 z1.2.1.2.2.2.2.2.1))) (some (a02 (a02 (a02 [wrap .u8 z1.2.1.1,bits .u8 .or y2 y3] y4) y5) z1.2.1.2.2.2.2.2.1,0)) none) none) none))
def a9Z:FSem:=⟨[.v Q16],[.o QV,.v QI],a4g⟩
def H57:Hints:=⟨[],[(6,[Qn [.sv 32 .bool,.vp 1 Q16]])],[(5,[.v,.v,.v,.v,.v,.v,.v,.v,.v,.v,.x,.x])]⟩
def a2d(x:LI):Option LI:=cond (List.isEmpty x) (m0d (some []) (cond (lim (0+(a00 x))) (some (a02 [] x)) none)) (cond (lim (0+(a00 x))) (some (a02 [] x)) none)
def a8a:FSem:=⟨[.v QB],[.o QV],a2d⟩
def a3Z(x:Z28):Option Z28:=(a2d x.2.2.2.2.2.1).bind fun y1=>some (x.1,x.2.1,x.2.2.1,x.2.2.2.1,x.2.2.2.2.1,y1,x.2.2.2.2.2.2)
def a8b:FSem:=⟨[.v Q16],[.v Q16],a3Z⟩
def a6O(s:Z18):Option (Z18 ⊕ ((Int×Unit) ⊕ (Int×Unit))):=(fun(a b:Int)=>cond (decide (b<a)) ((n0p s.2.1 b).bind fun x1=>cond (x1 != s.1) (some (.inr (Sum.inr ((x1,()))))) (some (.inl (s.1,s.2.1,a,wrap .i64 (b+1),())))) (some (.inr (Sum.inl (s.1,()))))) s.2.2.1 s.2.2.2.1
def a4O(x:LI):Option Int:=(x0y a6O (0,x,(x.length:Int),0,())).bind fun w2=>match w2 with |.inl a3=>some a3.1 |.inr b4=>some b4.1
def a8c:FSem:=⟨[.v QL],[.v QI],a4O⟩
def H61:Hints:=⟨[(58,[3,.sv 6 QL,7,8],[Qe 0 [3],Qr [2]])],[],[]⟩
def a2C(x:Int):Option Bool:=some (x != x)
def a6a:FSem:=⟨[.v QI],[.v .bool],a2C⟩
def a2i(x:(Int×Int)):Option Int:=(a2C x.1).bind fun y1=>(a2C x.2).bind fun y2=>cond y1 (cond y2 (some 0) (some (-1))) (cond y2 (some 1) (cond (decide (x.1<x.2)) (some (-1)) (cond (decide (x.1 > x.2)) (some 1) (some 0))))
def a5F:FSem:=⟨[.v QI,.v QI],[.v QI],a2i⟩
def a3c(x:Int):Option Bool:=some (x != x)
def a6P:FSem:=⟨[.v QI],[.v .bool],a3c⟩
def a2D(x:(Int×Int)):Option Int:=(a3c x.1).bind fun y1=>(a3c x.2).bind fun y2=>cond y1 (cond y2 (some 0) (some (-1))) (cond y2 (some 1) (cond (decide (x.1<x.2)) (some (-1)) (cond (decide (x.1 > x.2)) (some 1) (some 0))))
def a6b:FSem:=⟨[.v QI,.v QI],[.v QI],a2D⟩
def a2e(x:(Z28×Z28)):Option Int:=(a2i (x.1.2.1,x.2.2.1)).bind fun y1=>(a2D (x.1.1,x.2.1)).bind fun y2=>(a4O [y1,y2]).bind fun y3=>some y3
def a5V:FSem:=⟨[.v Q16,.v Q16],[.v QI],a2e⟩
def H60:Hints:=⟨[],[],[(1,[.v,.v,.v,.v,.v,.v,.v,.v,.v,.x,.x,.x,.x])]⟩
def a0X(s:(Int×Z62)):Option ((Int×Z62) ⊕ (Int×Z58)):=cond (decide (s.2.2.2.2.1 > s.1)) (cond ((decide (0≤s.2.2.2.2.1))&&(decide (s.2.2.2.2.1<(s.2.2.2.2.2.1.length:Int)))) (cond ((decide (0≤(wrap .i64 (s.2.2.2.2.1-1))))&&(decide ((wrap .i64 (s.2.2.2.2.1-1))<(s.2.2.2.2.2.1.length:Int)))) ((a2e (a04 s.2.2.2.2.2.1 (a01 s.2.2.2.2.1) (0,0,0,false,false,[],()),a04 s.2.2.2.2.2.1 (a01 (wrap .i64 (s.2.2.2.2.1-1))) (0,0,0,false,false,[],()))).bind fun y2=>cond (decide (y2<0)) (cond ((decide (0≤(wrap .i64 (s.2.2.2.2.1-1))))&&(decide ((wrap .i64 (s.2.2.2.2.1-1))<(s.2.2.2.2.2.1.length:Int)))) (cond ((decide (0≤s.2.2.2.2.1))&&(decide (s.2.2.2.2.1<(s.2.2.2.2.2.1.length:Int)))) (cond ((decide (0≤s.2.2.2.2.1))&&(decide (s.2.2.2.2.1<(s.2.2.2.2.2.1.length:Int)))) (cond ((decide (0≤(wrap .i64 (s.2.2.2.2.1-1))))&&(decide ((wrap .i64 (s.2.2.2.2.1-1))<((a00 (a06 s.2.2.2.2.2.1 (a01 s.2.2.2.2.1) (a04 s.2.2.2.2.2.1 (a01 (wrap .i64 (s.2.2.2.2.1-1))) (0,0,0,false,false,[],()))):Nat):Int)))) (some (.inl (s.1,s.2.1,s.2.2.1,s.2.2.2.1,wrap .i64 (s.2.2.2.2.1-1),a06 (a06 s.2.2.2.2.2.1 (a01 s.2.2.2.2.1) (a04 s.2.2.2.2.2.1 (a01 (wrap .i64 (s.2.2.2.2.1-1))) (0,0,0,false,false,[],()))) (a01 (wrap .i64 (s.2.2.2.2.1-1))) (a04 s.2.2.2.2.2.1 (a01 s.2.2.2.2.1) (0,0,0,false,false,[],())),()))) none) none) none) none) (some (.inr (s.1,s.2.1,s.2.2.1,s.2.2.2.1,s.2.2.2.2.2.1,())))) none) none) (some (.inr (s.1,s.2.1,s.2.2.1,s.2.2.2.1,s.2.2.2.2.2.1,())))
def a0Y(s:(Int×Z58)):Option ((Int×Z58) ⊕ Z42):=cond (decide (s.2.2.2.1<s.2.1)) ((x0y a0X (s.1,s.2.1,s.2.2.1,s.2.2.2.1,s.2.2.2.1,s.2.2.2.2.1,())).bind fun w3=>some (.inl (w3.1,w3.2.1,w3.2.2.1,wrap .i64 (w3.2.2.2.1+1),w3.2.2.2.2.1,()))) (some (.inr (s.2.2.2.2.1,())))
def a0J(x:(Z32×Int×Int×Unit)):Option Z32:=(x0y a0Y (x.2.1,x.2.2.1,x.2.2.2,wrap .i64 (x.2.1+1),x.1,())).bind fun w4=>some w4.1
def a3a:FSem:=⟨[.r false (.o Q16),.v QI,.v QI,.v (.fn 60)],[],a0J⟩
def b3V:Hints:=⟨[(6,[1,2,.sv 3 (.fn 60),8,.own 0 pinned Q16],[Qe 0 [.own 0 pinned Q16]]),(402,[1,2,.sv 3 (.fn 60),8,9,.own 0 pinned Q16],[Qe 2 [1,2,.sv 3 (.fn 60),8,.own 0 pinned Q16]])],[],[(4,[.v,.v,.x,.x,.v,.q,.v,.q,.q,.q,.v,.v,.q,.q,.x,.x,.x]),(6,[.q,.v,.h,.v,.v,.q,.v,.v,.q,.q,.q,.v,.q,.q,.q,.k [0,pinned],.x,.x])]⟩
def a1d(s:Z61):Option (Z61 ⊕ Z42):=cond (decide (s.2.2.2.1<s.2.2.1)) (cond ((decide (0≤(wrap .i64 (s.2.1+s.2.2.2.1))))&&(decide ((wrap .i64 (s.2.1+s.2.2.2.1))<(s.2.2.2.2.1.length:Int)))) (cond ((decide (0≤(wrap .i64 (s.1+s.2.2.2.1))))&&(decide ((wrap .i64 (s.1+s.2.2.2.1))<(s.2.2.2.2.1.length:Int)))) (cond ((decide (0≤(wrap .i64 (s.1+s.2.2.2.1))))&&(decide ((wrap .i64 (s.1+s.2.2.2.1))<(s.2.2.2.2.1.length:Int)))) (cond ((decide (0≤(wrap .i64 (s.2.1+s.2.2.2.1))))&&(decide ((wrap .i64 (s.2.1+s.2.2.2.1))<((a00 (a06 s.2.2.2.2.1 (a01 (wrap .i64 (s.1+s.2.2.2.1))) (a04 s.2.2.2.2.1 (a01 (wrap .i64 (s.2.1+s.2.2.2.1))) (0,0,0,false,false,[],()))):Nat):Int)))) (some (.inl (s.1,s.2.1,s.2.2.1,wrap .i64 (s.2.2.2.1+1),a06 (a06 s.2.2.2.2.1 (a01 (wrap .i64 (s.1+s.2.2.2.1))) (a04 s.2.2.2.2.1 (a01 (wrap .i64 (s.2.1+s.2.2.2.1))) (0,0,0,false,false,[],()))) (a01 (wrap .i64 (s.2.1+s.2.2.2.1))) (a04 s.2.2.2.2.1 (a01 (wrap .i64 (s.1+s.2.2.2.1))) (0,0,0,false,false,[],())),()))) none) none) none) none) (some (.inr (s.2.2.2.2.1,())))
def a0L(x:(Z32×Z5)):Option Z32:=(x0y a1d (x.2.1,x.2.2.1,x.2.2.2.1,0,x.1,())).bind fun w2=>some w2.1
def a3z:FSem:=⟨[.r false (.o Q16),.v QI,.v QI,.v QI,.v (.fn 60)],[],a0L⟩
def b3W:Hints:=⟨[(6,[1,2,3,10,.own 0 pinned Q16],[Qe 0 [.own 0 pinned Q16]])],[],[(3,[.q,.v,.v,.v,.h,.v,.v,.v,.q,.v,.v,.v,.q,.q,.q,.v,.v,.v,.q,.q,.q,.k [0,pinned],.x,.x])]⟩
def a1y(s:Z62):Option (Z62 ⊕ Z58):=cond (s.2.2.1 != s.2.2.2.1) (cond (decide (s.2.2.1 > s.2.2.2.1)) ((a0L (s.2.2.2.2.1,wrap .i64 (s.1-s.2.2.1),s.1,s.2.2.2.1,s.2.1)).bind fun y1=>some (.inl (s.1,s.2.1,wrap .i64 (s.2.2.1-s.2.2.2.1),s.2.2.2.1,y1,()))) ((a0L (s.2.2.2.2.1,wrap .i64 (s.1-s.2.2.1),wrap .i64 ((wrap .i64 (s.1+s.2.2.2.1))-s.2.2.1),s.2.2.1,s.2.1)).bind fun y2=>some (.inl (s.1,s.2.1,s.2.2.1,wrap .i64 (s.2.2.2.1-s.2.2.1),y2,())))) (some (.inr (s.1,s.2.1,s.2.2.1,s.2.2.2.2.1,())))
def a1q(x:(Z32×Z5)):Option Z32:=(x0y a1y (x.2.2.1,x.2.2.2.2,wrap .i64 (x.2.2.1-x.2.1),wrap .i64 (x.2.2.2.1-x.2.2.1),x.1,())).bind fun w3=>(a0L (w3.2.2.2.1,wrap .i64 (w3.1-w3.2.2.1),w3.1,w3.2.2.1,w3.2.1)).bind fun y4=>some y4
def a2g:FSem:=⟨[.r false (.o Q16),.v QI,.v QI,.v QI,.v (.fn 60)],[],a1q⟩
def b3X:Hints:=⟨[(28,[2,.sv 4 (.fn 60),10,11,.own 0 pinned Q16],[Qe 0 [2,.sv 4 (.fn 60),10,.own 0 pinned Q16]])],[],[]⟩
def a1h(s:Z62):Option (Z62 ⊕ Z50):=cond (decide (s.2.2.1<s.2.2.2.1)) (cond ((decide (0≤(wrap .i64 (D0r .u64 (wrap .u64 (wrap .i64 (s.2.2.1+s.2.2.2.1))) 1))))&&(decide ((wrap .i64 (D0r .u64 (wrap .u64 (wrap .i64 (s.2.2.1+s.2.2.2.1))) 1))<(s.2.2.2.2.1.length:Int)))) (cond ((decide (0≤s.1))&&(decide (s.1<(s.2.2.2.2.1.length:Int)))) ((a2e (a04 s.2.2.2.2.1 (a01 (wrap .i64 (D0r .u64 (wrap .u64 (wrap .i64 (s.2.2.1+s.2.2.2.1))) 1))) (0,0,0,false,false,[],()),a04 s.2.2.2.2.1 (a01 s.1) (0,0,0,false,false,[],()))).bind fun y1=>cond (decide (y1<0)) (some (.inl (s.1,s.2.1,wrap .i64 ((wrap .i64 (D0r .u64 (wrap .u64 (wrap .i64 (s.2.2.1+s.2.2.2.1))) 1))+1),s.2.2.2.1,s.2.2.2.2.1,()))) (some (.inl (s.1,s.2.1,s.2.2.1,wrap .i64 (D0r .u64 (wrap .u64 (wrap .i64 (s.2.2.1+s.2.2.2.1))) 1),s.2.2.2.2.1,())))) none) none) (some (.inr (s.1,s.2.2.1,s.2.2.2.2.1,())))
def a1i(s:Z50):Option (Z50 ⊕ Z42):=cond (decide (s.2.1<(wrap .i64 (s.1-1)))) (cond ((decide (0≤(wrap .i64 (s.2.1+1))))&&(decide ((wrap .i64 (s.2.1+1))<(s.2.2.1.length:Int)))) (cond ((decide (0≤s.2.1))&&(decide (s.2.1<(s.2.2.1.length:Int)))) (cond ((decide (0≤s.2.1))&&(decide (s.2.1<(s.2.2.1.length:Int)))) (cond ((decide (0≤(wrap .i64 (s.2.1+1))))&&(decide ((wrap .i64 (s.2.1+1))<((a00 (a06 s.2.2.1 (a01 s.2.1) (a04 s.2.2.1 (a01 (wrap .i64 (s.2.1+1))) (0,0,0,false,false,[],()))):Nat):Int)))) (some (.inl (s.1,wrap .i64 (s.2.1+1),a06 (a06 s.2.2.1 (a01 s.2.1) (a04 s.2.2.1 (a01 (wrap .i64 (s.2.1+1))) (0,0,0,false,false,[],()))) (a01 (wrap .i64 (s.2.1+1))) (a04 s.2.2.1 (a01 s.2.1) (0,0,0,false,false,[],())),()))) none) none) none) none) (some (.inr (s.2.2.1,())))
def a1j(s:Z62):Option (Z62 ⊕ Z50):=cond (decide (s.2.2.1<s.2.2.2.1)) (cond ((decide (0≤s.1))&&(decide (s.1<(s.2.2.2.2.1.length:Int)))) (cond ((decide (0≤(wrap .i64 (D0r .u64 (wrap .u64 (wrap .i64 (s.2.2.1+s.2.2.2.1))) 1))))&&(decide ((wrap .i64 (D0r .u64 (wrap .u64 (wrap .i64 (s.2.2.1+s.2.2.2.1))) 1))<(s.2.2.2.2.1.length:Int)))) ((a2e (a04 s.2.2.2.2.1 (a01 s.1) (0,0,0,false,false,[],()),a04 s.2.2.2.2.1 (a01 (wrap .i64 (D0r .u64 (wrap .u64 (wrap .i64 (s.2.2.1+s.2.2.2.1))) 1))) (0,0,0,false,false,[],()))).bind fun y4=>cond (!(decide (y4<0))) (some (.inl (s.1,s.2.1,wrap .i64 ((wrap .i64 (D0r .u64 (wrap .u64 (wrap .i64 (s.2.2.1+s.2.2.2.1))) 1))+1),s.2.2.2.1,s.2.2.2.2.1,()))) (some (.inl (s.1,s.2.1,s.2.2.1,wrap .i64 (D0r .u64 (wrap .u64 (wrap .i64 (s.2.2.1+s.2.2.2.1))) 1),s.2.2.2.2.1,())))) none) none) (some (.inr (s.1,s.2.2.1,s.2.2.2.2.1,())))
def a1k(s:Z50):Option (Z50 ⊕ Z42):=cond (decide (s.2.1 > s.1)) (cond ((decide (0≤(wrap .i64 (s.2.1-1))))&&(decide ((wrap .i64 (s.2.1-1))<(s.2.2.1.length:Int)))) (cond ((decide (0≤s.2.1))&&(decide (s.2.1<(s.2.2.1.length:Int)))) (cond ((decide (0≤s.2.1))&&(decide (s.2.1<(s.2.2.1.length:Int)))) (cond ((decide (0≤(wrap .i64 (s.2.1-1))))&&(decide ((wrap .i64 (s.2.1-1))<((a00 (a06 s.2.2.1 (a01 s.2.1) (a04 s.2.2.1 (a01 (wrap .i64 (s.2.1-1))) (0,0,0,false,false,[],()))):Nat):Int)))) (some (.inl (s.1,wrap .i64 (s.2.1-1),a06 (a06 s.2.2.1 (a01 s.2.1) (a04 s.2.2.1 (a01 (wrap .i64 (s.2.1-1))) (0,0,0,false,false,[],()))) (a01 (wrap .i64 (s.2.1-1))) (a04 s.2.2.1 (a01 s.2.1) (0,0,0,false,false,[],())),()))) none) none) none) none) (some (.inr (s.2.2.1,())))
def a0S(s:(Int×Int×Int×Unit×Int×Z61)):Option ((Int×Int×Int×Unit×Int×Z61) ⊕ (Int×Int×Z65)):=cond (decide (s.2.2.2.2.2.2.1<s.2.2.2.2.2.2.2.1)) (cond ((decide (0≤(wrap .i64 (s.2.2.2.2.2.2.2.2.1-(wrap .i64 (D0r .u64 (wrap .u64 (wrap .i64 (s.2.2.2.2.2.2.1+s.2.2.2.2.2.2.2.1))) 1))))))&&(decide ((wrap .i64 (s.2.2.2.2.2.2.2.2.1-(wrap .i64 (D0r .u64 (wrap .u64 (wrap .i64 (s.2.2.2.2.2.2.1+s.2.2.2.2.2.2.2.1))) 1))))<(s.2.2.2.2.2.2.2.2.2.1.length:Int)))) (cond ((decide (0≤(wrap .i64 (D0r .u64 (wrap .u64 (wrap .i64 (s.2.2.2.2.2.2.1+s.2.2.2.2.2.2.2.1))) 1))))&&(decide ((wrap .i64 (D0r .u64 (wrap .u64 (wrap .i64 (s.2.2.2.2.2.2.1+s.2.2.2.2.2.2.2.1))) 1))<(s.2.2.2.2.2.2.2.2.2.1.length:Int)))) ((a2e (a04 s.2.2.2.2.2.2.2.2.2.1 (a01 (wrap .i64 (s.2.2.2.2.2.2.2.2.1-(wrap .i64 (D0r .u64 (wrap .u64 (wrap .i64 (s.2.2.2.2.2.2.1+s.2.2.2.2.2.2.2.1))) 1))))) (0,0,0,false,false,[],()),a04 s.2.2.2.2.2.2.2.2.2.1 (a01 (wrap .i64 (D0r .u64 (wrap .u64 (wrap .i64 (s.2.2.2.2.2.2.1+s.2.2.2.2.2.2.2.1))) 1))) (0,0,0,false,false,[],()))).bind fun y8=>cond (!(decide (y8<0))) (some (.inl (s.1,s.2.1,s.2.2.1,s.2.2.2.1,s.2.2.2.2.1,s.2.2.2.2.2.1,wrap .i64 ((wrap .i64 (D0r .u64 (wrap .u64 (wrap .i64 (s.2.2.2.2.2.2.1+s.2.2.2.2.2.2.2.1))) 1))+1),s.2.2.2.2.2.2.2.1,s.2.2.2.2.2.2.2.2.1,s.2.2.2.2.2.2.2.2.2.1,()))) (some (.inl (s.1,s.2.1,s.2.2.1,s.2.2.2.1,s.2.2.2.2.1,s.2.2.2.2.2.1,s.2.2.2.2.2.2.1,wrap .i64 (D0r .u64 (wrap .u64 (wrap .i64 (s.2.2.2.2.2.2.1+s.2.2.2.2.2.2.2.1))) 1),s.2.2.2.2.2.2.2.2.1,s.2.2.2.2.2.2.2.2.2.1,())))) none) none) (some (.inr (s.1,s.2.1,s.2.2.1,s.2.2.2.1,s.2.2.2.2.1,s.2.2.2.2.2.1,s.2.2.2.2.2.2.1,s.2.2.2.2.2.2.2.2.2.1,())))
def a0B:Nat→(Z32×Z5)→Option Z32 |0,_=>none |fu+1,x=>cond ((wrap .i64 (x.2.2.1-x.2.1))==(1:Int)) ((x0y a1h (x.2.1,x.2.2.2.2,x.2.2.1,x.2.2.2.1,x.1,())).bind fun w2=>(x0y a1i (w2.2.1,w2.1,w2.2.2.1,())).bind fun w3=>some w3.1) (cond ((wrap .i64 (x.2.2.2.1-x.2.2.1))==(1:Int)) ((x0y a1j (x.2.2.1,x.2.2.2.2,x.2.1,x.2.2.1,x.1,())).bind fun w5=>(x0y a1k (w5.2.1,w5.1,w5.2.2.1,())).bind fun w6=>some w6.1) ((show Option (Int×Int×Int×Unit×Z61)from cond (decide (x.2.2.1 > (wrap .i64 (D0r .u64 (wrap .u64 (wrap .i64 (x.2.1+x.2.2.2.1))) (1:Int))))) (some (x.2.1,x.2.2.1,x.2.2.2.1,x.2.2.2.2,wrap .i64 (D0r .u64 (wrap .u64 (wrap .i64 (x.2.1+x.2.2.2.1))) (1:Int)),wrap .i64 ((wrap .i64 (D0r .u64 (wrap .u64 (wrap .i64 (x.2.1+x.2.2.2.1))) (1:Int)))+x.2.2.1),wrap .i64 ((wrap .i64 ((wrap .i64 (D0r .u64 (wrap .u64 (wrap .i64 (x.2.1+x.2.2.2.1))) (1:Int)))+x.2.2.1))-x.2.2.2.1),wrap .i64 (D0r .u64 (wrap .u64 (wrap .i64 (x.2.1+x.2.2.2.1))) (1:Int)),x.1,())) (some (x.2.1,x.2.2.1,x.2.2.2.1,x.2.2.2.2,wrap .i64 (D0r .u64 (wrap .u64 (wrap .i64 (x.2.1+x.2.2.2.1))) (1:Int)),wrap .i64 ((wrap .i64 (D0r .u64 (wrap .u64 (wrap .i64 (x.2.1+x.2.2.2.1))) (1:Int)))+x.2.2.1),x.2.1,x.2.2.1,x.1,()))).bind fun z7=>(x0y a0S (z7.1,z7.2.1,z7.2.2.1,z7.2.2.2.1,z7.2.2.2.2.1,z7.2.2.2.2.2.1,z7.2.2.2.2.2.2.1,z7.2.2.2.2.2.2.2.1,wrap .i64 (z7.2.2.2.2.2.1-(1:Int)),z7.2.2.2.2.2.2.2.2.1,())).bind fun w9=>(show Option (Int×Z65)from(show Option (Int×Int×Int×Unit×Int×Int×Int×Bool×Z42)from cond (decide (w9.2.2.2.2.2.2.1<w9.2.1)) (some (w9.1,w9.2.1,w9.2.2.1,w9.2.2.2.1,w9.2.2.2.2.1,w9.2.2.2.2.2.2.1,wrap .i64 (w9.2.2.2.2.2.1-w9.2.2.2.2.2.2.1),decide (w9.2.1<(wrap .i64 (w9.2.2.2.2.2.1-w9.2.2.2.2.2.2.1))),w9.2.2.2.2.2.2.2.1,())) (some (w9.1,w9.2.1,w9.2.2.1,w9.2.2.2.1,w9.2.2.2.2.1,w9.2.2.2.2.2.2.1,wrap .i64 (w9.2.2.2.2.2.1-w9.2.2.2.2.2.2.1),false,w9.2.2.2.2.2.2.2.1,()))).bind fun z10=>cond z10.2.2.2.2.2.2.2.1 ((a1q (z10.2.2.2.2.2.2.2.2.1,z10.2.2.2.2.2.1,z10.2.1,z10.2.2.2.2.2.2.1,z10.2.2.2.1)).bind fun y11=>some (z10.1,z10.2.2.1,z10.2.2.2.1,z10.2.2.2.2.1,z10.2.2.2.2.2.1,z10.2.2.2.2.2.2.1,y11,())) (some (z10.1,z10.2.2.1,z10.2.2.2.1,z10.2.2.2.2.1,z10.2.2.2.2.2.1,z10.2.2.2.2.2.2.1,z10.2.2.2.2.2.2.2.2.1,()))).bind fun z12=>(show Option Z62 from(show Option (Int×Int×Unit×Int×Int×Int×Bool×Z42)from cond (decide (z12.1<z12.2.2.2.2.1)) (some (z12.1,z12.2.1,z12.2.2.1,z12.2.2.2.1,z12.2.2.2.2.1,z12.2.2.2.2.2.1,decide (z12.2.2.2.2.1<z12.2.2.2.1),z12.2.2.2.2.2.2.1,())) (some (z12.1,z12.2.1,z12.2.2.1,z12.2.2.2.1,z12.2.2.2.2.1,z12.2.2.2.2.2.1,false,z12.2.2.2.2.2.2.1,()))).bind fun z13=>cond z13.2.2.2.2.2.2.1 ((a0B fu (z13.2.2.2.2.2.2.2.1,z13.1,z13.2.2.2.2.1,z13.2.2.2.1,z13.2.2.1)).bind fun y14=>some (z13.2.1,z13.2.2.1,z13.2.2.2.1,z13.2.2.2.2.2.1,y14,())) (some (z13.2.1,z13.2.2.1,z13.2.2.2.1,z13.2.2.2.2.2.1,z13.2.2.2.2.2.2.2.1,()))).bind fun z15=>(show Option (Int×Unit×Int×Int×Bool×Z42)from cond (decide (z15.2.2.1<z15.2.2.2.1)) (some (z15.1,z15.2.1,z15.2.2.1,z15.2.2.2.1,decide (z15.2.2.2.1<z15.1),z15.2.2.2.2.1,())) (some (z15.1,z15.2.1,z15.2.2.1,z15.2.2.2.1,false,z15.2.2.2.2.1,()))).bind fun z16=>cond z16.2.2.2.2.1 ((a0B fu (z16.2.2.2.2.2.1,z16.2.2.1,z16.2.2.2.1,z16.1,z16.2.1)).bind fun y17=>some y17) (some z16.2.2.2.2.2.1)))
def a0Z(fu:Nat):FSem:=⟨[.r false (.o Q16),.v QI,.v QI,.v QI,.v (.fn 60)],[],a0B fu⟩
def b3Y:Hints:=⟨[(172,[1,.sv 4 (.fn 60),10,11,.own 0 pinned Q16],[Qe 0 [1,10,.own 0 pinned Q16]]),(428,[2,.sv 4 (.fn 60),14,15,.own 0 pinned Q16],[Qe 4 [2,14,.own 0 pinned Q16]]),(698,[10,13,.own 0 pinned Q16],[Qe 2 [.own 0 pinned Q16]]),(1020,[1,2,3,.sv 4 (.fn 60),18,19,20,21,22,.own 0 pinned Q16],[Qe 8 [1,2,3,.sv 4 (.fn 60),18,19,20,.own 0 pinned Q16]]),(1722,[14,17,.own 0 pinned Q16],[Qe 6 [.own 0 pinned Q16]])],[(63,[Qn [1,2,3,.sv 4 (.fn 60),18,19,20,21,.own 0 pinned Q16]]),(1023,[Qn [1,3,.sv 4 (.fn 60),18,20,24,.own 0 pinned Q16]]),(2046,[Qn [1,2,3,.sv 4 (.fn 60),18,20,24,.sv 185 .bool,.own 0 pinned Q16]]),(2047,[Qn [3,.sv 4 (.fn 60),18,24,.own 0 pinned Q16]]),(4094,[Qn [1,3,.sv 4 (.fn 60),18,20,24,.sv 199 .bool,.own 0 pinned Q16]]),(4095,[Qn [3,.sv 4 (.fn 60),18,24,.sv 213 .bool,.own 0 pinned Q16]])],[(5,[.v,.q,.v,.q,.q,.q,.v,.q,.q,.x,.x]),(11,[.q,.v,.h,.v,.v,.q,.v,.v,.q,.q,.q,.v,.q,.q,.q,.k [0,pinned],.x,.x]),(17,[.v,.q,.v,.q,.q,.q,.v,.q,.q,.x,.x,.x]),(23,[.q,.v,.h,.v,.v,.q,.v,.v,.q,.q,.q,.v,.q,.q,.q,.k [0,pinned],.x,.x]),(35,[.v,.q,.v,.v,.v,.q,.q,.q,.v,.q,.q,.x,.x,.x])]⟩
def b2u(fu:Nat):Cx:=b1Q [(60,a5V),(123,a0Z fu),(128,a2g)] [] 33553439 0
theorem b3z(h:Nat)(x):D0m (b2u h) b3Y Tryz.f123 (a0Z (h+1)).ps (a0Z (h+1)).rs x=(a0Z (h+1)).F x:=by kernel_rfl
def a0V(s:Z65):Option (Z65 ⊕ Z62):=cond (decide (s.2.2.2.2.1≤s.1)) ((a0J (s.2.2.2.2.2.1,s.2.2.2.1,s.2.2.2.2.1,s.2.1)).bind fun y1=>some (.inl (s.1,s.2.1,s.2.2.1,s.2.2.2.2.1,wrap .i64 (s.2.2.2.2.1+s.2.2.1),y1,()))) (some (.inr (s.1,s.2.1,s.2.2.1,s.2.2.2.1,s.2.2.2.2.2.1,())))
def a1X(s:Z65):Option (Z65 ⊕ Z62):=cond (decide (s.2.2.2.2.1≤s.1)) ((a0B 64 (s.2.2.2.2.2.1,s.2.2.2.1,wrap .i64 (s.2.2.2.1+s.2.2.1),s.2.2.2.2.1,s.2.1)).bind fun y5=>some (.inl (s.1,s.2.1,s.2.2.1,s.2.2.2.2.1,wrap .i64 (s.2.2.2.2.1+(wrap .i64 (2*s.2.2.1))),y5,()))) (some (.inr (s.1,s.2.1,s.2.2.1,s.2.2.2.1,s.2.2.2.2.2.1,())))
def a0M(s:Z58):Option (Z58 ⊕ Z42):=cond (decide (s.2.2.1<s.1)) ((x0y a1X (s.1,s.2.1,s.2.2.1,0,wrap .i64 (2*s.2.2.1),s.2.2.2.1,())).bind fun w6=>cond (decide ((wrap .i64 (w6.2.2.2.1+w6.2.2.1))<w6.1)) ((a0B 64 (w6.2.2.2.2.1,w6.2.2.2.1,wrap .i64 (w6.2.2.2.1+w6.2.2.1),w6.1,w6.2.1)).bind fun y7=>some (.inl (w6.1,w6.2.1,wrap .i64 (w6.2.2.1*2),y7,()))) (some (.inl (w6.1,w6.2.1,wrap .i64 (w6.2.2.1*2),w6.2.2.2.2.1,())))) (some (.inr (s.2.2.2.1,())))
def a1r(x:(Z32×Int×Unit)):Option Z32:=(x0y a0V (x.2.1,x.2.2,20,0,20,x.1,())).bind fun w2=>(a0J (w2.2.2.2.2.1,w2.2.2.2.1,w2.1,w2.2.1)).bind fun y3=>(x0y a0M (w2.1,w2.2.1,w2.2.2.1,y3,())).bind fun w8=>some w8.1
def a3R:FSem:=⟨[.r false (.o Q16),.v QI,.v (.fn 60)],[],a1r⟩
def H95:Hints:=⟨[(28,[1,.sv 2 (.fn 60),6,7,8,.own 0 pinned Q16],[Qe 0 [1,.sv 2 (.fn 60),6,7,.own 0 pinned Q16]]),(62,[1,.sv 2 (.fn 60),6,.own 0 pinned Q16],[Qe 2 [.own 0 pinned Q16]]),(3988,[1,.sv 2 (.fn 60),6,7,8,.own 0 pinned Q16],[Qe 4 [1,.sv 2 (.fn 60),6,7,.own 0 pinned Q16]])],[],[]⟩
def a0O(x:Z42):Option Z32:=(a1r (x.1,(x.1.length:Int),x.2)).bind fun y1=>some y1
def a2p:FSem:=⟨[.r false (.o Q16),.v (.fn 60)],[],a0O⟩
def a2Q(s:(Z41×Int×Z41×Int×Int×Z32×Int×Int×Unit)):Option ((Z41×Int×Z41×Int×Int×Z32×Int×Int×Unit) ⊕ ((Z41×Z41×Int×Int×Unit) ⊕ Z46)):=cond (decide (s.2.2.2.2.2.2.2.1<s.2.2.2.2.2.2.1)) ((n0p s.2.2.2.2.2.1 s.2.2.2.2.2.2.2.1).bind fun x3=>(a4g x3).bind fun y4=>(show Option (Z41×Int×Z41×Int×Int×Z32×Z6)from cond (y4.2 != 0) (some (s.1,s.2.1,s.2.2.1,s.2.2.2.1,s.2.2.2.2.1,s.2.2.2.2.2.1,s.2.2.2.2.2.2.1,s.2.2.2.2.2.2.2.1,true,())) (some (s.1,s.2.1,s.2.2.1,s.2.2.2.1,s.2.2.2.2.1,s.2.2.2.2.2.1,s.2.2.2.2.2.2.1,s.2.2.2.2.2.2.2.1,x3.1 != s.2.1,()))).bind fun z5=>cond z5.2.2.2.2.2.2.2.2.1 (some (.inr (Sum.inr ((1,[],()))))) (some (.inl (z5.1,z5.2.1,z5.2.2.1,z5.2.2.2.1,z5.2.2.2.2.1,z5.2.2.2.2.2.1,z5.2.2.2.2.2.2.1,wrap .i64 (z5.2.2.2.2.2.2.2.1+1),())))) (some (.inr (Sum.inl (s.1,s.2.2.1,s.2.2.2.1,s.2.2.2.2.1,()))))
def a3E(s:(Z41×Z41×Int×Int×Unit)):Option ((Z41×Z41×Int×Int×Unit) ⊕ ((Z41×Unit) ⊕ Z46)):=cond (decide (s.2.2.2.1<s.2.2.1)) ((n0p s.2.1 s.2.2.2.1).bind fun x2=>(x0y a2Q (s.1,s.2.2.2.1,s.2.1,s.2.2.1,s.2.2.2.1,x2,(x2.length:Int),0,())).bind fun w6=>match w6 with |.inl a7=>some (.inl (a7.1,a7.2.1,a7.2.2.1,wrap .i64 (a7.2.2.2.1+1),())) |.inr b8=>some (.inr (Sum.inr ((b8.1,b8.2.1,()))))) (some (.inr (Sum.inl (s.1,()))))
def a2R(s:(Z32×Z41×Int×Int×Z32×Z50)):Option ((Z32×Z41×Int×Int×Z32×Z50) ⊕ ((Z41×Z50) ⊕ Z46)):=cond (decide (s.2.2.2.2.2.2.1<s.2.2.2.2.2.1)) ((n0p s.2.2.2.2.1 s.2.2.2.2.2.2.1).bind fun x13=>(show Option (Z32×Z41×Int×Int×Z32×Int×Int×Bool×Z32×Z36)from cond (decide (s.2.2.2.2.2.2.1 > 0)) ((n0p s.1 (wrap .i64 (s.2.2.2.2.2.2.1-1))).bind fun x14=>some (s.1,s.2.1,s.2.2.1,s.2.2.2.1,s.2.2.2.2.1,s.2.2.2.2.2.1,s.2.2.2.2.2.2.1,decide (x13.2.1<x14.2.1),s.2.2.2.2.2.2.2.1,x13,())) (some (s.1,s.2.1,s.2.2.1,s.2.2.2.1,s.2.2.2.2.1,s.2.2.2.2.2.1,s.2.2.2.2.2.2.1,false,s.2.2.2.2.2.2.2.1,x13,()))).bind fun z15=>cond z15.2.2.2.2.2.2.2.1 (some (.inr (Sum.inr ((12,[],()))))) ((a3Z z15.2.2.2.2.2.2.2.2.2.1).bind fun y16=>cond (lim ((a00 z15.2.2.2.2.2.2.2.2.1)+1)) (some (.inl (z15.1,z15.2.1,z15.2.2.1,z15.2.2.2.1,z15.2.2.2.2.1,z15.2.2.2.2.2.1,wrap .i64 (z15.2.2.2.2.2.2.1+1),a02 z15.2.2.2.2.2.2.2.2.1 ([y16]:List Z28),()))) none)) (some (.inr (Sum.inl (s.2.1,s.2.2.1,s.2.2.2.1,s.2.2.2.2.2.2.2.1,()))))
def a3F(s:(Z41×Z50)):Option ((Z41×Z50) ⊕ (Z42 ⊕ Z46)):=cond (decide (s.2.2.1<s.2.1)) ((n0p s.1 s.2.2.1).bind fun x12=>(x0y a2R (x12,s.1,s.2.1,s.2.2.1,x12,(x12.length:Int),0,s.2.2.2.1,())).bind fun w17=>match w17 with |.inl a18=>some (.inl (a18.1,a18.2.1,wrap .i64 (a18.2.2.1+1),a18.2.2.2.1,())) |.inr b19=>some (.inr (Sum.inr ((b19.1,b19.2.1,()))))) (some (.inr (Sum.inl (s.2.2.2.1,()))))
def a2L(x:Z41):Option (Z32×Int):=(show Option (Z41×Bool×Unit)from cond (decide ((x.length:Int)<1)) (some (x,true,())) (some (x,decide ((x.length:Int) > 4),()))).bind fun z1=>cond z1.2.1 (some ([],1)) ((x0y a3E (z1.1,z1.1,(z1.1.length:Int),0,())).bind fun w9=>match w9 with |.inl a10=>((x0y a3F (a10.1,(a10.1.length:Int),0,[],())).bind fun w20=>match w20 with |.inl a21=>((a0O (a21.1,())).bind fun y23=>some (y23,0)) |.inr b22=>some (b22.2.1,b22.1)) |.inr b11=>some (b11.2.1,b11.1))
def a9m:FSem:=⟨[.v (.list false (.list false Q16))],[.o Q16,.v QI],a2L⟩
def H17:Hints:=⟨[(58,[.sv 0 (.list false (.list false Q16)),.sv 23 (.list false (.list false Q16)),24,25],[Qe 0 [.sv 0 (.list false (.list false Q16))],Qr [3,.own 2 2 Q16]]),(250,[.sv 51 (.list false (.list false Q16)),52,53,.own 10 10 Q16],[Qe 4 [.own 10 10 Q16],Qr [3,.own 2 2 Q16]]),(14950,[.sv 0 (.list false (.list false Q16)),4,.sv 23 (.list false (.list false Q16)),24,25,.sv 30 (.list false Q16),31,32],[Qe 2 [.sv 0 (.list false (.list false Q16)),.sv 23 (.list false (.list false Q16)),24,25],Qr [3,.own 2 2 Q16]]),(64102,[.sv 12 (.list false Q16),.sv 51 (.list false (.list false Q16)),52,53,.sv 57 (.list false Q16),58,59,.own 10 10 Q16],[Qe 6 [.sv 51 (.list false (.list false Q16)),52,53,.own 10 10 Q16],Qr [3,.own 2 2 Q16]])],[(6,[Qn [.sv 0 (.list false (.list false Q16)),.sv 22 .bool]]),(1913651,[Qn [.sv 0 (.list false (.list false Q16)),4,.sv 23 (.list false (.list false Q16)),24,25,.sv 30 (.list false Q16),31,32,.sv 48 .bool]]),(8205106,[Qn [.sv 12 (.list false Q16),.sv 51 (.list false (.list false Q16)),52,53,.sv 57 (.list false Q16),58,59,.sv 76 .bool,.own 10 10 Q16,.box 14 Q16,Qp 14 14]])],[(21,[.x,.x,.x,.q,.q,.v,.v,.v,.v,.v,.v,.x,.x])]⟩
def a3s(s:(Int×Z32×Int×Int×Z0)):Option ((Int×Z32×Int×Int×Z0) ⊕ ((Int×Z0) ⊕ Z44)):=cond (decide (s.2.2.2.1<s.2.2.1)) ((n0p s.2.1 s.2.2.2.1).bind fun x2=>(a4g x2).bind fun y3=>cond (y3.2 != 0) (some (.inr (Sum.inr ((y3.2,[],()))))) (cond ((decide (0≤s.2.2.2.1))&&(decide (s.2.2.2.1<(s.2.2.2.2.1.length:Int)))) (some (.inl (s.1,s.2.1,s.2.2.1,wrap .i64 (s.2.2.2.1+1),a06 s.2.2.2.2.1 (a01 s.2.2.2.1) y3.1,()))) none)) (some (.inr (Sum.inl (s.1,s.2.2.2.2.1,()))))
def a3t(s:(Int×(LI×Z64))):Option ((Int×(LI×Z64)) ⊕ (Z64 ⊕ Z44)):=cond (decide (s.2.2.1<(s.2.1.length:Int))) (cond (decide ((wrap .i64 (s.1+(s.2.2.2.2.2.1.length:Int))) > 2147483647)) (some (.inr (Sum.inr ((4,[],()))))) (cond ((decide (0≤(x0v (wrap .i64 (s.2.2.1+252)) (s.2.1.length:Int))))&&(decide ((x0v (wrap .i64 (s.2.2.1+252)) (s.2.1.length:Int))≤(s.2.1.length:Int)))) (cond ((decide (0≤s.2.2.1))&&(decide (s.2.2.1≤((a01 (x0v (wrap .i64 (s.2.2.1+252)) (s.2.1.length:Int)):Nat):Int)))) ((a2d (a05 (a01 s.2.2.1) (a03 (a01 (x0v (wrap .i64 (s.2.2.1+252)) (s.2.1.length:Int))) s.2.1))).bind fun y7=>cond (lim ((a00 s.2.2.2.2.2.1)+1)) (some (.inl (s.1,s.2.1,wrap .i64 (s.2.2.1+252),s.2.2.2.1,s.2.2.2.2.1,a02 s.2.2.2.2.2.1 ([(wrap .i64 (s.1+(s.2.2.2.2.2.1.length:Int)),s.2.2.1==0,(x0v (wrap .i64 (s.2.2.1+252)) (s.2.1.length:Int))==(s.2.1.length:Int),false,y7,())]:List Z27),s.2.2.2.2.2.2.1,()))) none) none) none)) (some (.inr (Sum.inl (s.1,s.2.2.2.1,s.2.2.2.2.1,s.2.2.2.2.2.1,s.2.2.2.2.2.2.1,()))))
def a2E(s:Z64):Option (Z64 ⊕ (Z37 ⊕ Z44)):=cond (decide (s.2.2.1<s.2.1)) (cond ((decide (0≤s.2.2.1))&&(decide (s.2.2.1<(s.2.2.2.2.1.length:Int)))) ((x0y a3t (s.1,a04 s.2.2.2.2.1 (a01 s.2.2.1) [],0,s.2.1,s.2.2.1,s.2.2.2.1,s.2.2.2.2.1,())).bind fun w8=>match w8 with |.inl a9=>some (.inl (a9.1,a9.2.1,wrap .i64 (a9.2.2.1+1),a9.2.2.2.1,a9.2.2.2.2.1,())) |.inr b10=>some (.inr (Sum.inr ((b10.1,b10.2.1,()))))) none) (some (.inr (Sum.inl (s.2.2.2.1,()))))
def a2S(x:(Z32×Int)):Option Z34:=(show Option (Z32×Int×Bool×Unit)from cond (decide (x.2<0)) (some (x.1,x.2,true,())) (some (x.1,x.2,decide (x.2 > 2147483647),()))).bind fun z1=>cond z1.2.2.1 (some ([],1)) (cond ((decide (0≤(z1.1.length:Int)))&&((decide ((z1.1.length:Int)≤(z1.1.length:Int)))&&(lim (a01 (z1.1.length:Int))))) ((x0y a3s (z1.2.1,z1.1,(z1.1.length:Int),0,a17 (a01 (z1.1.length:Int)) [],())).bind fun w4=>match w4 with |.inl a5=>((x0y a2E (a5.1,(a5.2.1.length:Int),0,[],a5.2.1,())).bind fun w11=>match w11 with |.inl a12=>some (a12.1,0) |.inr b13=>some (b13.2.1,b13.1)) |.inr b6=>some (b6.2.1,b6.1)) none)
def a8l:FSem:=⟨[.v (.list false Q16),.v QI],[.o Q14,.v QI],a2S⟩
def H18:Hints:=⟨[(122,[1,.sv 26 (.list false Q16),27,28,.own 6 6 QB],[Qe 0 [1,.own 6 6 QB],Qr [5,.own 4 4 Q14]]),(506,[1,47,48,.own 11 11 Q14,.own 46 6 QB],[Qe 2 [.own 11 11 Q14],Qr [5,.own 4 4 Q14]]),(129638,[1,.sv 13 QB,14,47,48,.own 11 11 Q14,.own 46 6 QB],[Qe 4 [1,47,48,.own 11 11 Q14,.own 46 6 QB],Qr [5,.own 4 4 Q14]])],[(6,[Qn [.sv 0 (.list false Q16),1,.sv 22 .bool]])],[]⟩
def a3p(s:(Int×(LI×Z5))):Option ((Int×(LI×Z5)) ⊕ Z18):=cond (decide (s.2.2.2.2.1<8)) (cond ((bits .u32 .and s.1 1)==1) (some (.inl (bits .u32 .xor (D0r .u32 s.1 1) 3988292384,s.2.1,s.2.2.1,s.2.2.2.1,wrap .i64 (s.2.2.2.2.1+1),()))) (some (.inl (D0r .u32 s.1 1,s.2.1,s.2.2.1,s.2.2.2.1,wrap .i64 (s.2.2.2.2.1+1),())))) (some (.inr (s.1,s.2.1,s.2.2.1,s.2.2.2.1,())))
def a3q(s:Z18):Option (Z18 ⊕ (Int×Unit)):=cond (decide (s.2.2.2.1<s.2.2.1)) ((n0p s.2.1 s.2.2.2.1).bind fun x1=>(x0y a3p (bits .u32 .xor s.1 (wrap .u32 x1),s.2.1,s.2.2.1,s.2.2.2.1,0,())).bind fun w2=>some (.inl (w2.1,w2.2.1,w2.2.2.1,wrap .i64 (w2.2.2.2.1+1),()))) (some (.inr (s.1,())))
def a1l(x:LI):Option Int:=(x0y a3q (4294967295,x,(x.length:Int),0,())).bind fun w3=>some (bits .u32 .xor (IntKind.max .u32) w3.1)
def a6Q:FSem:=⟨[.v QB],[.v (.int .u32)],a1l⟩
def H54:Hints:=⟨[(58,[.sv 3 (.int .u32),.sv 7 QB,8,9],[Qe 0 [.sv 3 (.int .u32)]]),(29902,[.sv 3 (.int .u32),.sv 7 QB,8,9,17],[Qe 2 [.sv 3 (.int .u32),.sv 7 QB,8,9]])],[],[]⟩
def a1M(x:Bool):Option Int:=cond x (some 255) (some 252)
def a7c:FSem:=⟨[.v .bool],[.v QI],a1M⟩
def a2q(x:Z27):Option (LI×Int):=(show Option Z40 from cond (decide (x.1<0)) (some (true,x,())) (cond (decide (x.1 > 2147483647)) (some (true,x,())) (cond (decide ((x.2.2.2.2.1.length:Int)<1)) (some (true,x,())) ((a1M x.2.2.2.1).bind fun y1=>some (decide ((x.2.2.2.2.1.length:Int) > y1),x,()))))).bind fun z2=>cond z2.1 (some ([],1)) ((a1D (z2.2.1.2.1,1)).bind fun y3=>(a1D (z2.2.1.2.2.1,2)).bind fun y4=>(a1D (z2.2.1.2.2.2.1,4)).bind fun y5=>(a1K (wrap .u64 z2.2.1.1,4)).bind fun y6=>cond (lim (3+(a00 y6))) (cond (lim ((a00 (a02 [75,80,bits .u8 .or (bits .u8 .or y3 y4) y5] y6))+1)) (cond (lim ((a00 (a02 (a02 [75,80,bits .u8 .or (bits .u8 .or y3 y4) y5] y6) ([wrap .u8 (z2.2.1.2.2.2.2.1.length:Int)]:List Int)))+(a00 z2.2.1.2.2.2.2.1))) ((a1l (a02 (a02 (a02 [75,80,bits .u8 .or (bits .u8 .or y3 y4) y5] y6) ([wrap .u8 (z2.2.1.2.2.2.2.1.length:Int)]:List Int)) z2.2.1.2.2.2.2.1)).bind fun y7=>(a1K (wrap .u64 y7,4)).bind fun y8=>cond (lim ((a00 (a02 (a02 (a02 [75,80,bits .u8 .or (bits .u8 .or y3 y4) y5] y6) ([wrap .u8 (z2.2.1.2.2.2.2.1.length:Int)]:List Int)) z2.2.1.2.2.2.2.1))+(a00 y8))) (some (a02 (a02 (a02 (a02 [75,80,bits .u8 .or (bits .u8 .or y3 y4) y5] y6) ([wrap .u8 (z2.2.1.2.2.2.2.1.length:Int)]:List Int)) z2.2.1.2.2.2.2.1) y8,0)) none) none) none) none)
def a8m:FSem:=⟨[.v Q14],[.o QV,.v QI],a2q⟩
def H68:Hints:=⟨[],[(6,[Qn [.sv 28 .bool,.vp 1 Q14]])],[(1,[.x,.x,.x,.x,.x,.x,.x,.x,.x,.x,.x,.x,.x,.x,.x,.v,.v,.v,.v,.v,.v,.x,.x]),(3,[.v,.v,.v,.v,.v,.v,.v,.v,.v,.v,.x,.x])]⟩
def a2a(x:Z27):Option Bool:=(a2q x).bind fun y1=>some (y1.2==0)
def a3u:FSem:=⟨[.v Q14],[.v .bool],a2a⟩
def a2y(x:Z27):Option Z27:=cond (lim (a00 x.2.2.2.2.1)) (some (x.1,x.2.1,x.2.2.1,x.2.2.2.1,x.2.2.2.2.1,x.2.2.2.2.2)) none
def a4a:FSem:=⟨[.v Q14],[.v Q14],a2y⟩
def a3A(x:Z27):Option Int:=(show Option Z39 from cond x.2.1 (some (bits .u8 .or 0 1,x,())) (some (0,x,()))).bind fun z1=>(show Option (Int×Unit)from cond z1.2.1.2.2.1 (some (bits .u8 .or z1.1 2,())) (some (z1.1,()))).bind fun z2=>some z2.1
def a8n:FSem:=⟨[.v Q14],[.v QV],a3A⟩
def H98:Hints:=⟨[],[(7,[Qn [.sv 3 QV,.vp 1 Q14]]),(15,[Qn [.sv 3 QV]])],[]⟩
def a4h(s:Z7):Option (Z7 ⊕ Z7):=cond (decide ((s.2.1.length:Int)<(s.1.length:Int))) (cond (lim ((a00 s.2.1)+1)) (some (.inl (s.1,a02 s.2.1 [0],()))) none) (some (.inr (s.1,s.2.1,())))
def a4i(s:Z24):Option (Z24 ⊕ (LI×Unit)):=cond (decide (s.2.2.1<s.2.1)) ((n0p s.1 s.2.2.1).bind fun x2=>cond ((decide (0≤s.2.2.1))&&(decide (s.2.2.1<(s.2.2.2.1.length:Int)))) (cond ((decide (0≤s.2.2.1))&&(decide (s.2.2.1<(s.2.2.2.1.length:Int)))) (some (.inl (s.1,s.2.1,wrap .i64 (s.2.2.1+1),a06 s.2.2.2.1 (a01 s.2.2.1) (bits .u8 .xor (a04 s.2.2.2.1 (a01 s.2.2.1) 0) x2),()))) none) none) (some (.inr (s.2.2.2.1,())))
def a3B(x:(LI×LI)):Option (LI×LI):=(x0y a4h (x.2,x.1,())).bind fun w1=>(x0y a4i (w1.1,(w1.1.length:Int),0,w1.2.1,())).bind fun w3=>some (w3.1,[])
def a8o:FSem:=⟨[.r true (.o QV),.v QB],[.o QV],a3B⟩
def H99:Hints:=⟨[(12,[.sv 1 QB,.own 0 0 QV],[Qe 0 [.sv 1 QB,.own 0 0 QV]]),(58,[.sv 15 QB,16,17,.own 0 0 QV],[Qe 2 [.own 0 0 QV]])],[],[]⟩
def a4j(s:(Z29×Z73)):Option ((Z29×Z73) ⊕ Z70):=cond (decide (s.2.2.2.2.2.1<s.2.2.2.2.1)) ((n0p s.2.2.2.1 s.2.2.2.2.2.1).bind fun x1=>(a3A x1).bind fun y2=>(a3B (s.2.2.2.2.2.2.1,x1.2.2.2.2.1)).bind fun y3=>some (.inl (s.1,bits .u8 .xor s.2.1 y2,bits .u8 .xor s.2.2.1 (wrap .u8 (x1.2.2.2.2.1.length:Int)),s.2.2.2.1,s.2.2.2.2.1,wrap .i64 (s.2.2.2.2.2.1+1),y3.1,s.2.2.2.2.2.2.2.1,()))) (some (.inr (s.1,s.2.1,s.2.2.1,s.2.2.2.2.2.2.1,s.2.2.2.2.2.2.2.1,())))
def a2T(x:Z29):Option Z27:=(x0y a4j (x,0,0,x,(x.length:Int),0,[],(0,false,false,false,[],()),())).bind fun w4=>cond (lim (3+(a00 w4.2.2.2.1))) ((n0p w4.1 0).bind fun x5=>some (x5.1,false,false,true,a02 ([wrap .u8 (w4.1.length:Int),w4.2.1,w4.2.2.1]:List Int) w4.2.2.2.1,())) none
def a8p:FSem:=⟨[.v (.list false Q14)],[.v Q14],a2T⟩
def H67:Hints:=⟨[(122,[.sv 0 (.list false Q14),.sv 3 QV,.sv 4 QV,.sv 9 (.list false Q14),10,11,.own 5 5 QV,.box 2 Q14,Qp 2 2],[Qe 0 [.sv 0 (.list false Q14),.sv 3 QV,.sv 4 QV,.own 5 5 QV,.box 2 Q14,Qp 2 2]])],[],[]⟩
def a2F(s:(Z29×Z29×Int×Int×Unit)):Option ((Z29×Z29×Int×Int×Unit) ⊕ (Z37 ⊕ Z44)):=cond (decide (s.2.2.2.1<s.2.2.1)) ((n0p s.2.1 s.2.2.2.1).bind fun x1=>(show Option (Z29×Int×Z29×Int×Int×Z40)from(a2a x1).bind fun y2=>cond (!y2) (some (s.1,s.2.2.2.1,s.2.1,s.2.2.1,s.2.2.2.1,true,x1,())) (some (s.1,s.2.2.2.1,s.2.1,s.2.2.1,s.2.2.2.1,x1.2.2.2.1,x1,()))).bind fun z3=>cond z3.2.2.2.2.2.1 (some (.inr (Sum.inr ((1,[],()))))) ((show Option (Z29×Z29×Z6)from cond (decide (z3.2.1 > 0)) ((n0p z3.1 (wrap .i64 (z3.2.1-1))).bind fun x4=>some (z3.1,z3.2.2.1,z3.2.2.2.1,z3.2.2.2.2.1,z3.2.2.2.2.2.2.1.1 != (wrap .i64 (x4.1+1)),())) (some (z3.1,z3.2.2.1,z3.2.2.2.1,z3.2.2.2.2.1,false,()))).bind fun z5=>cond z5.2.2.2.2.1 (some (.inr (Sum.inr ((1,[],()))))) (some (.inl (z5.1,z5.2.1,z5.2.2.1,wrap .i64 (z5.2.2.2.1+1),()))))) (some (.inr (Sum.inl (s.1,()))))
def a2G(s:(Z29×Int×Z29×Z29×Z48)):Option ((Z29×Int×Z29×Z29×Z48) ⊕ (Z29×Z67)):=cond (decide (s.2.2.2.2.2.1<s.2.2.2.2.1)) ((n0p s.2.2.2.1 s.2.2.2.2.2.1).bind fun x9=>(a2y x9).bind fun y10=>cond (lim ((a00 s.2.2.2.2.2.2.1)+1)) (some (.inl (s.1,s.2.1,s.2.2.1,s.2.2.2.1,s.2.2.2.2.1,wrap .i64 (s.2.2.2.2.2.1+1),a02 s.2.2.2.2.2.2.1 ([y10]:List Z27),()))) none) (some (.inr (s.1,s.2.1,s.2.2.1,s.2.2.2.2.2.2.1,())))
def a4k(s:(Z29×Z44)):Option ((Z29×Z44) ⊕ Z37):=cond (decide (s.2.1<(s.1.length:Int))) (cond ((decide (0≤(x0v (wrap .i64 (s.2.1+8)) (s.1.length:Int))))&&(decide ((x0v (wrap .i64 (s.2.1+8)) (s.1.length:Int))≤(s.1.length:Int)))) (cond ((decide (0≤s.2.1))&&(decide (s.2.1≤((a01 (x0v (wrap .i64 (s.2.1+8)) (s.1.length:Int)):Nat):Int)))) ((x0y a2G (s.1,s.2.1,a05 (a01 s.2.1) (a03 (a01 (x0v (wrap .i64 (s.2.1+8)) (s.1.length:Int))) s.1),a05 (a01 s.2.1) (a03 (a01 (x0v (wrap .i64 (s.2.1+8)) (s.1.length:Int))) s.1),((a00 (a05 (a01 s.2.1) (a03 (a01 (x0v (wrap .i64 (s.2.1+8)) (s.1.length:Int))) s.1)):Nat):Int),0,s.2.2.1,())).bind fun w11=>(a2T w11.2.2.1).bind fun y12=>cond (lim ((a00 w11.2.2.2.1)+1)) (some (.inl (w11.1,wrap .i64 (w11.2.1+8),a02 w11.2.2.2.1 ([y12]:List Z27),()))) none) none) none) (some (.inr (s.2.2.1,())))
def a2U(x:Z29):Option Z34:=(x0y a2F (x,x,(x.length:Int),0,())).bind fun w6=>match w6 with |.inl a7=>((x0y a4k (a7.1,0,[],())).bind fun w13=>some (w13.1,0)) |.inr b8=>some (b8.2.1,b8.1)
def a8q:FSem:=⟨[.v (.list false Q14)],[.o Q14,.v QI],a2U⟩
def H19:Hints:=⟨[(26,[.sv 0 (.list false Q14),.sv 11 (.list false Q14),12,13],[Qe 0 [.sv 0 (.list false Q14)],Qr [3,.own 2 2 Q14]]),(122,[.sv 0 (.list false Q14),7,.own 6 6 Q14],[Qe 2 [.own 6 6 Q14]]),(31306,[.sv 0 (.list false Q14),7,.sv 8 (.list false Q14),.sv 54 (.list false Q14),55,56,.own 6 6 Q14],[Qe 4 [.sv 0 (.list false Q14),7,.sv 8 (.list false Q14),.own 6 6 Q14]])],[(3378,[Qn [.sv 0 (.list false Q14),4,.sv 11 (.list false Q14),12,13,.sv 24 .bool,.box 5 Q14,Qp 5 5]]),(3379,[Qn [.sv 0 (.list false Q14),.sv 11 (.list false Q14),12,13,.sv 38 .bool]])],[(6,[.x,.x,.x,.q,.q,.v,.v,.v,.v,.v,.v,.v,.x,.x])]⟩
def a3v(s:(Z29×Z9)):Option ((Z29×Z9) ⊕ ((LI×Unit) ⊕ Z2)):=cond (decide (s.2.2.1<s.2.1)) ((n0p s.1 s.2.2.1).bind fun x1=>(a2q x1).bind fun y2=>cond (y2.2 != 0) (some (.inr (Sum.inr ((y2.2,[],()))))) (cond (lim ((a00 s.2.2.2.1)+(a00 y2.1))) (some (.inl (s.1,s.2.1,wrap .i64 (s.2.2.1+1),a02 s.2.2.2.1 y2.1,()))) none)) (some (.inr (Sum.inl (s.2.2.2.1,()))))
def a2V(x:Z29):Option (LI×Int):=(x0y a3v (x,(x.length:Int),0,[],())).bind fun w3=>match w3 with |.inl a4=>some (a4.1,0) |.inr b5=>some (b5.2.1,b5.1)
def a8r:FSem:=⟨[.v (.list false Q14)],[.o QV,.v QI],a2V⟩
def H20:Hints:=⟨[(58,[.sv 9 (.list false Q14),10,11,.own 4 4 QV],[Qe 0 [.own 4 4 QV],Qr [3,.own 2 2 QV]])],[],[]⟩
def a4S(x:(Int×Int×Unit)):Option Bool:=cond (decide (x.1≥1)) (cond (decide (x.1≤1048576)) (cond (decide (x.2.1≥1)) (some (decide (x.2.1≤1048576))) (some false)) (some false)) (some false)
def b0A:FSem:=⟨[.v Q2],[.v .bool],a4S⟩
def a4P(x:Int):Option Bool:=cond (decide (4≤x)) (some (decide (x≤24))) (some false)
def a8d:FSem:=⟨[.v QI],[.v .bool],a4P⟩
def a4Q(x:Z5):Option Bool:=cond (decide (1≤x.1)) (cond (decide (x.1≤1048576)) (cond (decide (1≤x.2.1)) (cond (decide (x.2.1≤8)) ((a4P x.2.2.1).bind fun y1=>some y1) (some false)) (some false)) (some false)) (some false)
def a8e:FSem:=⟨[.v Q6],[.v .bool],a4Q⟩
def a2z(x:(Int×Int)):Option Bool:=cond (decide (x.1≥1)) (some (decide (x.1≤x.2))) (some false)
def a8f:FSem:=⟨[.v QI,.v QI],[.v .bool],a2z⟩
def a3G(x:Z56):Option Bool:=(fun(a:Z5)(b c d e:Int)=>(a4S x.2.1).bind fun y1=>cond (!y1) (some false) (cond (x.1==1) ((a4Q a).bind fun y2=>cond y2 (cond (b==0) (cond (c==0) (cond (d==0) (some (e==0)) (some false)) (some false)) (some false)) (some false)) (cond (x.1==2) ((a2z (b,64)).bind fun y3=>cond y3 ((a2z (c,64)).bind fun y4=>cond y4 ((a2z (d,16)).bind fun y5=>cond y5 ((a2z (e,4)).bind fun y6=>cond y6 (some (eqT Q6 a ((0: Int),(0: Int),(0: Int),()))) (some false)) (some false)) (some false)) (some false)) (some false)))) x.2.2.1 x.2.2.2.1 x.2.2.2.2.1 x.2.2.2.2.2.1 x.2.2.2.2.2.2.1
def b0B:FSem:=⟨[.v Q19],[.v .bool],a3G⟩
def a3d(x:(Int×Int)):Option Bool:=cond (decide (x.1≥0)) (cond (decide (x.1≤1125899906842624)) (cond (decide (x.2≥0)) (some (decide (x.2≤2147483647))) (some false)) (some false)) (some false)
def a6R:FSem:=⟨[.v QI,.v QI],[.v .bool],a3d⟩
def a3H(s:(Int×Z24)):Option ((Int×Z24) ⊕ (Int×Z24)):=(fun(a b c:Int)(d:LI)=>cond (decide (a≥128)) (cond (lim ((a00 d)+1)) (some (.inl (wrap .u64 (a14 a 128),s.2.1,b,c,a02 d [wrap .u8 ((wrap .u8 (a07 a 128))+128)],()))) none) (some (.inr (a,s.2.1,b,c,d,())))) s.1 s.2.2.1 s.2.2.2.1 s.2.2.2.2.1
def a3I(s:Z24):Option (Z24 ⊕ (LI×Unit)):=cond (decide (s.2.2.1<s.2.1)) ((n0p s.1 s.2.2.1).bind fun x1=>(x0y a3H (x1,s.1,s.2.1,s.2.2.1,s.2.2.2.1,())).bind fun w2=>cond (lim ((a00 w2.2.2.2.2.1)+1)) (some (.inl (w2.2.1,w2.2.2.1,wrap .i64 (w2.2.2.2.1+1),a02 w2.2.2.2.2.1 [wrap .u8 w2.1],()))) none) (some (.inr (s.2.2.2.1,())))
def a1v(x:LI):Option LI:=(x0y a3I (x,(x.length:Int),0,[],())).bind fun w3=>some w3.1
def a9n:FSem:=⟨[.v (.list false QU)],[.o QV],a1v⟩
def H70:Hints:=⟨[(58,[.sv 6 (.list false QU),7,8,.own 3 3 QV],[Qe 0 [.own 3 3 QV]]),(14948,[.sv 5 QU,.sv 6 (.list false QU),7,8,.own 3 3 QV],[Qe 2 [.sv 5 QU,.sv 6 (.list false QU),7,8,.own 3 3 QV]])],[],[]⟩
def a3U(x:Int):Option Int:=cond (decide (x≥0)) (some (wrap .u64 (2*(wrap .u64 x)))) (some (wrap .u64 ((wrap .u64 (2*(wrap .u64 (wrap .i64 (0-(wrap .i64 (x+1)))))))+1)))
def a9o:FSem:=⟨[.v QI],[.v QU],a3U⟩
def a3e(s:(Z11×Z11×Int×Int×Unit)):Option ((Z11×Z11×Int×Int×Unit) ⊕ (Z19 ⊕ Z2)):=cond (decide (s.2.2.2.1<s.2.2.1)) ((n0p s.2.1 s.2.2.2.1).bind fun x1=>(show Option (Z11×Z11×Z6)from cond (decide (x1.1<0)) (some (s.1,s.2.1,s.2.2.1,s.2.2.2.1,true,())) (cond (decide (x1.1≥4)) (some (s.1,s.2.1,s.2.2.1,s.2.2.2.1,true,())) ((a3d (x1.2.1,x1.2.2.1)).bind fun y2=>some (s.1,s.2.1,s.2.2.1,s.2.2.2.1,!y2,())))).bind fun z3=>cond z3.2.2.2.2.1 (some (.inr (Sum.inr ((1,[],()))))) (some (.inl (z3.1,z3.2.1,z3.2.2.1,wrap .i64 (z3.2.2.2.1+1),())))) (some (.inr (Sum.inl (s.1,()))))
def a2r(s:(Int×Int×Z11×Z9)):Option ((Int×Int×Z11×Z9) ⊕ (LI×Unit)):=cond (decide (s.2.2.2.2.1<s.2.2.2.1)) ((n0p s.2.2.1 s.2.2.2.2.1).bind fun x8=>(a3U (wrap .i64 (x8.2.1-s.1))).bind fun y9=>(a3U (wrap .i64 (x8.2.2.1-s.2.1))).bind fun y10=>(a1v [wrap .u64 x8.1,y9,y10]).bind fun y11=>cond (lim ((a00 s.2.2.2.2.2.1)+(a00 y11))) (some (.inl (x8.2.1,x8.2.2.1,s.2.2.1,s.2.2.2.1,wrap .i64 (s.2.2.2.2.1+1),a02 s.2.2.2.2.2.1 y11,()))) none) (some (.inr (s.2.2.2.2.2.1,())))
def a3j(x:Z11):Option (LI×Int):=(x0y a3e (x,x,(x.length:Int),0,())).bind fun w4=>match w4 with |.inl a5=>((a1v ([wrap .u64 (a5.1.length:Int)]:List Int)).bind fun y7=>(x0y a2r (0,0,a5.1,(a5.1.length:Int),0,y7,())).bind fun w12=>(a1l w12.1).bind fun y13=>(a1K (wrap .u64 y13,4)).bind fun y14=>cond (lim ((a00 w12.1)+(a00 y14))) (some (a02 w12.1 y14,0)) none) |.inr b6=>some (b6.2.1,b6.1)
def a8g:FSem:=⟨[.v (.list false Q6)],[.o QV,.v QI],a3j⟩
def H21:Hints:=⟨[(26,[.sv 0 (.list false Q6),.sv 12 (.list false Q6),13,14],[Qe 0 [.sv 0 (.list false Q6)],Qr [3,.own 2 2 QV]]),(250,[7,8,.sv 40 (.list false Q6),41,42,.own 6 6 QV],[Qe 2 [.own 6 6 QV]])],[(1689,[Qn [.sv 0 (.list false Q6),.sv 12 (.list false Q6),13,14,.sv 33 .bool]])],[(13,[.q,.q,.q,.v,.q,.q,.v,.v,.v,.v,.v,.v,.v,.q,.q,.x,.x])]⟩
def a1w(x:LI):Option Z10:=cond (lim (a00 x)) (some (x,0,0,())) none
def a9p:FSem:=⟨[.v QB],[.b Q9],a1w⟩
def a1B(x:Z10):Option Z18:=some (wrap .i64 ((x.1.length:Int)-x.2.1),x)
def a5W:FSem:=⟨[.r false (.b Q9)],[.v QI],a1B⟩
def H53:Hints:=⟨[],[],[(1,[.p,.p,.q,.q,.v,.p,.p,.q,.q,.x,.x])]⟩
def a1V(x:(Z10×Int)):Option (LI×Z10):=cond (x.1.2.2.1 != 0) (some ([],x.1)) ((a1B x.1).bind fun y1=>cond (decide ((x0u x.2 0) > y1.1)) (some ([],y1.2.1,y1.2.2.1,3,y1.2.2.2.2)) (cond ((decide (0≤(wrap .i64 (y1.2.2.1+(x0u x.2 0)))))&&(decide ((wrap .i64 (y1.2.2.1+(x0u x.2 0)))≤(y1.2.1.length:Int)))) (cond ((decide (0≤y1.2.2.1))&&(decide (y1.2.2.1≤((a01 (wrap .i64 (y1.2.2.1+(x0u x.2 0))):Nat):Int)))) (cond (lim (a00 (a05 (a01 y1.2.2.1) (a03 (a01 (wrap .i64 (y1.2.2.1+(x0u x.2 0)))) y1.2.1)))) (some (a05 (a01 y1.2.2.1) (a03 (a01 (wrap .i64 (y1.2.2.1+(x0u x.2 0)))) y1.2.1),y1.2.1,wrap .i64 (y1.2.2.1+(x0u x.2 0)),y1.2.2.2)) none) none) none))
def a5X:FSem:=⟨[.r false (.b Q9),.v QI],[.o QV],a1V⟩
def H49:Hints:=⟨[],[],[(7,[.p,.p,.q,.q,.p,.p,.q,.q,.p,.p,.q,.q,.v,.v,.x,.x,.x])]⟩
def a2b(s:(Int×(Int×(Int×(LI×Z20))))):Option ((Int×(Int×(Int×(LI×Z20)))) ⊕ (Int×Z20)):=cond (decide (s.2.2.1<s.2.1)) (cond ((decide (0≤s.2.2.1))&&(decide (s.2.2.1<(s.2.2.2.1.length:Int)))) (some (.inl (wrap .u64 ((wrap .u64 (s.1*256))+(wrap .u64 (a04 s.2.2.2.1 (a01 s.2.2.1) 0))),s.2.1,wrap .i64 (s.2.2.1+1),s.2.2.2.1,s.2.2.2.2.1,()))) none) (some (.inr (s.1,s.2.2.2.2.1,())))
def a0I(x:(Z10×Int)):Option Z18:=(a2c x.2).bind fun y1=>(a1V (x.1,y1)).bind fun y2=>(x0y a2b (0,(y2.1.length:Int),0,y2.1,y2.2,())).bind fun w3=>some (w3.1,w3.2.1)
def a6c:FSem:=⟨[.r false (.b Q9),.v QI],[.v QU],a0I⟩
def H56:Hints:=⟨[(58,[.sv 5 QU,12,13,.own 11 1011 QV,.box pinned Q9],[Qe 0 [.sv 5 QU,.box pinned Q9]])],[],[]⟩
def a2l(x:LI):Option (Z28×Int):=cond (decide ((x.length:Int)<18)) (some ((0,0,0,false,false,[],()),3)) (cond (decide ((x.length:Int) > 65554)) (some ((0,0,0,false,false,[],()),4)) ((a1w x).bind fun y1=>(a0I (y1,1)).bind fun y2=>(a0I (y2.2,1)).bind fun y3=>(a0I (y3.2,8)).bind fun y4=>(a0I (y4.2,8)).bind fun y5=>(show Option (LI×(Int×Int×Int×Int×Bool×Z36))from cond (decide (y2.1≥4)) (some (x,y2.1,y3.1,y4.1,y5.1,true,(0,0,0,false,false,[],()),())) (cond (decide (y3.1 > 3)) (some (x,y2.1,y3.1,y4.1,y5.1,true,(0,0,0,false,false,[],()),())) (cond (decide (y4.1 > 1125899906842624)) (some (x,y2.1,y3.1,y4.1,y5.1,true,(0,0,0,false,false,[],()),())) (some (x,y2.1,y3.1,y4.1,y5.1,decide (y5.1 > 1125899906842624),(0,0,0,false,false,[],()),()))))).bind fun z6=>cond z6.2.2.2.2.2.1 (some ((0,0,0,false,false,[],()),2)) (cond (decide (18≤(z6.1.length:Int))) ((a2d (a05 18 (a03 (a00 z6.1) z6.1))).bind fun y7=>some ((wrap .i64 z6.2.1,wrap .i64 z6.2.2.2.1,wrap .i64 z6.2.2.2.2.1,(bits .u64 .and z6.2.2.1 1) != 0,(bits .u64 .and z6.2.2.1 2) != 0,y7,()),0)) none)))
def a9q:FSem:=⟨[.v QB],[.v Q16,.v QI],a2l⟩
def H73:Hints:=⟨[],[(126,[Qn [.sv 0 QB,.sv 5 QU,.sv 6 QU,.sv 7 QU,.sv 8 QU,.sv 40 .bool,.box 2 Q16,Qp 2 2]])],[]⟩
def a4b(s:(Z29×Int×Z25)):Option ((Z29×Int×Z25) ⊕ Z19):=cond (decide (s.2.2.1<s.2.1)) ((n0p s.1 s.2.2.1).bind fun x1=>cond (!x1.2.1) (some (.inl (s.1,s.2.1,wrap .i64 (s.2.2.1+1),s.2.2.2.1,()))) (cond x1.2.2.2.1 (some (.inl (s.1,s.2.1,wrap .i64 (s.2.2.1+1),s.2.2.2.1,()))) (cond (decide ((x1.2.2.2.2.1.length:Int)<18)) (some (.inl (s.1,s.2.1,wrap .i64 (s.2.2.1+1),s.2.2.2.1,()))) ((a2q x1).bind fun y2=>cond (y2.2 != 0) (some (.inl (s.1,s.2.1,wrap .i64 (s.2.2.1+1),s.2.2.2.1,()))) (cond (decide (18≤(x1.2.2.2.2.1.length:Int))) ((a2l (a03 18 x1.2.2.2.2.1)).bind fun y3=>cond (y3.2 != 0) (some (.inl (s.1,s.2.1,wrap .i64 (s.2.2.1+1),s.2.2.2.1,()))) (cond (!y3.1.2.2.2.1) (some (.inl (s.1,s.2.1,wrap .i64 (s.2.2.1+1),s.2.2.2.1,()))) (cond (lim ((a00 s.2.2.2.1)+1)) (some (.inl (s.1,s.2.1,wrap .i64 (s.2.2.1+1),a02 s.2.2.2.1 ([(y3.1.1,y3.1.2.1,x1.1,())]:List Z5),()))) none))) none))))) (some (.inr (s.2.2.2.1,())))
def a4T(x:Z29):Option Z11:=(x0y a4b (x,(x.length:Int),0,[],())).bind fun w4=>some w4.1
def b0C:FSem:=⟨[.v (.list false Q14)],[.o Q6],a4T⟩
def H22:Hints:=⟨[(58,[.sv 10 (.list false Q14),11,12,.own 3 3 Q6],[Qe 0 [.own 3 3 Q6]])],[],[]⟩
def a3f(s:(Int×Int×Z7)):Option ((Int×Int×Z7) ⊕ (LI×Unit)):=cond (decide (s.2.1<s.1)) (cond ((decide (0≤s.2.1))&&(decide (s.2.1<(s.2.2.2.1.length:Int)))) (cond (lim ((a00 s.2.2.1)+2)) (some (.inl (s.1,wrap .i64 (s.2.1+1),a02 s.2.2.1 [wrap .u8 (96+(D0r .u8 (a04 s.2.2.2.1 (a01 s.2.1) 0) 4)),wrap .u8 (96+(bits .u8 .and (a04 s.2.2.2.1 (a01 s.2.1) 0) 15))],s.2.2.2.1,()))) none) none) (some (.inr (s.2.2.1,())))
def a3k(x:Z29):Option (LI×Int):=(a4T x).bind fun y1=>(a3j y1).bind fun y2=>cond (y2.2 != 0) (some ([],y2.2)) ((x0y a3f ((y2.1.length:Int),0,[],y2.1,())).bind fun w3=>(a1K (wrap .u64 (w3.1.length:Int),4)).bind fun y4=>cond (lim ((a00 w3.1)+(a00 y4))) (cond (lim ((a00 (a02 w3.1 y4))+4)) (some (a02 (a02 w3.1 y4) [75,69,78,68],0)) none) none)
def a8h:FSem:=⟨[.v (.list false Q14)],[.o QV,.v QI],a3k⟩
def H40:Hints:=⟨[(250,[19,20,.own 6 6 QV,.own 18 4 QV],[Qe 0 [.own 6 6 QV]])],[],[]⟩
def a2s(s:(Z60×Z9)):Option ((Z60×Z9) ⊕ (LI×Unit)):=cond (decide (s.2.2.1<s.2.1)) ((n0p s.1 s.2.2.1).bind fun x2=>(a1v [wrap .u64 x2.1,wrap .u64 x2.2.1.1,wrap .u64 x2.2.1.2.1]).bind fun y3=>cond (lim ((a00 s.2.2.2.1)+(a00 y3))) (cond (x2.1==1) ((a1v [wrap .u64 x2.2.2.1.1,wrap .u64 x2.2.2.1.2.1,wrap .u64 x2.2.2.1.2.2.1]).bind fun y4=>cond (lim ((a00 (a02 s.2.2.2.1 y3))+(a00 y4))) (some (.inl (s.1,s.2.1,wrap .i64 (s.2.2.1+1),a02 (a02 s.2.2.2.1 y3) y4,()))) none) ((a1v [wrap .u64 x2.2.2.2.1,wrap .u64 x2.2.2.2.2.1,wrap .u64 x2.2.2.2.2.2.1,wrap .u64 x2.2.2.2.2.2.2.1]).bind fun y5=>cond (lim ((a00 (a02 s.2.2.2.1 y3))+(a00 y5))) (some (.inl (s.1,s.2.1,wrap .i64 (s.2.2.1+1),a02 (a02 s.2.2.2.1 y3) y5,()))) none)) none) (some (.inr (s.2.2.2.1,())))
def a2A(x:Z60):Option LI:=(a1v ([wrap .u64 (x.length:Int)]:List Int)).bind fun y1=>cond (lim (6+(a00 y1))) ((x0y a2s (x,(x.length:Int),0,a02 [75,73,78,79,82,65] y1,())).bind fun w6=>(a1l w6.1).bind fun y7=>(a1K (wrap .u64 y7,4)).bind fun y8=>cond (lim ((a00 w6.1)+(a00 y8))) (some (a02 w6.1 y8)) none) none
def a8i:FSem:=⟨[.v (.list false Q19)],[.o QV],a2A⟩
def H41:Hints:=⟨[(58,[.sv 15 (.list false Q19),16,17,.own 3 3 QV],[Qe 0 [.own 3 3 QV]])],[],[]⟩
def a2H(s:(Z60×Z41×Z60×Int×Int×Unit)):Option ((Z60×Z41×Z60×Int×Int×Unit) ⊕ ((Z60×Z41×Unit) ⊕ Z2)):=cond (decide (s.2.2.2.2.1<s.2.2.2.1)) ((n0p s.2.2.1 s.2.2.2.2.1).bind fun x2=>(a3G x2).bind fun y3=>cond (!y3) (some (.inr (Sum.inr ((1,[],()))))) (some (.inl (s.1,s.2.1,s.2.2.1,s.2.2.2.1,wrap .i64 (s.2.2.2.2.1+1),())))) (some (.inr (Sum.inl (s.1,s.2.1,()))))
def a1N(x:(Z60×Z41)):Option (LI×Int):=(show Option (Z60×Z41×Bool×Unit)from cond (decide ((x.1.length:Int)<1)) (some (x.1,x.2,true,())) (cond (decide ((x.1.length:Int) > 4)) (some (x.1,x.2,true,())) (some (x.1,x.2,(x.2.length:Int) != (x.1.length:Int),())))).bind fun z1=>cond z1.2.2.1 (some ([],1)) ((x0y a2H (z1.1,z1.2.1,z1.1,(z1.1.length:Int),0,())).bind fun w4=>match w4 with |.inl a5=>((a2L a5.2.1).bind fun y7=>cond (y7.2 != 0) (some ([],y7.2)) ((a2S (y7.1,0)).bind fun y8=>cond (y8.2 != 0) (some ([],y8.2)) ((a2U y8.1).bind fun y9=>cond (y9.2 != 0) (some ([],y9.2)) ((a2V y9.1).bind fun y10=>cond (y10.2 != 0) (some ([],y10.2)) ((a3k y9.1).bind fun y11=>cond (y11.2 != 0) (some ([],y11.2)) ((a2A a5.1).bind fun y12=>cond (lim ((a00 y12)+(a00 y10.1))) (cond (lim ((a00 (a02 y12 y10.1))+(a00 y11.1))) (some (a02 (a02 y12 y10.1) y11.1,0)) none) none)))))) |.inr b6=>some (b6.2.1,b6.1))
def a8s:FSem:=⟨[.v (.list false Q19),.v (.list false (.list false Q16))],[.o QV,.v QI],a1N⟩
def H10:Hints:=⟨[(58,[.sv 0 (.list false Q19),.sv 1 (.list false (.list false Q16)),.sv 28 (.list false Q19),29,30],[Qe 0 [.sv 0 (.list false Q19),.sv 1 (.list false (.list false Q16))],Qr [5,.own 4 4 QV]])],[(6,[Qn [.sv 0 (.list false Q19),.sv 1 (.list false (.list false Q16)),.sv 27 .bool]])],[]⟩
def a2M(s:Z18):Option (Z18 ⊕ (Unit ⊕ Z5)):=(fun(a:Int)(b:LI)(c d:Int)=>cond (decide (d<c)) ((n0p b d).bind fun x1=>(show Option (Int×(Int×(Int×(LI×Z6))))from cond (d==9) (cond (decide (x1 > 1)) (some (a,d,x1,b,c,d,true,())) (cond (decide (d > 0)) (some (a,d,x1,b,c,d,x1==0,())) (some (a,d,x1,b,c,d,false,())))) (cond (decide (d > 0)) (some (a,d,x1,b,c,d,x1==0,())) (some (a,d,x1,b,c,d,false,())))).bind fun z2=>cond z2.2.2.2.2.2.2.1 (some (.inr (Sum.inr ((0,0,2,()))))) (cond (decide ((wrap .i64 (7*z2.2.1))<0)) none (cond (decide (z2.2.2.1<128)) (some (.inr (Sum.inr ((bits .u64 .or z2.1 (D0q .u64 (wrap .u64 (a07 z2.2.2.1 128)) (wrap .i64 (7*z2.2.1))),wrap .i64 (z2.2.1+1),0,()))))) (some (.inl (bits .u64 .or z2.1 (D0q .u64 (wrap .u64 (a07 z2.2.2.1 128)) (wrap .i64 (7*z2.2.1))),z2.2.2.2.1,z2.2.2.2.2.1,wrap .i64 (z2.2.2.2.2.2.1+1),())))))) (some (.inr (Sum.inl ())))) s.1 s.2.1 s.2.2.1 s.2.2.2.1
def a3J(x:LI):Option (Int×Int×Int):=(x0y a2M (0,x,(x.length:Int),0,())).bind fun w3=>match w3 with |.inl a4=>some (0,0,3) |.inr b5=>some (b5.1,b5.2.1,b5.2.2.1)
def a7z:FSem:=⟨[.v QB],[.v QU,.v QI,.v QI],a3J⟩
def H92:Hints:=⟨[(58,[.sv 5 QU,.sv 8 QB,9,10],[Qe 0 [],Qr [.sv 2 QU,3,4]])],[(7474,[Qn [.sv 5 QU,6,.sv 7 QV,.sv 8 QB,9,10,.sv 28 .bool]])],[]⟩
def a0D(x:(Z10×Int)):Option Z18:=cond (x.1.2.2.1 != 0) (some (0,x.1)) (cond ((decide (0≤x.1.2.1))&&(decide (x.1.2.1≤(x.1.1.length:Int)))) ((a3J (a05 (a01 x.1.2.1) (a03 (a00 x.1.1) x.1.1))).bind fun y1=>(show Option (Int×Int×Int×Z20)from cond (y1.2.2==0) (cond (decide (y1.1 > x.2)) (some (y1.1,y1.2.1,4,x.1,())) (some (y1.1,y1.2.1,y1.2.2,x.1,()))) (some (y1.1,y1.2.1,y1.2.2,x.1,()))).bind fun z2=>cond (z2.2.2.1 != 0) (some (0,z2.2.2.2.1.1,z2.2.2.2.1.2.1,z2.2.2.1,z2.2.2.2.1.2.2.2)) (some (z2.1,z2.2.2.2.1.1,wrap .i64 (z2.2.2.2.1.2.1+z2.2.1),z2.2.2.2.1.2.2))) none)
def a6d:FSem:=⟨[.r false (.b Q9),.v QU],[.v QU],a0D⟩
def H50:Hints:=⟨[],[(15,[Qn [.sv 5 QU,6,7,.box pinned Q9,Qp 0 pinned]])],[(3,[.p,.p,.q,.q,.p,.p,.q,.q,.x,.x,.x,.v,.v,.v,.v,.v,.x])]⟩
def a3V(x:Z10):Option (Z56×Z10):=(a0D (x,2)).bind fun y1=>(a0D (y1.2,1048576)).bind fun y2=>(a0D (y2.2,1048576)).bind fun y3=>cond ((wrap .i64 y1.1)==1) ((a0D (y3.2,1048576)).bind fun y4=>(a0D (y4.2,8)).bind fun y5=>(a0D (y5.2,24)).bind fun y6=>some ((wrap .i64 y1.1,(wrap .i64 y2.1,wrap .i64 y3.1,()),(wrap .i64 y4.1,wrap .i64 y5.1,wrap .i64 y6.1,()),0,0,0,0,()),y6.2)) ((a0D (y3.2,64)).bind fun y7=>(a0D (y7.2,64)).bind fun y8=>(a0D (y8.2,16)).bind fun y9=>(a0D (y9.2,4)).bind fun y10=>some ((wrap .i64 y1.1,(wrap .i64 y2.1,wrap .i64 y3.1,()),(0,0,0,()),wrap .i64 y7.1,wrap .i64 y8.1,wrap .i64 y9.1,wrap .i64 y10.1,()),y10.2))
def a9r:FSem:=⟨[.r false (.b Q9)],[.v Q19],a3V⟩
def a1Z(x:Z10):Option Z18:=some (x.2.2.1,x)
def a6e:FSem:=⟨[.r false (.b Q9)],[.v QI],a1Z⟩
def a2N(x:Z10):Option Z18:=some (x.2.1,x)
def a6B:FSem:=⟨[.r false (.b Q9)],[.v QI],a2N⟩
def a2W(s:(LI×Z71)):Option ((LI×Z71) ⊕ (LI×Z69)):=cond (decide (s.2.1 > 0)) ((a3V s.2.2.2.1).bind fun y4=>cond (lim ((a00 s.2.2.1)+1)) (some (.inl (s.1,wrap .u64 (s.2.1-1),a02 s.2.2.1 ([y4.1]:List Z56),y4.2,()))) none) (some (.inr (s.1,s.2.2.1,s.2.2.2.1,())))
def a2X(s:(LI×(Int×Z71))):Option ((LI×(Int×Z71)) ⊕ ((LI×Z69) ⊕ (Int×Int×Z60×Unit))):=cond (decide (s.2.2.1<s.2.1)) (cond ((decide (0≤s.2.2.1))&&(decide (s.2.2.1<(s.2.2.2.1.length:Int)))) ((a3G (a04 s.2.2.2.1 (a01 s.2.2.1) (0,(0,0,()),(0,0,0,()),0,0,0,0,()))).bind fun y7=>cond (!y7) (some (.inr (Sum.inr ((0,2,[],()))))) (some (.inl (s.1,s.2.1,wrap .i64 (s.2.2.1+1),s.2.2.2.1,s.2.2.2.2.1,())))) none) (some (.inr (Sum.inl (s.1,s.2.2.2.1,s.2.2.2.2.1,()))))
def a2m(x:LI):Option (Z60×Int×Int):=cond (decide ((x.length:Int)<6)) (some ([],0,3)) (cond (decide (6≤(x.length:Int))) (cond ((b2s (a03 6 x)) != [75,73,78,79,82,65]) (some ([],0,2)) ((a1w x).bind fun y1=>(a1V (y1,6)).bind fun y2=>(a0D (y2.2,4)).bind fun y3=>(x0y a2W (x,y3.1,[],y3.2,())).bind fun w5=>(a1Z w5.2.2.1).bind fun y6=>cond (y6.1 != 0) (some ([],0,y6.1)) (cond ((w5.2.1.length:Int)==0) (some ([],0,2)) ((x0y a2X (w5.1,(w5.2.1.length:Int),0,w5.2.1,y6.2,())).bind fun w8=>match w8 with |.inl a9=>((a1B a9.2.2.1).bind fun y11=>cond (decide (y11.1<4)) (some ([],0,3)) ((a2N y11.2).bind fun y12=>cond ((decide (0≤y12.1))&&(decide (y12.1≤(a9.1.length:Int)))) ((a1l (a03 (a01 y12.1) a9.1)).bind fun y13=>(a0I (y12.2,4)).bind fun y14=>cond (y14.1 != (wrap .u64 y13)) (some ([],0,5)) ((a2N y14.2).bind fun y15=>some (a9.2.1,y15.1,0))) none)) |.inr b10=>some (b10.2.2.1,b10.1,b10.2.1))))) none)
def a9s:FSem:=⟨[.v QB],[.o Q19,.v QI,.v QI],a2m⟩
def H16:Hints:=⟨[(1018,[.sv 0 QB,.sv 7 QU,.own 6 6 Q19,.box 1020 Q9,Qp 5 1020],[Qe 0 [.sv 0 QB,.own 6 6 Q19,.box 1020 Q9,Qp 5 1020]]),(8186,[.sv 0 QB,43,44,.own 6 6 Q19,.box 1020 Q9,Qp 5 1020,.ref 42 6 []],[Qe 2 [.sv 0 QB,.own 6 6 Q19,.box 1020 Q9,Qp 5 1020],Qr [3,4,.own 2 2 Q19]])],[],[]⟩
def a3m(x:(LI×Int)):Option (Z27×Int×Int):=(show Option (LI×(Int×Z40))from cond (decide (x.2<0)) (some (x.1,x.2,true,(0,false,false,false,[],()),())) (some (x.1,x.2,decide (x.2 > (x.1.length:Int)),(0,false,false,false,[],()),()))).bind fun z1=>cond z1.2.2.1 (some ((0,false,false,false,[],()),0,6)) (cond ((decide (0≤z1.2.1))&&(decide (z1.2.1≤(z1.1.length:Int)))) (cond (decide ((a00 (a05 (a01 z1.2.1) (a03 (a00 z1.1) z1.1)):Int)<2)) (some ((0,false,false,false,[],()),0,3)) ((show Option (LI×Z40)from(n0p (a05 (a01 z1.2.1) (a03 (a00 z1.1) z1.1)) 0).bind fun x2=>cond (x2 != 75) (some (a05 (a01 z1.2.1) (a03 (a00 z1.1) z1.1),true,z1.2.2.2.1,())) ((n0p (a05 (a01 z1.2.1) (a03 (a00 z1.1) z1.1)) 1).bind fun x3=>some (a05 (a01 z1.2.1) (a03 (a00 z1.1) z1.1),x3 != 80,z1.2.2.2.1,()))).bind fun z4=>cond z4.2.1 (some ((0,false,false,false,[],()),0,2)) (cond (decide ((z4.1.length:Int)<8)) (some ((0,false,false,false,[],()),0,3)) (cond (decide (8≤(z4.1.length:Int))) ((a1w (a05 2 (a03 8 z4.1))).bind fun y5=>(a0I (y5,1)).bind fun y6=>(a0I (y6.2,4)).bind fun y7=>(a0I (y7.2,1)).bind fun y8=>(show Option (LI×(Int×Int×Int×Bool×Z40))from cond (decide (y6.1 > 7)) (some (z4.1,y6.1,y7.1,wrap .i64 y8.1,(bits .u64 .and y6.1 4) != 0,true,z4.2.2.1,())) (cond (decide (y7.1 > 2147483647)) (some (z4.1,y6.1,y7.1,wrap .i64 y8.1,(bits .u64 .and y6.1 4) != 0,true,z4.2.2.1,())) (cond (decide ((wrap .i64 y8.1)<1)) (some (z4.1,y6.1,y7.1,wrap .i64 y8.1,(bits .u64 .and y6.1 4) != 0,true,z4.2.2.1,())) ((a1M ((bits .u64 .and y6.1 4) != 0)).bind fun y9=>some (z4.1,y6.1,y7.1,wrap .i64 y8.1,(bits .u64 .and y6.1 4) != 0,decide ((wrap .i64 y8.1) > y9),z4.2.2.1,()))))).bind fun z10=>cond z10.2.2.2.2.2.1 (some ((0,false,false,false,[],()),0,2)) (cond (decide ((z10.1.length:Int)<(wrap .i64 ((wrap .i64 (8+z10.2.2.2.1))+4)))) (some ((0,false,false,false,[],()),0,3)) (cond ((decide (0≤(wrap .i64 ((wrap .i64 (8+z10.2.2.2.1))+4))))&&(decide ((wrap .i64 ((wrap .i64 (8+z10.2.2.2.1))+4))≤(z10.1.length:Int)))) (cond ((decide (0≤(wrap .i64 (8+z10.2.2.2.1))))&&(decide ((wrap .i64 (8+z10.2.2.2.1))≤((a01 (wrap .i64 ((wrap .i64 (8+z10.2.2.2.1))+4)):Nat):Int)))) ((a1w (a05 (a01 (wrap .i64 (8+z10.2.2.2.1))) (a03 (a01 (wrap .i64 ((wrap .i64 (8+z10.2.2.2.1))+4))) z10.1))).bind fun y11=>(a0I (y11,4)).bind fun y12=>cond ((decide (0≤(wrap .i64 (8+z10.2.2.2.1))))&&(decide ((wrap .i64 (8+z10.2.2.2.1))≤(z10.1.length:Int)))) ((a1l (a03 (a01 (wrap .i64 (8+z10.2.2.2.1))) z10.1)).bind fun y13=>cond (y12.1 != (wrap .u64 y13)) (some ((0,false,false,false,[],()),0,5)) (cond ((decide (0≤(wrap .i64 (8+z10.2.2.2.1))))&&(decide ((wrap .i64 (8+z10.2.2.2.1))≤(z10.1.length:Int)))) (cond (decide (8≤((a01 (wrap .i64 (8+z10.2.2.2.1)):Nat):Int))) ((a2d (a05 8 (a03 (a01 (wrap .i64 (8+z10.2.2.2.1))) z10.1))).bind fun y14=>some ((wrap .i64 z10.2.2.1,(bits .u64 .and z10.2.1 1) != 0,(bits .u64 .and z10.2.1 2) != 0,z10.2.2.2.2.1,y14,()),wrap .i64 ((wrap .i64 (8+z10.2.2.2.1))+4),0)) none) none)) none) none) none))) none)))) none)
def a9t:FSem:=⟨[.v QB,.v QI],[.v Q14,.v QI,.v QI],a3m⟩
def b3Z:Hints:=⟨[],[(6,[Qn [.sv 0 QB,1,.sv 20 .bool,.box 4 Q14,Qp 4 4]]),(62,[Qn [.sv 0 QB,.sv 38 .bool,.box 4 Q14,Qp 4 4]]),(2046,[Qn [.sv 0 QB,.sv 8 QU,.sv 9 QU,10,.sv 11 .bool,.sv 72 .bool,.box 4 Q14,Qp 4 4]])],[(18,[.v,.v,.v,.v,.v,.q,.w [88,1087,1088],.v,.v,.v,.x,.x,.x])]⟩
def a1I(s:(LI×Z48)):Option ((LI×Z48) ⊕ Z44):=cond (decide (s.2.2.1<(s.1.length:Int))) ((a3m (s.1,s.2.2.1)).bind fun y1=>cond (y1.2.2 != 0) (some (.inl (s.1,wrap .i64 (s.2.1+1),wrap .i64 (s.2.2.1+1),s.2.2.2.1,()))) (cond (lim ((a00 s.2.2.2.1)+1)) (some (.inl (s.1,s.2.1,wrap .i64 (s.2.2.1+y1.2.1),a02 s.2.2.2.1 ([y1.1]:List Z27),()))) none)) (some (.inr (s.2.1,s.2.2.2.1,())))
def a4G(x:LI):Option Z34:=(x0y a1I (x,0,0,[],())).bind fun w2=>some (w2.2.1,w2.1)
def a9u:FSem:=⟨[.v QB],[.o Q14,.v QI],a4G⟩
def H89:Hints:=⟨[(122,[.sv 0 QB,5,6,.own 4 4 Q14],[Qe 0 [5,.own 4 4 Q14]])],[],[]⟩
def a3K(x:Z27):Option Bool:=cond x.2.2.2.1 (cond (decide ((x.2.2.2.2.1.length:Int) > 3)) ((n0p x.2.2.2.2.1 0).bind fun x1=>cond (decide (x1≥1)) ((n0p x.2.2.2.2.1 0).bind fun x2=>some (decide (x2≤8))) (some false)) (some false)) (some false)
def a3L:FSem:=⟨[.v Q14],[.v .bool],a3K⟩
def a1s(mb:Int)(mL:List Z30)(s:(Int×Int×Int×Int×Z29×Z31)):Option ((Int×Int×Int×Int×Z29×Z31) ⊕ Z48):=(n0p s.2.2.2.2.2.1.2.2.2.2.1 0).bind fun x1=>cond (decide (s.2.2.2.1<(wrap .i64 (s.2.2.2.2.2.1.1+(wrap .i64 x1))))) (cond (s.1==mb) (cond (a19 (g0l s.2.2.2.1 mL)) (cond (lim ((a00 s.2.2.2.2.1)+1)) (some (.inl (s.1,s.2.1,s.2.2.1,wrap .i64 (s.2.2.2.1+1),a02 s.2.2.2.2.1 ([Option.getD (g0l s.2.2.2.1 mL) (0,false,false,false,[],())]:List Z27),s.2.2.2.2.2.1,()))) none) (some (.inl (s.1,wrap .i64 (s.2.1+1),s.2.2.2.1,wrap .i64 (s.2.2.2.1+1),s.2.2.2.2.1,s.2.2.2.2.2.1,())))) none) (some (.inr (s.2.1,s.2.2.1,s.2.2.2.2.1,())))
def a1W(mb:Int)(mL:List Z30)(x:(Z27×Int)):Option (Int×Z29×Bool):=(x0y (a1s mb mL) (x.2,0,0,x.1.1,[],x.1,())).bind fun w2=>some (w2.2.1,w2.2.2.1,w2.1==1)
def b4a:Hints:=⟨[(122,[.sv 1 (.hd),8,9,10,.own 7 7 Q14,.vp 2 Q14],[Qe 0 [8,9,.own 7 7 Q14]])],[],[(4,[.v,.v,.v,.v,.v,.v,.v,.v,.v,.x])]⟩
def b2v:Ty:=.pair QI Q10
def a2n(mb:Int)(mL:List Z30):FSem:=⟨[.v Q14,.v (.hd)],[.v QI,.o Q14,.v .bool],a1W mb mL⟩
def b2w(mb:Int)(mL:List Z30):Cx:=⟨b1P,b1O,T0,fun f=>find [] f,fun d=>find ([]:List (Nat×Ty)) d,fun i=>([0,1,4,5,6,7,8,9,10,12]:List Nat).contains i,fun i=>([2]:List Nat).contains i,{ G0 with m:=some ⟨b2v,mb,mL⟩ }⟩
theorem b3A(g:Int)(h:List Z30)(x):D0m (b2w g h) b4a Tryz.f116 (a2n g h).ps (a2n g h).rs x=(a2n g h).F x:=by kernel_rfl
def a6f(s:(Int×Z73)):Option ((Int×Z73) ⊕ (Int×Z53)):=(fun(a:Int)(b:Z29)(c d:Int)(e:LI)(f:Z27)=>cond (decide (d<c)) ((n0p b d).bind fun x3=>(a3A x3).bind fun y4=>(a3B (e,x3.2.2.2.2.1)).bind fun y5=>some (.inl (s.1,bits .u8 .xor s.2.1 y4,bits .u8 .xor a (wrap .u8 (x3.2.2.2.2.1.length:Int)),b,c,wrap .i64 (d+1),y5.1,f,()))) (some (.inr (s.1,s.2.1,a,e,f,())))) s.2.2.1 s.2.2.2.1 s.2.2.2.2.1 s.2.2.2.2.2.1 s.2.2.2.2.2.2.1 s.2.2.2.2.2.2.2.1
def a6g(s:(Int×(Int×(LI×(Int×(LI×(Int×Z39))))))):Option ((Int×(Int×(LI×(Int×(LI×(Int×Z39)))))) ⊕ ((Int×(Int×(LI×Z39))) ⊕ Z40)):=(fun(a:LI)(b:Int)(c:LI)(d e:Int)(f:Z27)=>cond (decide (e<d)) ((n0p c e).bind fun x8=>cond (x8 != 0) (some (.inr (Sum.inr ((false,(0,false,false,false,[],()),()))))) (some (.inl (s.1,s.2.1,a,b,c,d,wrap .i64 (e+1),f,())))) (some (.inr (Sum.inl (s.1,s.2.1,a,b,f,()))))) s.2.2.1 s.2.2.2.1 s.2.2.2.2.1 s.2.2.2.2.2.1 s.2.2.2.2.2.2.1 s.2.2.2.2.2.2.2.1
def a5p(x:(Z27×Z34)):Option (Z27×Bool):=(n0p x.1.2.2.2.2.1 1).bind fun x1=>(n0p x.1.2.2.2.2.1 2).bind fun x2=>cond (decide (3≤(x.1.2.2.2.2.1.length:Int))) (cond (lim (a00 (a05 3 (a03 (a00 x.1.2.2.2.2.1) x.1.2.2.2.2.1)))) ((x0y a6f (x.2.2,x1,x2,x.2.1,(x.2.1.length:Int),0,a05 3 (a03 (a00 x.1.2.2.2.2.1) x.1.2.2.2.2.1),(0,false,false,false,[],()),())).bind fun w6=>(show Option (Int×Int×Int×Bool×Z45)from cond (decide (w6.2.1 > 3)) (some (w6.1,w6.2.1,wrap .i64 w6.2.2.1,true,w6.2.2.2.1,w6.2.2.2.2.1,())) (cond (decide ((wrap .i64 w6.2.2.1)<1)) (some (w6.1,w6.2.1,wrap .i64 w6.2.2.1,true,w6.2.2.2.1,w6.2.2.2.2.1,())) (cond (decide ((wrap .i64 w6.2.2.1) > 252)) (some (w6.1,w6.2.1,wrap .i64 w6.2.2.1,true,w6.2.2.2.1,w6.2.2.2.2.1,())) (some (w6.1,w6.2.1,wrap .i64 w6.2.2.1,decide ((wrap .i64 w6.2.2.1) > (w6.2.2.2.1.length:Int)),w6.2.2.2.1,w6.2.2.2.2.1,()))))).bind fun z7=>cond z7.2.2.2.1 (some ((0,false,false,false,[],()),false)) (cond ((decide (0≤z7.2.2.1))&&(decide (z7.2.2.1≤(z7.2.2.2.2.1.length:Int)))) ((x0y a6g (z7.1,z7.2.1,z7.2.2.2.2.1,z7.2.2.1,a03 ((a00 z7.2.2.2.2.1)-(a01 z7.2.2.1)) (a05 (a01 z7.2.2.1) z7.2.2.2.2.1),(((a00 z7.2.2.2.2.1)-(a01 z7.2.2.1):Nat):Int),0,z7.2.2.2.2.2.1,())).bind fun w9=>match w9 with |.inl a10=>(cond ((decide (0≤a10.2.2.2.1))&&(decide (a10.2.2.2.1≤(a10.2.2.1.length:Int)))) (cond (lim (a00 (a03 (a01 a10.2.2.2.1) a10.2.2.1))) ((a2a (a10.1,(bits .u8 .and a10.2.1 1) != 0,(bits .u8 .and a10.2.1 2) != 0,false,a03 (a01 a10.2.2.2.1) a10.2.2.1,())).bind fun y12=>some ((a10.1,(bits .u8 .and a10.2.1 1) != 0,(bits .u8 .and a10.2.1 2) != 0,false,a03 (a01 a10.2.2.2.1) a10.2.2.1,()),y12)) none) none) |.inr b11=>some (b11.2.1,b11.1)) none)) none) none
def a3w:FSem:=⟨[.v Q14,.v (.list false Q14),.v QI],[.v Q14,.v .bool],a5p⟩
def b4b:Hints:=⟨[(122,[2,.sv 8 QV,.sv 9 QV,.sv 29 (.list false Q14),30,31,.own 10 10 QV,.box 6 Q14,Qp 6 6],[Qe 0 [2,.sv 8 QV,.sv 9 QV,.own 10 10 QV,.box 6 Q14,Qp 6 6]]),(1018,[2,.sv 8 QV,.sv 10 QB,13,.sv 71 QB,72,73,.box 6 Q14,Qp 6 6],[Qe 2 [2,.sv 8 QV,.sv 10 QB,13,.box 6 Q14,Qp 6 6],Qr [.sv 7 .bool,.box 6 Q14,Qp 6 6]])],[(126,[Qn [2,.sv 8 QV,13,.sv 67 .bool,.own 10 10 QV,.box 6 Q14,Qp 6 6]])],[(1,[.v,.v,.v,.v,.v,.v,.v,.v,.v,.x]),(20,[.q,.q,.v,.x,.x])]⟩
def a1m(x:Z37):Option Z29:=cond (decide (a00 x.1<4611686018427387904)&&a2B x.1) (some (a1z x.1)) none
def a1n:FSem:=⟨[.r false (.o Q14),.v (.fn 119)],[],a1m⟩
def a3x(s:(Int×Int×Z29×Int×Int×Z14)):Option ((Int×Int×Z29×Int×Int×Z14) ⊕ (Int×Int×Z14)):=cond (decide (s.2.2.2.2.1<s.2.2.2.1)) ((n0p s.2.2.1 s.2.2.2.2.1).bind fun x1=>(show Option (Int×Z29×Int×Int×Z3×Z31)from cond (decide (x1.1 > s.2.1)) (cond (lim ((a00 s.2.2.2.2.2.1)+1)) (some (s.1,s.2.2.1,s.2.2.2.1,s.2.2.2.2.1,a02 s.2.2.2.2.2.1 ([(s.2.1,wrap .i64 (x1.1-1),())]:List (Int×Int×Unit)),x1,())) none) (some (s.1,s.2.2.1,s.2.2.2.1,s.2.2.2.2.1,s.2.2.2.2.2.1,x1,()))).bind fun z2=>some (.inl (z2.1,wrap .i64 (z2.2.2.2.2.2.1.1+1),z2.2.1,z2.2.2.1,wrap .i64 (z2.2.2.2.1+1),z2.2.2.2.2.1,()))) (some (.inr (s.1,s.2.1,s.2.2.2.2.2.1,())))
def a4l(x:Z34):Option Z3:=(x0y a3x (x.2,0,x.1,(x.1.length:Int),0,[],())).bind fun w3=>(show Option Z14 from cond (decide (w3.1≥w3.2.1)) (cond (lim ((a00 w3.2.2.1)+1)) (some (a02 w3.2.2.1 ([(w3.2.1,w3.1,())]:List (Int×Int×Unit)),())) none) (some (w3.2.2.1,()))).bind fun z4=>some z4.1
def a4m:FSem:=⟨[.v (.list false Q14),.v QI],[.o Q2],a4l⟩
def b4c:Hints:=⟨[(122,[1,6,.sv 9 (.list false Q14),10,11,.own 5 5 Q2],[Qe 0 [1,6,.own 5 5 Q2]])],[(31,[Qn [.own 5 5 Q2]]),(7833,[Qn [1,.sv 9 (.list false Q14),10,11,.own 5 5 Q2,.box 8 Q14,Qp 8 8]])],[]⟩
def a1f(s:((Int×Int×Z29×Z68)×Z43)):Option (((Int×Int×Z29×Z68)×Z43) ⊕ (Z68×Z43)):=cond (decide (s.1.2.2.2.2.1<s.1.2.2.2.1)) ((n0p s.1.2.2.1 s.1.2.2.2.2.1).bind fun x2=>(a2a x2).bind fun y3=>cond (!y3) (some (.inl ((s.1.1,s.1.2.1,s.1.2.2.1,s.1.2.2.2.1,wrap .i64 (s.1.2.2.2.2.1+1),s.1.2.2.2.2.2.1,s.1.2.2.2.2.2.2.1,()),s.2.1,s.2.2))) (cond x2.2.2.2.1 ((a3K x2).bind fun y4=>cond y4 (cond (lim ((a00 s.1.2.2.2.2.2.1)+1)) ((n0p x2.2.2.2.2.1 0).bind fun x5=>some (.inl ((s.1.1,x0u s.1.2.1 (wrap .i64 ((wrap .i64 (x2.1+(wrap .i64 x5)))-1)),s.1.2.2.1,s.1.2.2.2.1,wrap .i64 (s.1.2.2.2.2.1+1),a02 s.1.2.2.2.2.2.1 ([x2]:List Z27),s.1.2.2.2.2.2.2.1,()),s.2.1,s.2.2))) none) (some (.inl ((s.1.1,s.1.2.1,s.1.2.2.1,s.1.2.2.2.1,wrap .i64 (s.1.2.2.2.2.1+1),s.1.2.2.2.2.2.1,s.1.2.2.2.2.2.2.1,()),s.2.1,s.2.2)))) (cond (s.1.1==s.2.1) (cond (a19 (g0l x2.1 s.2.2)) (some (.inl ((s.1.1,s.1.2.1,s.1.2.2.1,s.1.2.2.2.1,wrap .i64 (s.1.2.2.2.2.1+1),s.1.2.2.2.2.2.1,s.1.2.2.2.2.2.2.1,()),s.2.1,s.2.2))) (cond ((s.1.1==s.2.1)&&a20 (g0l x2.1 s.2.2)) ((a2y x2).bind fun y6=>cond (lim ((a00 s.1.2.2.2.2.2.2.1)+1)) (some (.inl ((s.1.1,x0u s.1.2.1 x2.1,s.1.2.2.1,s.1.2.2.2.1,wrap .i64 (s.1.2.2.2.2.1+1),s.1.2.2.2.2.2.1,a02 s.1.2.2.2.2.2.2.1 ([y6]:List Z27),()),s.2.1,s.2.2++[(x2.1,x2)]))) none) none)) none))) (some (.inr ((s.1.1,s.1.2.1,s.1.2.2.2.2.2.1,s.1.2.2.2.2.2.2.1,()),s.2.1,s.2.2)))
def a1g(s:((Int×Int×Z68)×Z43)):Option (((Int×Int×Z68)×Z43) ⊕ (Z44×Z43)):=cond (decide (s.1.2.2.2.1<s.1.2.2.1)) (cond ((decide (0≤s.1.2.2.2.1))&&(decide (s.1.2.2.2.1<(s.1.2.2.2.2.2.1.length:Int)))) ((a1W s.2.1 s.2.2 (a04 s.1.2.2.2.2.2.1 (a01 s.1.2.2.2.1) (0,false,false,false,[],()),s.1.1)).bind fun y8=>cond (!y8.2.2) (some (.inl ((s.1.1,s.1.2.1,s.1.2.2.1,wrap .i64 (s.1.2.2.2.1+1),s.1.2.2.2.2.1,s.1.2.2.2.2.2.1,()),s.2.1,s.2.2))) ((a5p (a04 s.1.2.2.2.2.2.1 (a01 s.1.2.2.2.1) (0,false,false,false,[],()),y8.2.1,y8.1)).bind fun y9=>cond y9.2 (cond ((s.1.1==s.2.1)&&a20 (g0l y8.1 s.2.2)) ((a2y y9.1).bind fun y10=>cond (lim ((a00 s.1.2.2.2.2.1)+1)) (some (.inl ((s.1.1,s.1.2.1,s.1.2.2.1,wrap .i64 (s.1.2.2.2.1+1),a02 s.1.2.2.2.2.1 ([y10]:List Z27),s.1.2.2.2.2.2.1,()),s.2.1,s.2.2++[(y8.1,y9.1)]))) none) none) (some (.inl ((s.1.1,s.1.2.1,s.1.2.2.1,wrap .i64 (s.1.2.2.2.1+1),s.1.2.2.2.2.1,s.1.2.2.2.2.2.1,()),s.2.1,s.2.2))))) none) (some (.inr ((s.1.2.1,s.1.2.2.2.2.1,()),s.2.1,s.2.2)))
def a2f(mb1:Int)(x:Z29):Option (Z29×Z3):=(x0y a1f ((mb1,(-1),x,(x.length:Int),0,[],[],()),mb1,([]:List Z30))).bind fun w7=>(x0y a1g ((w7.1.1,w7.1.2.1,(w7.1.2.2.1.length:Int),0,w7.1.2.2.2.1,w7.1.2.2.1,()),w7.2.1,w7.2.2)).bind fun w11=>(a1m (w11.1.2.1,())).bind fun y12=>(a4l (y12,w11.1.1)).bind fun y13=>some (y12,y13)
def a3W(x:Z29):Option (Z29×Z3):=a2f 0 x
def H90:Hints:=⟨[(250,[.sv 4 (.hd),7,.sv 20 (.list false Q14),21,22,.own 5 5 Q14,.own 6 6 Q14],[Qe 0 [.sv 4 (.hd),7,.own 5 5 Q14,.own 6 6 Q14]]),(506,[.sv 4 (.hd),7,71,72,.own 6 6 Q14,.own 70 5 Q14],[Qe 2 [7,.own 6 6 Q14]])],[],[(11,[.v,.q,.q,.q,.q,.v,.v,.v,.v,.v,.x,.x])]⟩
def b4d:Ty:=.pair QI Q10
def b2W:List PA:=[.v (.list false Q14)]
def b2X:List RA:=[.o Q14,.o Q2]
def b0D(μ:Mu b4d):Cx:=⟨b1P,b1O,T0,fun f=>(match μ with|some p=>find ((116,a2n p.1 p.2)::[(65,a3u),(66,a4a),(115,a3L),(117,a3w),(118,a1n),(120,a4m)]) f|none=>find [(65,a3u),(66,a4a),(115,a3L),(117,a3w),(118,a1n),(120,a4m)] f),fun d=>find ([]:List (Nat×Ty)) d,fun i=>([0,2,3,4,5,6,7,11,14,15,16,18]:List Nat).contains i,fun i=>([]:List Nat).contains i,G0.withM μ⟩
theorem b4e(x):C0b b0D H90 Tryz.f90 b2W b2X x=t0w fun b=>a2f b x:=by kernel_rfl
def a9v:FSem:=⟨b2W,b2X,a3W⟩
def a2o(x:LI):Option (Z29×Z3):=(a4G x).bind fun y1=>(a3W y1.1).bind fun y2=>some (y2.1,y2.2)
def a7A:FSem:=⟨[.v QB],[.o Q14,.o Q2],a2o⟩
def a5G(x:Int):Option Z21:=some (x0u x 0,false,[],0,())
def b0E:FSem:=⟨[.v QI],[.b Q13],a5G⟩
def a1C(x:Z21):Option Z21:=cond x.2.1 (some (x.1,false,[],wrap .i64 (x.2.2.2.1+1),x.2.2.2.2)) (some x)
def a5Y:FSem:=⟨[.r false (.b Q13)],[],a1C⟩
def a1t(x:(Z21×Z27)):Option (Z32×Z3×Z21):=(a2q x.2).bind fun y1=>(show Option (Bool×Z21×Z31)from cond (y1.2 != 0) (some (true,x.1,x.2,())) (cond x.2.2.2.2.1 (some (true,x.1,x.2,())) (some (decide (x.2.1<x.1.1),x.1,x.2,())))).bind fun z2=>cond z2.1 (some ([],[],z2.2.1)) ((show Option (Z3×Z21×Z31)from cond (decide (z2.2.2.1.1 > z2.2.1.1)) ((a1C z2.2.1).bind fun y3=>some (([(z2.2.1.1,wrap .i64 (z2.2.2.1.1-1),())]:List (Int×Int×Unit)),y3,z2.2.2.1,())) (some ([],z2.2.1,z2.2.2.1,()))).bind fun z4=>(show Option (Z3×Z21×Z31)from cond z4.2.2.1.2.1 ((a1C (wrap .i64 (z4.2.2.1.1+1),z4.2.1.2)).bind fun y5=>some (z4.1,(y5.1,true,y5.2.2),z4.2.2.1,())) (some (z4.1,(wrap .i64 (z4.2.2.1.1+1),z4.2.1.2),z4.2.2.1,()))).bind fun z6=>cond (!z6.2.1.2.1) (some ([],z6.1,z6.2.1)) (cond (lim ((a00 z6.2.1.2.2.1)+(a00 z6.2.2.1.2.2.2.2.1))) (cond (decide ((a00 (a02 z6.2.1.2.2.1 z6.2.2.1.2.2.2.2.1):Int) > 65554)) ((a1C (z6.2.1.1,z6.2.1.2.1,a02 z6.2.1.2.2.1 z6.2.2.1.2.2.2.2.1,z6.2.1.2.2.2)).bind fun y7=>some ([],z6.1,y7)) (cond (!z6.2.2.1.2.2.1) (some ([],z6.1,z6.2.1.1,z6.2.1.2.1,a02 z6.2.1.2.2.1 z6.2.2.1.2.2.2.2.1,z6.2.1.2.2.2)) ((a2l (a02 z6.2.1.2.2.1 z6.2.2.1.2.2.2.2.1)).bind fun y8=>cond (y8.2 != 0) none ((show Option (Z3×Z28×Z21×Unit)from some (z6.1,y8.1,(z6.2.1.1,false,[],z6.2.1.2.2.2),())).bind fun z9=>some (([z9.2.1]:List Z28),z9.1,z9.2.2.1))))) none))
def a6C:FSem:=⟨[.r false (.b Q13),.v Q14],[.o Q16,.o Q2],a1t⟩
def H29:Hints:=⟨[],[(13,[Qn [.sv 30 .bool,.box pinned Q13,Qp 0 pinned,.vp 3 Q14]]),(15,[Qn [.own 8 8 Q2,.box pinned Q13,Qp 0 pinned,.vp 3 Q14]]),(63,[Qn [.own 8 8 Q2,.box pinned Q13,Qp 0 pinned,.vp 3 Q14]]),(8191,[Qn [.own 8 8 Q2,.box 9 Q16,.box pinned Q13,Qp 9 9]])],[(2,[.x,.x,.x,.x,.x,.x,.x,.v,.v,.p,.q,.q,.q,.x,.x]),(5,[.v,.v,.p,.p,.q,.q,.x]),(6,[.v,.p,.p,.q,.q,.v,.v,.v,.v,.q,.x,.x]),(14,[.p,.p,.p,.q,.q,.v,.v,.a [77,pinned],.x,.x,.x])]⟩
def a3g(s:(Z29×Int×Int×Z32×Z21×Unit)):Option ((Z29×Int×Int×Z32×Z21×Unit) ⊕ Z42):=cond (decide (s.2.2.1<s.2.1)) ((n0p s.1 s.2.2.1).bind fun x2=>(a1t (s.2.2.2.2.1,x2)).bind fun y3=>cond (lim ((a00 s.2.2.2.1)+(a00 y3.1))) (some (.inl (s.1,s.2.1,wrap .i64 (s.2.2.1+1),a02 s.2.2.2.1 y3.1,y3.2.2,()))) none) (some (.inr (s.2.2.2.1,())))
def a1R(x:(Int×Z29)):Option Z32:=(a5G x.1).bind fun y1=>(x0y a3g (x.2,(x.2.length:Int),0,[],y1,())).bind fun w4=>some w4.1
def a8j:FSem:=⟨[.v QI,.v (.list false Q14)],[.o Q16],a1R⟩
def H43:Hints:=⟨[(122,[.sv 13 (.list false Q14),14,15,.own 6 6 Q16,.box 1012 Q13,Qp 5 1012],[Qe 0 [.own 6 6 Q16]])],[],[]⟩
def a6G(x:LI):Option (Z32×Z3×Int):=(a2m x).bind fun y1=>cond (y1.2.2 != 0) (some ([],[],y1.2.2)) (cond ((decide (0≤y1.2.1))&&(decide (y1.2.1≤(x.length:Int)))) ((a2o (a05 (a01 y1.2.1) (a03 (a00 x) x))).bind fun y2=>(a1R (0,y2.1)).bind fun y3=>some (y3,y2.2,0)) none)
def a9w:FSem:=⟨[.v QB],[.o Q16,.o Q2,.v QI],a6G⟩
def a5u(x:Int):Option Int:=cond ((a07 x 2)==0) (some (wrap .i64 (wrap .u64 (a14 x 2)))) (some (wrap .i64 ((wrap .i64 (0-(wrap .i64 (wrap .u64 (a14 x 2)))))-1)))
def a9x:FSem:=⟨[.v QU],[.v QI],a5u⟩
def a7d(s:(Int×Int×Int×Z11×Z20)):Option ((Int×Int×Int×Z11×Z20) ⊕ ((Z11×Z20) ⊕ Z25)):=(fun(a b:Int)(c:Z11)(d:Z10)=>cond (decide (s.1 > 0)) ((a0D (d,3)).bind fun y7=>(a0D (y7.2,4611686018427387904)).bind fun y8=>(a5u y8.1).bind fun y9=>(a0D (y8.2,4611686018427387904)).bind fun y10=>(a5u y10.1).bind fun y11=>(a1Z y10.2).bind fun y12=>cond (y12.1 != 0) (some (.inr (Sum.inr ((y12.1,[],()))))) ((a3d (wrap .i64 (a+y9),wrap .i64 (b+y11))).bind fun y13=>cond (!y13) (some (.inr (Sum.inr ((2,[],()))))) (cond (lim ((a00 c)+1)) (some (.inl (wrap .u64 (s.1-1),wrap .i64 (a+y9),wrap .i64 (b+y11),a02 c ([(wrap .i64 y7.1,wrap .i64 (a+y9),wrap .i64 (b+y11),())]:List Z5),y12.2,()))) none))) (some (.inr (Sum.inl (c,d,()))))) s.2.1 s.2.2.1 s.2.2.2.1 s.2.2.2.2.1
def a6h(x:LI):Option (Z11×Int):=cond (decide ((x.length:Int)<4)) (some ([],3)) (cond ((decide (0≤(wrap .i64 ((x.length:Int)-4))))&&(decide ((wrap .i64 ((x.length:Int)-4))≤(x.length:Int)))) (cond ((decide (0≤((a00 (a03 (a01 (wrap .i64 ((x.length:Int)-4))) x):Nat):Int)))&&(decide (((a00 (a03 (a01 (wrap .i64 ((x.length:Int)-4))) x):Nat):Int)≤(x.length:Int)))) ((a1w (a05 (a01 ((a00 (a03 (a01 (wrap .i64 ((x.length:Int)-4))) x):Nat):Int)) (a03 (a00 x) x))).bind fun y1=>(a0I (y1,4)).bind fun y2=>(a1l (a03 (a01 (wrap .i64 ((x.length:Int)-4))) x)).bind fun y3=>cond (y2.1 != (wrap .u64 y3)) (some ([],5)) ((a1w (a03 (a01 (wrap .i64 ((x.length:Int)-4))) x)).bind fun y4=>(a0D (y4,wrap .u64 ((a00 (a03 (a01 (wrap .i64 ((x.length:Int)-4))) x):Nat):Int))).bind fun y5=>(a1Z y5.2).bind fun y6=>cond (y6.1 != 0) (some ([],y6.1)) ((x0y a7d (y5.1,0,0,[],y6.2,())).bind fun w14=>match w14 with |.inl a15=>((a1B a15.2.1).bind fun y17=>cond (decide (y17.1 > 0)) (some ([],2)) (some (a15.1,0))) |.inr b16=>some (b16.2.1,b16.1)))) none) none)
def a8t:FSem:=⟨[.v QB],[.o Q6,.v QI],a6h⟩
def H91:Hints:=⟨[(4092,[.sv 6 QU,9,10,.own 8 8 Q6,.box 1032 Q9,Qp 5 1032],[Qe 0 [.own 8 8 Q6,.box 1032 Q9,Qp 5 1032],Qr [3,.own 2 2 Q6]])],[],[]⟩
def a7e(s:(LI×Z10)):Option ((LI×Z10) ⊕ ((LI×Unit) ⊕ Z25)):=(fun(a:LI)(b c:Int)=>cond (decide (c<b)) ((n0p a c).bind fun x4=>(show Option (LI×(LI×Z6))from cond (decide (x4<96)) (some (s.1,a,b,c,true,())) (some (s.1,a,b,c,decide (x4 > 111),()))).bind fun z5=>cond z5.2.2.2.2.1 (some (.inr (Sum.inr ((2,[],()))))) (some (.inl (z5.1,z5.2.1,z5.2.2.1,wrap .i64 (z5.2.2.2.1+1),())))) (some (.inr (Sum.inl (s.1,()))))) s.2.1 s.2.2.1 s.2.2.2.1
def a7f(s:(LI×Z2)):Option ((LI×Z2) ⊕ (LI×Unit)):=cond (decide (s.2.1<(s.1.length:Int))) ((n0p s.1 s.2.1).bind fun x9=>(n0p s.1 (wrap .i64 (s.2.1+1))).bind fun x10=>cond (lim ((a00 s.2.2.1)+1)) (some (.inl (s.1,wrap .i64 (s.2.1+2),a02 s.2.2.1 [bits .u8 .or (D0q .u8 (wrap .u8 (x9-96)) 4) (wrap .u8 (x10-96))],()))) none) (some (.inr (s.2.2.1,())))
def a6i(x:LI):Option (Z11×Int):=cond (decide ((wrap .i64 ((wrap .i64 ((x.length:Int)-4))-4))<0)) (some ([],3)) (cond ((decide (0≤(wrap .i64 ((wrap .i64 ((wrap .i64 ((x.length:Int)-4))-4))+4))))&&(decide ((wrap .i64 ((wrap .i64 ((wrap .i64 ((x.length:Int)-4))-4))+4))≤(x.length:Int)))) (cond ((b2s (a05 (a01 (wrap .i64 ((wrap .i64 ((wrap .i64 ((x.length:Int)-4))-4))+4))) (a03 (a00 x) x))) != [75,69,78,68]) (some ([],2)) (cond ((decide (0≤(wrap .i64 ((wrap .i64 ((x.length:Int)-4))-4))))&&(decide ((wrap .i64 ((wrap .i64 ((x.length:Int)-4))-4))≤(x.length:Int)))) ((a1w (a05 (a01 (wrap .i64 ((wrap .i64 ((x.length:Int)-4))-4))) (a03 (a00 x) x))).bind fun y1=>(a0I (y1,4)).bind fun y2=>(show Option (LI×Z6)from cond ((a07 y2.1 2) != 0) (some (x,wrap .i64 ((wrap .i64 ((x.length:Int)-4))-4),y2.1,true,())) (some (x,wrap .i64 ((wrap .i64 ((x.length:Int)-4))-4),y2.1,decide (y2.1 > (wrap .u64 (wrap .i64 ((wrap .i64 ((x.length:Int)-4))-4)))),()))).bind fun z3=>cond z3.2.2.2.1 (some ([],2)) (cond ((decide (0≤z3.2.1))&&(decide (z3.2.1≤(z3.1.length:Int)))) (cond ((decide (0≤(wrap .i64 (z3.2.1-(wrap .i64 z3.2.2.1)))))&&(decide ((wrap .i64 (z3.2.1-(wrap .i64 z3.2.2.1)))≤((a01 z3.2.1:Nat):Int)))) ((x0y a7e (a05 (a01 (wrap .i64 (z3.2.1-(wrap .i64 z3.2.2.1)))) (a03 (a01 z3.2.1) z3.1),a05 (a01 (wrap .i64 (z3.2.1-(wrap .i64 z3.2.2.1)))) (a03 (a01 z3.2.1) z3.1),(a00 (a05 (a01 (wrap .i64 (z3.2.1-(wrap .i64 z3.2.2.1)))) (a03 (a01 z3.2.1) z3.1)):Int),0,())).bind fun w6=>match w6 with |.inl a7=>((x0y a7f (a7.1,0,[],())).bind fun w11=>(a6h w11.1).bind fun y12=>some (y12.1,y12.2)) |.inr b8=>some (b8.2.1,b8.1)) none) none)) none)) none)
def a8u:FSem:=⟨[.v QB],[.o Q6,.v QI],a6i⟩
def H44:Hints:=⟨[(2042,[.sv 6 QB,.sv 44 QB,45,46],[Qe 0 [.sv 6 QB],Qr [3,.own 2 2 Q6]]),(8186,[.sv 6 QB,10,.own 9 9 QV],[Qe 2 [.own 9 9 QV]])],[(126,[Qn [.sv 0 QB,4,.sv 5 QU,.sv 36 .bool]]),(130713,[Qn [.sv 6 QB,.sv 44 QB,45,46,.sv 55 .bool]])],[(20,[.q,.v,.v,.v,.v,.v,.v,.v,.v,.v,.v,.v,.v,.v,.q,.x,.x])]⟩
def a7g(s:(Int×Int×Bool×Z11×Int×Int×Z38)):Option ((Int×Int×Bool×Z11×Int×Int×Z38) ⊕ (Bool×Z38)):=(fun(a b:Int)(c:Bool)(d:Z11)(e f:Int)(g h:Z5)=>cond (decide (f<e)) ((n0p d f).bind fun x1=>cond (x1.1 != a) (some (.inl (a,b,c,d,e,wrap .i64 (f+1),g,h,()))) (cond (decide (x1.2.1 > b)) (some (.inl (a,b,c,d,e,wrap .i64 (f+1),g,h,()))) ((show Option (Int×Int×Bool×Z11×Int×Int×Int×Int×Bool×Bool×Z5×Z38)from cond (!c) (some (a,b,c,d,e,f,x1.2.1,b,decide (x1.2.1 > b),true,g,h,x1,())) (some (a,b,c,d,e,f,x1.2.1,b,decide (x1.2.1 > b),decide (x1.2.1≥h.2.1),g,h,x1,()))).bind fun z2=>cond z2.2.2.2.2.2.2.2.2.2.1 (some (.inl (z2.1,z2.2.1,true,z2.2.2.2.1,z2.2.2.2.2.1,wrap .i64 (z2.2.2.2.2.2.1+1),z2.2.2.2.2.2.2.2.2.2.2.1,z2.2.2.2.2.2.2.2.2.2.2.2.2.1,()))) (some (.inl (z2.1,z2.2.1,z2.2.2.1,z2.2.2.2.1,z2.2.2.2.2.1,wrap .i64 (z2.2.2.2.2.2.1+1),z2.2.2.2.2.2.2.2.2.2.2.1,z2.2.2.2.2.2.2.2.2.2.2.2.1,())))))) (some (.inr (c,g,h,())))) s.1 s.2.1 s.2.2.1 s.2.2.2.1 s.2.2.2.2.1 s.2.2.2.2.2.1 s.2.2.2.2.2.2.1 s.2.2.2.2.2.2.2.1
def a6j(x:(Z11×Int×Int)):Option (Z5×Bool):=(x0y a7g (x.2.1,x.2.2,false,x.1,(x.1.length:Int),0,(0,0,0,()),(0,0,0,()),())).bind fun w3=>some (w3.2.2.1,w3.1)
def a8v:FSem:=⟨[.v (.list false Q6),.v QI,.v QI],[.v Q6,.v .bool],a6j⟩
def H45:Hints:=⟨[(122,[1,2,.sv 9 .bool,.sv 12 (.list false Q6),13,14,.box 6 Q6,.box 8 Q6,Qp 6 6,Qp 8 8],[Qe 0 [.sv 9 .bool,.box 6 Q6,.box 8 Q6,Qp 6 6,Qp 8 8]])],[(15667,[Qn [1,2,.sv 9 .bool,.sv 12 (.list false Q6),13,14,24,25,.sv 26 .bool,.sv 36 .bool,.box 6 Q6,.box 8 Q6,.box 11 Q6,Qp 6 6,Qp 8 8,Qp 11 11,.ptr 23 11 [.snd,.fst]]])],[]⟩
def a5v(x:(LI×(Int×Int))):Option (Z32×Int):=(fun(a:LI)(b:Int)=>(a2m a).bind fun y1=>cond (y1.2.2 != 0) (some ([],y1.2.2)) ((show Option (LI×(Int×Z6))from cond (decide (b<0)) (some (a,b,x.2.2,y1.2.1,true,())) (cond (decide (b≥(y1.1.length:Int))) (some (a,b,x.2.2,y1.2.1,true,())) (cond (decide (x.2.2<0)) (some (a,b,x.2.2,y1.2.1,true,())) (some (a,b,x.2.2,y1.2.1,decide (x.2.2 > 1125899906842624),()))))).bind fun z2=>cond z2.2.2.2.2.1 (some ([],6)) (cond ((decide (0≤z2.2.2.2.1))&&(decide (z2.2.2.2.1≤(z2.1.length:Int)))) ((a6i (a05 (a01 z2.2.2.2.1) (a03 (a00 z2.1) z2.1))).bind fun y3=>cond (y3.2 != 0) (some ([],y3.2)) ((a6j (y3.1,z2.2.1,z2.2.2.1)).bind fun y4=>cond (!y4.2) (some ([],7)) (cond ((decide (0≤z2.2.2.2.1))&&(decide (z2.2.2.2.1≤(z2.1.length:Int)))) ((a2o (a05 (a01 z2.2.2.2.1) (a03 (a00 z2.1) z2.1))).bind fun y5=>(a1R (y4.1.2.2.1,y5.1)).bind fun y6=>some (y6,0)) none))) none))) x.1 x.2.1
def a9y:FSem:=⟨[.v QB,.v QI,.v QI],[.o Q16,.v QI],a5v⟩
def H13:Hints:=⟨[],[(30,[Qn [.sv 0 QB,1,2,9,.sv 40 .bool]])],[]⟩
def a3h(x:(Z28×Z28)):Option Bool:=cond (x.1.1==x.2.1) (cond (x.1.2.1==x.2.2.1) (cond (x.1.2.2.1==x.2.2.2.1) (cond (x.1.2.2.2.1==x.2.2.2.2.1) (cond (x.1.2.2.2.2.1==x.2.2.2.2.2.1) (some ((b2s x.1.2.2.2.2.2.1)==(b2s x.2.2.2.2.2.2.1))) (some false)) (some false)) (some false)) (some false)) (some false)
def a6S:FSem:=⟨[.v Q16,.v Q16],[.v .bool],a3h⟩
def a2j(s:(Z32×Z32×Int×Unit)):Option ((Z32×Z32×Int×Unit) ⊕ (Unit ⊕ (Bool×Unit))):=cond (decide (s.2.2.1<(s.1.length:Int))) ((n0p s.1 s.2.2.1).bind fun x1=>(n0p s.2.1 s.2.2.1).bind fun x2=>(a3h (x1,x2)).bind fun y3=>cond (!y3) (some (.inr (Sum.inr ((false,()))))) (some (.inl (s.1,s.2.1,wrap .i64 (s.2.2.1+1),())))) (some (.inr (Sum.inl ())))
def a1Q(x:(Z32×Z32)):Option Bool:=cond ((x.1.length:Int) != (x.2.length:Int)) (some false) ((x0y a2j (x.1,x.2,0,())).bind fun w4=>match w4 with |.inl a5=>some true |.inr b6=>some b6.1)
def a6D:FSem:=⟨[.v (.list false Q16),.v (.list false Q16)],[.v .bool],a1Q⟩
def H15:Hints:=⟨[(58,[.sv 0 (.list false Q16),.sv 1 (.list false Q16),5],[Qe 0 [],Qr [.sv 4 .bool]])],[],[(6,[.v,.v,.v,.v,.v,.v,.v,.v,.x,.x])]⟩
def a4n(x:Unit):Option Z56:=some (2,(1,1,()),(0,0,0,()),1,1,1,1,())
def b0F:FSem:=⟨[],[.v Q19],a4n⟩
def a4H(x:Unit):Option Bool:=(a4n ()).bind fun y1=>(a1N (([y1]:List Z56),([[]]:List Z32))).bind fun y2=>(a2m y2.1).bind fun y3=>(a4n ()).bind fun y4=>(a1N (([y4]:List Z56),([([(0,5,0,true,false,[120],())]:List Z28)]:List Z32))).bind fun y5=>(a6G y5.1).bind fun y6=>(a5v (y5.1,0,9)).bind fun y7=>(a5v (y5.1,0,4)).bind fun y8=>cond (y2.2==0) (cond ((y2.1.length:Int)==36) (cond (y3.2.2==0) (cond (y3.2.1==18) (cond ((y3.1.length:Int)==1) (cond (decide (0<(y3.1.length:Int))) ((a4n ()).bind fun y9=>cond (eqT Q19 (a04 y3.1 0 ((0: Int),((0: Int),(0: Int),()),((0: Int),(0: Int),(0: Int),()),(0: Int),(0: Int),(0: Int),(0: Int),())) y9) (cond (y5.2==0) (cond (y6.2.2==0) (cond ((y6.2.1.length:Int)==0) ((a1Q (y6.1,([(0,5,0,true,false,[120],())]:List Z28))).bind fun y10=>cond y10 (cond (y7.2==0) ((a1Q (y7.1,y6.1)).bind fun y11=>cond y11 (some (y8.2==7)) (some false)) (some false)) (some false)) (some false)) (some false)) (some false)) (some false)) none) (some false)) (some false)) (some false)) (some false)) (some false)
def a9z:FSem:=⟨[],[.v .bool],a4H⟩
def H14:Hints:=⟨[],[],[(4,[.v,.v,.q,.v,.v,.x,.x,.q,.q,.q,.x]),(8,[.x,.x,.x,.x,.x,.x,.x,.x,.x,.x,.x,.x,.x,.x,.x,.x,.x,.x,.x,.x,.x,.q,.q,.q,.v,.x,.x,.x,.x,.x,.x,.x,.x,.x,.x,.x,.x,.x,.x,.x,.x,.q,.q,.q,.x,.x,.x,.x,.x,.x,.x,.q,.q,.x,.x,.x,.x,.x,.x,.x])]⟩
def a3M(s:(Int×Int×Z60×Z3×Z41×Z42)):Option ((Int×Int×Z60×Z3×Z41×Z42) ⊕ (Z60×Z3×Z41×Unit)):=cond (decide (s.2.1<s.1)) (cond ((decide (0≤s.2.1))&&(decide (s.2.1<(s.2.2.2.2.2.1.length:Int)))) ((show Option (Int×Int×Bool×Z60×Z3×Z41×Z32×Z36)from cond (decide (((a04 s.2.2.2.2.2.1 (a01 s.2.1) (0,0,0,false,false,[],())).1)≥0)) (some (s.1,s.2.1,decide (((a04 s.2.2.2.2.2.1 (a01 s.2.1) (0,0,0,false,false,[],())).1)<(s.2.2.2.2.1.length:Int)),s.2.2.1,s.2.2.2.1,s.2.2.2.2.1,s.2.2.2.2.2.1,a04 s.2.2.2.2.2.1 (a01 s.2.1) (0,0,0,false,false,[],()),())) (some (s.1,s.2.1,false,s.2.2.1,s.2.2.2.1,s.2.2.2.2.1,s.2.2.2.2.2.1,a04 s.2.2.2.2.2.1 (a01 s.2.1) (0,0,0,false,false,[],()),()))).bind fun z4=>cond z4.2.2.1 (cond ((decide (0≤z4.2.2.2.2.2.2.2.1.1))&&(decide (z4.2.2.2.2.2.2.2.1.1<(z4.2.2.2.2.2.1.length:Int)))) (cond (lim ((a00 (a04 z4.2.2.2.2.2.1 (a01 z4.2.2.2.2.2.2.2.1.1) []))+1)) (cond ((decide (0≤z4.2.2.2.2.2.2.2.1.1))&&(decide (z4.2.2.2.2.2.2.2.1.1<((a00 (a06 z4.2.2.2.2.2.1 (a01 z4.2.2.2.2.2.2.2.1.1) (a02 (a04 z4.2.2.2.2.2.1 (a01 z4.2.2.2.2.2.2.2.1.1) []) ([z4.2.2.2.2.2.2.2.1]:List Z28))):Nat):Int)))) (cond (((a01 z4.2.2.2.2.2.2.2.1.1)==(a01 z4.2.2.2.2.2.2.2.1.1))&&true) (cond (((a01 z4.2.2.2.2.2.2.2.1.1)==(a01 z4.2.2.2.2.2.2.2.1.1))&&true) (some (.inl (z4.1,wrap .i64 (z4.2.1+1),z4.2.2.2.1,z4.2.2.2.2.1,a06 z4.2.2.2.2.2.1 (a01 z4.2.2.2.2.2.2.2.1.1) (a02 (a04 z4.2.2.2.2.2.1 (a01 z4.2.2.2.2.2.2.2.1.1) []) ([z4.2.2.2.2.2.2.2.1]:List Z28)),z4.2.2.2.2.2.2.1,()))) none) none) none) none) none) (some (.inl (z4.1,wrap .i64 (z4.2.1+1),z4.2.2.2.1,z4.2.2.2.2.1,z4.2.2.2.2.2.1,z4.2.2.2.2.2.2.1,())))) none) (some (.inr (s.2.2.1,s.2.2.2.1,s.2.2.2.2.1,())))
def a4I(x:LI):Option (Z60×Z41×Z3×Int):=(a2m x).bind fun y1=>cond (y1.2.2 != 0) (some ([],[],[],y1.2.2)) (cond ((decide (0≤y1.2.1))&&(decide (y1.2.1≤(x.length:Int)))) ((a2o (a05 (a01 y1.2.1) (a03 (a00 x) x))).bind fun y2=>cond ((decide (0≤(y1.1.length:Int)))&&((decide ((y1.1.length:Int)≤(y1.1.length:Int)))&&(lim (a01 (y1.1.length:Int))))) ((a1R (0,y2.1)).bind fun y3=>(x0y a3M ((y3.length:Int),0,y1.1,y2.2,a17 (a01 (y1.1.length:Int)) [],y3,())).bind fun w5=>some (w5.1,w5.2.2.1,w5.2.1,0)) none) none)
def a9A:FSem:=⟨[.v QB],[.o Q19,.o (.list true Q16),.o Q2,.v QI],a4I⟩
def H31:Hints:=⟨[(506,[35,36,.own 6 6 Q19,.own 10 10 Q2,.own 11 11 (.list true Q16),.own 34 1034 Q16],[Qe 0 [.own 6 6 Q19,.own 10 10 Q2,.own 11 11 (.list true Q16)]])],[(32409,[Qn [35,36,.sv 49 .bool,.own 6 6 Q19,.own 10 10 Q2,.own 11 11 (.list true Q16),.own 34 1034 Q16,.box 13 Q16,Qp 13 13]])],[(10,[.s,.t,.t,.q,.q,.q,.q,.q,.q,.q,.b [11,59,60],.x,.x])]⟩
def a2I(s:(Z60×Z60×Int×Unit)):Option ((Z60×Z60×Int×Unit) ⊕ (Unit ⊕ (Bool×Unit))):=cond (decide (s.2.2.1<(s.1.length:Int))) ((n0p s.1 s.2.2.1).bind fun x1=>(n0p s.2.1 s.2.2.1).bind fun x2=>cond (!(eqT Q19 x1 x2)) (some (.inr (Sum.inr ((false,()))))) (some (.inl (s.1,s.2.1,wrap .i64 (s.2.2.1+1),())))) (some (.inr (Sum.inl ())))
def a3y(x:(Z60×Z60)):Option Bool:=cond ((x.1.length:Int) != (x.2.length:Int)) (some false) ((x0y a2I (x.1,x.2,0,())).bind fun w3=>match w3 with |.inl a4=>some true |.inr b5=>some b5.1)
def a7h:FSem:=⟨[.v (.list false Q19),.v (.list false Q19)],[.v .bool],a3y⟩
def H32:Hints:=⟨[(58,[.sv 0 (.list false Q19),.sv 1 (.list false Q19),5],[Qe 0 [],Qr [.sv 4 .bool]])],[],[(6,[.v,.v,.v,.v,.v,.v,.v,.v,.x])]⟩
def a2O(s:(Z41×Z41×Int×Unit)):Option ((Z41×Z41×Int×Unit) ⊕ (Unit ⊕ (Bool×Unit))):=cond (decide (s.2.2.1<(s.1.length:Int))) ((n0p s.1 s.2.2.1).bind fun x1=>(n0p s.2.1 s.2.2.1).bind fun x2=>(a1Q (x1,x2)).bind fun y3=>cond (!y3) (some (.inr (Sum.inr ((false,()))))) (some (.inl (s.1,s.2.1,wrap .i64 (s.2.2.1+1),())))) (some (.inr (Sum.inl ())))
def a3N(x:(Z41×Z41)):Option Bool:=cond ((x.1.length:Int) != (x.2.length:Int)) (some false) ((x0y a2O (x.1,x.2,0,())).bind fun w4=>match w4 with |.inl a5=>some true |.inr b6=>some b6.1)
def a7B:FSem:=⟨[.v (.list false (.list false Q16)),.v (.list false (.list false Q16))],[.v .bool],a3N⟩
def H33:Hints:=⟨[(58,[.sv 0 (.list false (.list false Q16)),.sv 1 (.list false (.list false Q16)),5],[Qe 0 [],Qr [.sv 4 .bool]])],[],[(6,[.v,.v,.v,.v,.v,.v,.v,.v,.x,.x])]⟩
def a4y(x:LI):Option Bool:=(a3Q x).bind fun y1=>(a4F (y1,8)).bind fun y2=>(a1N (y2.1,y2.2.1)).bind fun y3=>(a4I y3.1).bind fun y4=>(a1N (y4.1,y4.2.1)).bind fun y5=>cond (y3.2==0) (cond (y4.2.2.2==0) (cond (y5.2==0) ((a3y (y2.1,y4.1)).bind fun y6=>cond y6 ((a3N (y2.2.1,y4.2.1)).bind fun y7=>cond y7 (cond ((y4.2.2.1.length:Int)==0) (cond ((b2s y3.1)==(b2s y5.1)) ((a4H ()).bind fun y8=>some y8) (some false)) (some false)) (some false)) (some false)) (some false)) (some false)) (some false)
def a4z:FSem:=⟨[.v QL],[.v .bool],a4y⟩
end Go.Ab
namespace Go.Ab
open IntKind(wrap)
section
variable {σ β:Type} {f:σ→Option (σ ⊕ β)}
theorem a5H:∀(n m:Nat)(s:σ){b:β},g0u f n s=some b→g0u f (n+m) s=some b
 |0,_,s,b,h=>by simp[g0u]at h
 |n+1,m,s,b,h=>by
  rw[show n+1+m=n+m+1 from by omega];simp only[g0u]at h⊢
  split at h
  cases h;rename_i s' g;exact a5H n m s' h;exact h
theorem a7J{n m:Nat}{s:σ}{b b':β}(h:g0u f n s=some b)(a:g0u f m s=some b'):b=b':=by
 have c:=a5H n m s h;have g:=a5H m n s a;rw[Nat.add_comm,c]at g;exact Option.some.inj g
theorem b1R{n:Nat}{s:σ}{b:β}(h:g0u f n s=some b):x0z f s=some b:=by
 unfold x0z;have g:∃n b,g0u f n s=some b:=⟨n,b,h⟩;rw[dif_pos g];exact congrArg some (a7J g.choose_spec.choose_spec h)
theorem a5y{n:Nat}{s:σ}{b:β}(h:g0u f n s=some b):x0y f s=some b:=by
 unfold x0y;split;rename_i a g;rw[a7J g h];exact b1R h
theorem a6k{s:σ}(h:∀n,g0u f n s=none):x0y f s=none:=by
 unfold x0y;rw[h 400];show x0z f s=none;unfold x0z;rw[dif_neg]
 rintro⟨n,b,g⟩
 rw[h n]at g;cases g
theorem a1e{s:σ}{b:β}(h:f s=some (.inr b)):x0y f s=some b:=a5y (n:=1) (by simp[g0u,h])
theorem a1x{s s':σ}(h:f s=some (.inl s')):x0y f s=x0y f s':=by
 by_cases hx:∃n b,g0u f n s'=some b
 obtain⟨n,b,a⟩:=hx;rw[a5y a];exact a5y (n:=n+1) (by simp[g0u,h,a])
 ·have g:∀n,g0u f n s'=none:=fun n=>by
   cases hn:g0u f n s' with
   |none=>rfl
   |some b=>exact absurd ⟨n,b,hn⟩ hx
  rw[a6k g];refine a6k fun n=>?_
  cases n with
  |zero=>rfl
  |succ n=>simp[g0u,h,g n]
theorem a9K(S:Nat→σ)(n:Nat){b:β}(g:∀i,i<n→f (S i)=some (.inl (S (i+1))))(h:f (S n)=some (.inr b)):∀(k:Nat),k≤n→x0y f (S (n-k))=some b
 |0,_=>a1e h
 |k+1,hk=>by
  rw[a1x (g (n-(k+1)) (by omega)),show n-(k+1)+1=n-k from by omega];exact a9K S n g h k (by omega)
theorem a0K(S:Nat→σ)(n:Nat){b:β}(g:∀i,i<n→f (S i)=some (.inl (S (i+1))))(h:f (S n)=some (.inr b)):x0y f (S 0)=some b:=by
 have:=a9K S n g h n (Nat.le_refl _)
 rwa [Nat.sub_self]at this
end
theorem wrap64{n:Int}(h:-9223372036854775808≤n∧n≤9223372036854775807):wrap .i64 n=n:=by
 simp only[wrap,IntKind.bits,IntKind.signed]
 simp
 split<;>omega
theorem a3O{n:Int}(h:0≤n∧n<18446744073709551616):wrap .u64 n=n:=by
 simp only[wrap,IntKind.bits,IntKind.signed]
 simp
 omega
theorem a8w(n:Int):wrap .u8 n=n%256:=by
 simp[wrap,IntKind.bits,IntKind.signed]
theorem a9L(x y:Int):x0u x y=max x y:=by
 simp only[x0u,cond_eq_ite,dT]
 split<;>omega
theorem b1i{n:Nat}(h:n<2147483648):lim n=true:=by simp[lim,h]
theorem a7K{σ τ β γ:Type}{f:σ→Option (σ ⊕ β)}{g:τ→Option (τ ⊕ γ)}(φ:σ→τ)(ψ:β→γ)(I:σ→Prop)
  (h:∀s,I s→g (φ s)=(f s).map (Sum.map φ ψ)∧∀s',f s=some (.inl s')→I s'):∀n s,I s→g0u g n (φ s)=(g0u f n s).map ψ
 |0,_,_=>rfl
 |n+1,s,hs=>by
  obtain⟨a,b⟩:=h s hs;simp only[g0u,a];cases hf:f s with
  |none=>rfl
  |some z=>
   cases z with
   |inl s'=>exact a7K φ ψ I h n s' (b s' hf)
   |inr r=>rfl
theorem a7C{α β:Type}{f:α→β}{c:Bool}{a b:Option α}:a16 f (bif c then a else b)=bif c then a16 f a else a16 f b:=by cases c<;>rfl
theorem a6T{σ τ β γ:Type}{f:σ→Option (σ ⊕ β)}{g:τ→Option (τ ⊕ γ)}(φ:σ→τ)(ψ:β→γ)(I:σ→Prop)
  (h:∀s,I s→g (φ s)=(f s).map (Sum.map φ ψ)∧∀s',f s=some (.inl s')→I s'){s:σ}(d:I s):x0y g (φ s)=(x0y f s).map ψ:=by
 have key:=fun n=>a7K φ ψ I h n s d;cases hr:x0y f s with
 |some r=>
  obtain⟨n,a⟩:=s0m hr;have c:=key n;rw[a]at c;exact a5y c
 |none=>
  refine a6k fun n=>?_
  rw[key n];cases a:g0u f n s with
  |none=>rfl
  |some b=>rw[a5y a]at hr;cases hr
theorem a7i(b m:Int)(s)(L):a1s b L (b,s)=(a1s m L (m,s)).map (Sum.map (fun s=>(b,s.2)) id):=by
 simp only[a1s,beq_self_eq_true,cT,a13,a7C,a09,Function.comp_def,a08,a11,Sum.map_inl,Sum.map_inr,id]
theorem a8x{σ β:Type}{e:Option (σ ⊕ β)}{φ:σ→σ}{ψ:β→β}(h:e=e.map (Sum.map φ ψ)){s':σ}(g:e=some (.inl s')):s'=φ s':=by
 rw[g]at h;exact Sum.inl.inj (Option.some.inj h)
theorem a9B(b m:Int)(L)(g):a1W b L (g,b)=a1W m L (g,m):=by
 unfold a1W
 have:=a6T (f:=a1s m L) (g:=a1s b L) (fun s=>(b,s.2)) id (fun s=>s=(m,s.2)) (fun s c=>⟨?_,fun s' h=>?_⟩) (s:=(m,(0,(0,(g.1,([],(g,()))))))) rfl
 rw[Option.map_id,id]at this;exact congrArg (fun z=>Option.bind z _) this;have a:=a7i b m s.2 L;rw[←c]at a;exact a;rw[c]at h;exact a8x (a7i m m s.2 L) h
theorem a9M(b m:Int)(s)(L):a1f ((b,s),(b,L))=(a1f ((m,s),(m,L))).map (Sum.map (fun s=>((b,s.1.2),(b,s.2.2))) (fun r=>((b,r.1.2),(b,r.2.2)))):=by
 simp only[a1f,beq_self_eq_true,cT,a13,a7C,a09,Function.comp_def,a08,a11,Sum.map_inl,Sum.map_inr]
theorem a9N(b m:Int)(s)(L):a1g ((b,s),(b,L))=(a1g ((m,s),(m,L))).map (Sum.map (fun s=>((b,s.1.2),(b,s.2.2))) (fun r=>(r.1,(b,r.2.2)))):=by
 simp only[a1g,a9B b m,beq_self_eq_true,cT,a13,a7C,a09,Function.comp_def,a08,a11,Sum.map_inl,Sum.map_inr]
theorem a9O(b:Int)(s)(L):x0y a1f ((b,s),(b,L))=(x0y a1f ((0,s),(0,L))).map (fun r=>((b,r.1.2),(b,r.2.2))):=
 a6T (f:=a1f) (g:=a1f) (fun s=>((b,s.1.2),(b,s.2.2))) (fun r=>((b,r.1.2),(b,r.2.2))) (fun s=>s=((0,s.1.2),(0,s.2.2))) (fun s c=>⟨by
  have a:=a9M b 0 s.1.2 s.2.2;rw[←c]at a;exact a,fun s' h=>by
  rw[c]at h;exact a8x (a9M 0 0 s.1.2 s.2.2) h⟩) (s:=((0,s),(0,L))) rfl
theorem b2C(b:Int)(s)(L):x0y a1g ((b,s),(b,L))=(x0y a1g ((0,s),(0,L))).map (fun r=>(r.1,(b,r.2.2))):=
 a6T (f:=a1g) (g:=a1g) (fun s=>((b,s.1.2),(b,s.2.2))) (fun r=>(r.1,(b,r.2.2))) (fun s=>s=((0,s.1.2),(0,s.2.2))) (fun s c=>⟨by
  have a:=a9N b 0 s.1.2 s.2.2;rw[←c]at a;exact a,fun s' h=>by
  rw[c]at h;exact a8x (a9N 0 0 s.1.2 s.2.2) h⟩) (s:=((0,s),(0,L))) rfl
theorem b1j(b:Int)(x):a2f b x=a2f 0 x:=by
 unfold a2f;rw[a9O b];have g:=a9O 0 ((-1:Int),(x,(((a00 x:Nat):Int),((0:Int),([],([],())))))) [];cases h:x0y a1f ((0,((-1:Int),(x,(((a00 x:Nat):Int),((0:Int),([],([],()))))))),(0,[]))with
 |none=>rfl
 |some w=>
  rw[h]at g;have f:w=((0,w.1.2),(0,w.2.2)):=Option.some.inj g;simp only[a08,oB];rw[b2C b];rw[f];simp only;cases x0y a1g ((0,(w.1.2.1,(((a00 w.1.2.2.1:Nat):Int),((0:Int),(w.1.2.2.2.1,(w.1.2.2.1,())))))),(0,w.2.2))with
  |none=>rfl
  |some r=>rfl
theorem b2D(x)(y)(h:a3W x=some y)(b:Int):a2f b x=some y:=(b1j b x).trans h
end Go.Ab
