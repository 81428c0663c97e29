/- Part of the proof: It. Conditions: as each statement tells. -/
import Derived.Test.YtlddggjghmobhaaGreatProg
import Derived.KernelRfl
import Derived.Test.YtlddggjghmobhaaGreatMF
noncomputable section
set_option linter.unusedSimpArgs false
set_option linter.unusedVariables false
open Bool renaming true_and→a16
open Int renaming toNat→a02,tmod→a07,tdiv→a17
open List renaming length→a00,append→a01,take→a03,getD→a04,drop→a05,set→a06,replicate→a20
open Option renaming map_some→a08,map_bind→a09,map_none→a13,map→a19,isSome→a23,isNone→a24
namespace Go.Ab
open IntKind(wrap)
open Go.Proofs
set_option maxRecDepth 100000
set_option linter.unusedVariables false
abbrev QI:Ty:=.int .i64
abbrev QL:Ty:=.list false QI
abbrev QU:Ty:=.int .u64
abbrev QV:Ty:=.int .u8
abbrev QB:Ty:=.list false QV
abbrev LI:Type:=List Int
instance (n:Nat):OfNat Ent n:=⟨.sv n QI⟩
@[reducible] def Qp(i n:Nat):Ent:=.ptr i n []
@[reducible] def Qn(l:a0c):Ex×a0c:=(.normal,l)
@[reducible] def Qe(n:Nat)(l:a0c):Ex×a0c:=(.exit n,l)
@[reducible] def Qr(l:a0c):Ex×a0c:=(.ret,l)
def QH:Hints:=⟨[],[],[]⟩
abbrev Z0:Type:=((List LI)×Unit)
abbrev Z1:Type:=(LI×(Int×Unit))
abbrev Z2:Type:=(Int×(LI×Unit))
abbrev Z3:Type:=(List (Int×(Int×Unit)))
abbrev Z4:Type:=(Bool×(LI×Unit))
abbrev Z5:Type:=(Int×(Int×(Int×Unit)))
abbrev Z6:Type:=(Int×(Int×(Bool×Unit)))
abbrev Z7:Type:=(LI×(LI×Unit))
abbrev Z8:Type:=(Z1×Int)
abbrev Z9:Type:=(Int×Z2)
abbrev Z10:Type:=(LI×(Int×(Int×Unit)))
abbrev Z11:Type:=(List Z5)
abbrev Z12:Type:=(Z1×Unit)
abbrev Z13:Type:=(Int×Z5)
abbrev Z14:Type:=(Z3×Unit)
abbrev Z15:Type:=(Bool×Z1)
abbrev Z16:Type:=(Bool×Z4)
abbrev Z17:Type:=(Z5×Unit)
abbrev Z18:Type:=(Int×Z10)
abbrev Z19:Type:=(LI×Z5)
abbrev Z20:Type:=(Z11×Unit)
abbrev Z21:Type:=(Z10×Unit)
abbrev Z22:Type:=(Int×Z14)
abbrev Z23:Type:=(Int×Z15)
abbrev Z24:Type:=(Int×Z16)
abbrev Z25:Type:=(Bool×Z16)
abbrev Z26:Type:=(LI×Z9)
abbrev Z27:Type:=(Int×Z20)
abbrev Z28:Type:=(Int×Z22)
abbrev Z29:Type:=(Int×Z24)
abbrev Z30:Type:=(Z23×Unit)
abbrev Z31:Type:=(Int×Z25)
abbrev Z32:Type:=(Int×Z29)
abbrev Z33:Type:=(List Z31)
abbrev Z34:Type:=(Int×Z31)
abbrev Z35:Type:=(Z31×Unit)
abbrev Z36:Type:=(List Z32)
abbrev Z37:Type:=(Z5×Z13)
abbrev Z38:Type:=(Z33×Int)
abbrev Z39:Type:=(List Z34)
abbrev Z40:Type:=(Z32×Unit)
abbrev Z41:Type:=(Z33×Unit)
abbrev Z42:Type:=(Z5×Z17)
abbrev Z43:Type:=(Int×Z35)
abbrev Z44:Type:=(Bool×Z35)
abbrev Z45:Type:=(List Z36)
abbrev Z46:Type:=(Z36×Int)
abbrev Z47:Type:=(Z36×Unit)
abbrev Z48:Type:=(Int×Z39)
abbrev Z49:Type:=(Int×Z41)
abbrev Z50:Type:=(LI×Z35)
abbrev Z51:Type:=(Z33×(Int×Unit))
abbrev Z52:Type:=(Int×Z43)
abbrev Z53:Type:=(Int×Z47)
abbrev Z54:Type:=(Int×Z50)
abbrev Z55:Type:=(Z33×(Int×(Int×Unit)))
abbrev Z56:Type:=(Int×Z49)
abbrev Z57:Type:=(Z33×Z0)
abbrev Z58:Type:=(Int×Z53)
abbrev Z59:Type:=(Z33×Z3)
abbrev Z60:Type:=(Z33×Z2)
abbrev Z61:Type:=((Int×(Int×Unit))×Z37)
abbrev Z62:Type:=(Unit×Z53)
abbrev Z63:Type:=(Z36×(Int×(Bool×Unit)))
abbrev Z64:Type:=(Int×Z54)
abbrev Z65:Type:=(LI×Z52)
abbrev Z66:Type:=(Int×Z57)
abbrev Z67:Type:=(Int×Z58)
abbrev Z68:Type:=(Z33×Z9)
abbrev Z69:Type:=(List Z63)
abbrev Z70:Type:=(Int×Z61)
abbrev Z71:Type:=(Unit×Z58)
abbrev Z72:Type:=(Int×Z62)
abbrev Z73:Type:=(Int×Z65)
abbrev Z74:Type:=(Int×Z66)
abbrev Z75:Type:=(List Z70)
abbrev Z76:Type:=(Int×Z67)
abbrev Z77:Type:=(Int×Z71)
abbrev Z78:Type:=(Unit×Z67)
abbrev Z79:Type:=(Z69×Unit)
abbrev Z80:Type:=(Int×Z74)
abbrev Z81:Type:=(Int×Z78)
abbrev Z82:Type:=(Int×Z79)
abbrev Z83:Type:=(Z31×Z35)
abbrev Z84:Type:=(Z36×Z30)
abbrev Z85:Type:=(Int×Z82)
abbrev Z86:Type:=(Z33×Z41)
abbrev Z87:Type:=(LI×Z83)
abbrev Z88:Type:=(Int×Z86)
abbrev Z89:Type:=(Z33×Z49)
abbrev Z90:Type:=(Int×Z87)
abbrev Z91:Type:=(Z33×Z55)
abbrev Z92:Type:=(Int×Z88)
abbrev Z93:Type:=(Z75×Z21)
abbrev Z94:Type:=(Z33×Z64)
abbrev Z95:Type:=(Int×Z93)
abbrev Z96:Type:=(Int×Z94)
abbrev Z97:Type:=(Int×Z96)
abbrev Z98:Type:=(Z45×Z82)
abbrev Z99:Type:=(Z45×Z85)
abbrev Q0:Ty:=(.pair QI .unit)
abbrev Q1:Ty:=(.pair QB .unit)
abbrev Q2:Ty:=(.pair QI (.pair .bool .unit))
abbrev Q3:Ty:=(.pair QI Q0)
abbrev Q4:Ty:=(.pair .bool Q1)
abbrev Q5:Ty:=(.pair (.list true QV) Q0)
abbrev Q6:Ty:=(.pair QL Q0)
abbrev Q7:Ty:=(.pair QI Q3)
abbrev Q8:Ty:=(.pair .bool Q4)
abbrev Q9:Ty:=(.pair .bool Q5)
abbrev Q10:Ty:=(.pair QB Q3)
abbrev Q11:Ty:=(.pair .bool Q8)
abbrev Q12:Ty:=(.pair QI Q7)
abbrev Q13:Ty:=(.pair QI Q8)
abbrev Q14:Ty:=(.pair QI Q9)
abbrev Q15:Ty:=(.pair QI Q11)
abbrev Q16:Ty:=(.pair QI Q13)
abbrev Q17:Ty:=(.pair QI Q16)
abbrev Q18:Ty:=(.pair Q7 Q12)
abbrev Q19:Ty:=(.pair (.list false Q17) Q2)
abbrev Q20:Ty:=(.pair Q3 Q18)
abbrev Q21:Ty:=(.pair QI Q20)
def a6Q:List (Nat×Ty):=[(2,.int .i64),(3,.int .i64),(4,.bool),(5,.int .u8),(9,.str),(22,.list false QI),(23,.list false Q21),(24,.list false (.list false Q17)),(29,.list false QV),(30,.int .i64),(34,.list false Q17),(35,.list false Q3),(41,.pair QI Q16),(48,.list false Q15),(54,.list false Q7),(56,.int .u64),(58,.list false .bool),(60,.pair QI Q11),(78,.pair QI Q0),(81,.pair QI Q3),(84,.pair QI Q20),(86,.pair QL Q0),(94,.pair QI Q3),(102,.int .u64),(107,.int .u32),(117,.list false QB),(129,.list false Q19),(131,.pair (.list false Q17) Q2),(140,.pair QI (.pair .bool (.pair QB Q0))),(142,.pair QI Q0),(147,.list false Q3),(152,.pair QB Q3),(162,.list false QU),(182,.pair QI .unit),(195,.int .u64)]
def T0:Nat→Option Ty:=fun t=>find a6Q t
def a7q:List Nat:=[81,84,142]
def b5i:Nat→Bool:=fun t=>a7q.contains t
def a6w:List Nat:=[63]
def b5j:Nat→Bool:=fun t=>a6w.contains t
def b4r:List (Nat×Ty):=[(170,.pair QI Q11)]
def G0:GTab:={ g:=fun g=>find ([]:List (Nat×((t:Ty)×t.den))) g,w:=fun t=>find b4r t }
@[reducible] def b5k(a:List (Nat×FSem))(b:List (Nat×Ty))(c d:Nat):Cx:=⟨b5j,b5i,T0,fun f=>find a f,fun n=>find b n,c.testBit,d.testBit,G0⟩
def a2N(x:(Int×Int×Int)):Option Int:=(show Option (Int×Z6)from cond (decide (x.1≥x.2.1)) (some (x.1,x.2.1,x.2.2,decide (x.1≤x.2.2),())) (some (x.1,x.2.1,x.2.2,false,()))).bind fun z1=>cond z1.2.2.2.1 (some z1.1) (cond ((wrap .i64 ((wrap .i64 (z1.2.2.1-z1.2.1))+1))==0) none ((show Option (Int×Int×Unit)from cond (decide ((a07 z1.1 (wrap .i64 ((wrap .i64 (z1.2.2.1-z1.2.1))+1)))<0)) (some (wrap .i64 ((wrap .i64 ((wrap .i64 ((a07 z1.1 (wrap .i64 ((wrap .i64 (z1.2.2.1-z1.2.1))+1)))+z1.2.2.1))-z1.2.1))+1),z1.2.1,())) (some (a07 z1.1 (wrap .i64 ((wrap .i64 (z1.2.2.1-z1.2.1))+1)),z1.2.1,()))).bind fun z2=>some (wrap .i64 (z2.2.1+z2.1))))
def a7r:FSem:=⟨[.v QI,.v QI,.v QI],[.v QI],a2N⟩
def H11:Hints:=⟨[],[(6,[Qn [0,1,2,.sv 14 .bool]]),(15,[Qn [0,1]])],[]⟩
def a0B(x:Z8):Option (Int×Z1):=(show Option (Int×Bool×Z12)from cond (decide (x.1.2.1≥(x.1.1.length:Int))) (some (x.2,true,x.1,())) (some (x.2,decide (x.2<1),x.1,()))).bind fun z1=>cond z1.2.1 (some (0,z1.2.2.1)) ((n0s z1.2.2.1.1 (wrap .i64 ((wrap .i64 (z1.2.2.1.2.1+1))-1))).bind fun x2=>(a2N (x2,0,1073741824)).bind fun y3=>cond (z1.1==0) none (some (a07 y3 z1.1,z1.2.2.1.1,wrap .i64 (z1.2.2.1.2.1+1),z1.2.2.1.2.2)))
def a6O:FSem:=⟨[.r false (.b Q6),.v QI],[.v QI],a0B⟩
def H36:Hints:=⟨[],[(6,[Qn [1,.sv 18 .bool,.box pinned Q6,Qp 0 pinned]])],[(1,[.p,.p,.q,.q,.p,.p,.q,.q,.v,.x,.x,.x,.x,.x]),(4,[.p,.p,.q,.q,.p,.p,.q,.q,.v,.v,.v,.v,.v,.x,.x])]⟩
def a3s(x:((Int×Unit)×Int)):Option (Int×Int×Unit):=cond (x.2==0) none (some (a07 (E0j .i64 (bits .i64 .and (wrap .i64 ((wrap .i64 (x.1.1*1103515245))+12345)) 2147483647) 8) x.2,bits .i64 .and (wrap .i64 ((wrap .i64 (x.1.1*1103515245))+12345)) 2147483647,x.1.2))
def a6X:FSem:=⟨[.r false (.b Q0),.v QI],[.v QI],a3s⟩
def a2o(s:(Int×(LI×((Int×Unit)×Z12)))):Option ((Int×(LI×((Int×Unit)×Z12))) ⊕ (LI×Z12)):=cond (decide (s.1 > 0)) ((a3s (s.2.2.1,256)).bind fun y3=>cond (lim ((a00 s.2.1)+1)) (some (.inl (wrap .i64 (s.1-1),a01 s.2.1 [wrap .u8 y3.1],y3.2,s.2.2.2.1,()))) none) (some (.inr (s.2.1,s.2.2.2.1,())))
def a1V(x:Z8):Option (LI×Z1):=(a0B (x.1,1048576)).bind fun y1=>(a0B (y1.2,wrap .i64 (x.2+1))).bind fun y2=>(y0h a2o (y2.1,[],(y1.1,()),y2.2,())).bind fun w4=>some (w4.1,w4.2.1)
def a6x:FSem:=⟨[.r false (.b Q6),.v QI],[.o QV],a1V⟩
def b8a:Hints:=⟨[(122,[7,.own 6 6 QV,.box 11 Q0,.box pinned Q6,Qp 5 11],[Qe 0 [.own 6 6 QV,.box pinned Q6]])],[],[]⟩
def a2d(s:(Int×Int×Int×Z36×Z12)):Option ((Int×Int×Int×Z36×Z12) ⊕ (Z36×Z12)):=cond (decide (s.2.2.1 > 0)) ((a0B (s.2.2.2.2.1,50)).bind fun y3=>(a0B (y3.2,3)).bind fun y4=>(a0B (y4.2,8)).bind fun y5=>(a0B (y5.2,3)).bind fun y6=>cond ((decide (0≤y6.1))&&(decide (y6.1<3))) ((a1V (y6.2,a04 [20,300,900] (a02 y6.1) 0)).bind fun y7=>cond (lim ((a00 s.2.2.2.1)+1)) ((a0B (y7.2,60)).bind fun y8=>some (.inl (s.1,wrap .i64 (s.2.1+y8.1),wrap .i64 (s.2.2.1-1),a01 s.2.2.2.1 ([(s.1,s.2.1,y3.1,decide (y4.1 > 0),y5.1==7,y7.1,())]:List Z32),y8.2,()))) none) none) (some (.inr (s.2.2.2.1,s.2.2.2.2.1,())))
def a1N(x:(Z1×Int×Int)):Option (Z36×Z1):=(a0B (x.1,40)).bind fun y1=>(a0B (y1.2,wrap .i64 (x.2.2+1))).bind fun y2=>(y0h a2d (x.2.1,y1.1,y2.1,[],y2.2,())).bind fun w9=>some (w9.1,w9.2.1)
def a6f:FSem:=⟨[.r false (.b Q6),.v QI,.v QI],[.o Q17],a1N⟩
def H85:Hints:=⟨[(122,[1,7,9,.own 8 8 Q17,.box pinned Q6,Qp 0 pinned],[Qe 0 [.own 8 8 Q17,.box pinned Q6]])],[],[]⟩
def a2e(s:(Int×Int×Z45×Z12)):Option ((Int×Int×Z45×Z12) ⊕ (Z45×Z12)):=cond (decide (s.2.1 > 0)) ((a1N (s.2.2.2.1,(s.2.2.1.length:Int),s.1)).bind fun y2=>cond (lim ((a00 s.2.2.1)+1)) (some (.inl (s.1,wrap .i64 (s.2.1-1),a01 s.2.2.1 ([y2.1]:List Z36),y2.2,()))) none) (some (.inr (s.2.2.1,s.2.2.2.1,())))
def a1O(x:Z8):Option (Z45×Z1):=(a0B (x.1,4)).bind fun y1=>(y0h a2e (x.2,wrap .i64 (1+y1.1),[],y1.2,())).bind fun w3=>some (w3.1,w3.2.1)
def a6g:FSem:=⟨[.r false (.b Q6),.v QI],[.o (.list false Q17)],a1O⟩
def H35:Hints:=⟨[(58,[1,6,.own 5 5 (.list false Q17),.box pinned Q6,Qp 0 pinned],[Qe 0 [.own 5 5 (.list false Q17),.box pinned Q6]])],[],[]⟩
def a1J(x:Z1):Option ((Int×Int×Unit)×Z1):=(a0B (x,6)).bind fun y1=>cond ((decide (0≤y1.1))&&(decide (y1.1<6))) (some (a04 ([(1,1,()),(30000,1001,()),(3,7,()),(7,3,()),(1,100,()),(44100,90000,())]:List (Int×Int×Unit)) (a02 y1.1) (0,0,()),y1.2)) none
def a6P:FSem:=⟨[.r false (.b Q6)],[.v Q3],a1J⟩
def a1T(x:Z1):Option (Z5×Z1):=(a0B (x,50000)).bind fun y1=>(a0B (y1.2,3)).bind fun y2=>(a0B (y2.2,4)).bind fun y3=>cond ((decide (0≤y3.1))&&(decide (y3.1<4))) (some ((wrap .i64 (1+y1.1),wrap .i64 (1+y2.1),a04 [16,8,4,24] (a02 y3.1) 0,()),y3.2)) none
def a6k:FSem:=⟨[.r false (.b Q6)],[.v Q7],a1T⟩
def a5L(s:(Int×Z45×Z75×Z12)):Option ((Int×Z45×Z75×Z12) ⊕ (Z45×Z75×Z12)):=cond (decide (s.1<(s.2.1.length:Int))) ((a0B (s.2.2.2.1,2)).bind fun y2=>cond (y2.1==0) ((a1J y2.2).bind fun y3=>(a1T y3.2).bind fun y4=>cond (lim ((a00 s.2.2.1)+1)) (some (.inl (wrap .i64 (s.1+1),s.2.1,a01 s.2.2.1 ([(1,y3.1,y4.1,0,0,0,0,())]:List Z70),y4.2,()))) none) ((a1J y2.2).bind fun y5=>(a0B (y5.2,64)).bind fun y6=>(a0B (y6.2,64)).bind fun y7=>(a0B (y7.2,16)).bind fun y8=>(a0B (y8.2,4)).bind fun y9=>cond (lim ((a00 s.2.2.1)+1)) (some (.inl (wrap .i64 (s.1+1),s.2.1,a01 s.2.2.1 ([(2,y5.1,(0,0,0,()),wrap .i64 (1+y6.1),wrap .i64 (1+y7.1),wrap .i64 (1+y8.1),wrap .i64 (1+y9.1),())]:List Z70),y9.2,()))) none)) (some (.inr (s.2.1,s.2.2.1,s.2.2.2.1,())))
def a5X(x:Z8):Option (Z75×Z45×Z1):=(a1O (x.1,x.2)).bind fun y1=>(y0h a5L (0,y1.1,[],y1.2,())).bind fun w10=>some (w10.2.1,w10.1,w10.2.2.1)
def b2A:FSem:=⟨[.r false (.b Q6),.v QI],[.o Q21,.o (.list false Q17)],a5X⟩
def H8:Hints:=⟨[(122,[8,.own 6 6 (.list false Q17),.own 7 7 Q21,.box pinned Q6,Qp 0 pinned],[Qe 0 [.own 6 6 (.list false Q17),.own 7 7 Q21,.box pinned Q6]])],[],[]⟩
def a4W(x:LI):Option Z1:=some (x,0,())
def a8y:FSem:=⟨[.v QL],[.b Q6],a4W⟩
def a2D(x:Int):Option Int:=some (y0e (y0d x 0) 8)
def b0S:FSem:=⟨[.v QI],[.v QI],a2D⟩
def a3Q(s:(Int×Z9)):Option ((Int×Z9) ⊕ (LI×Unit)):=cond (decide (s.2.2.1<s.2.1)) (cond (lim ((a00 s.2.2.2.1)+1)) (some (.inl (wrap .u64 (a17 s.1 256),s.2.1,wrap .i64 (s.2.2.1+1),a01 s.2.2.2.1 [wrap .u8 (a07 s.1 256)],()))) none) (some (.inr (s.2.2.2.1,())))
def a5f(x:(Int×Int)):Option LI:=(a2D x.2).bind fun y1=>(y0h a3Q (x.1,y1,0,[],())).bind fun w2=>some w2.1
def b0T:FSem:=⟨[.v QU,.v QI],[.o QV],a5f⟩
def b8b:Hints:=⟨[(58,[.sv 0 QU,7,8,.own 5 5 QV],[Qe 0 [.own 5 5 QV]])],[],[]⟩
def a2f(x:LI):Option LI:=cond (decide (a00 x<2147483648)) (some (List.reverse x)) none
def a5K:FSem:=⟨[.r false (.o QV)],[],a2f⟩
def a1U(x:(Int×Int)):Option LI:=(a5f (x.1,x.2)).bind fun y1=>(a2f y1).bind fun y2=>some y2
def b2B:FSem:=⟨[.v QU,.v QI],[.o QV],a1U⟩
def a1M(x:(Bool×Int)):Option Int:=cond x.1 (some x.2) (some 0)
def b2C:FSem:=⟨[.v .bool,.v QV],[.v QV],a1M⟩
def a5s(x:Z32):Option (LI×Int):=(show Option (Bool×Z40)from cond (decide (x.1<0)) (some (true,x,())) (cond (decide (x.1≥4)) (some (true,x,())) (cond (decide (x.2.1<0)) (some (true,x,())) (cond (decide (x.2.1 > 1125899906842624)) (some (true,x,())) (cond (decide (x.2.2.1<0)) (some (true,x,())) (some (decide (x.2.2.1 > 1125899906842624),x,()))))))).bind fun z1=>cond z1.1 (some ([],1)) (cond (decide ((z1.2.1.2.2.2.2.2.1.length:Int) > 65536)) (some ([],4)) ((a1M (z1.2.1.2.2.2.1,1)).bind fun y2=>(a1M (z1.2.1.2.2.2.2.1,2)).bind fun y3=>(a1U (wrap .u64 z1.2.1.2.1,8)).bind fun y4=>cond (lim (2+(a00 y4))) ((a1U (wrap .u64 z1.2.1.2.2.1,8)).bind fun y5=>cond (lim ((a00 (a01 [wrap .u8 z1.2.1.1,bits .u8 .or y2 y3] y4))+(a00 y5))) (cond (lim ((a00 (a01 (a01 [wrap .u8 z1.2.1.1,bits .u8 .or y2 y3] y4) y5))+(a00 z1.2.1.2.2.2.2.2.1))) (some (a01 (a01 (a01 [wrap .u8 z1.2.1.1,bits .u8 .or y2 y3] y4) y5) z1.2.1.2.2.2.2.2.1,0)) none) none) none))
def b3E:FSem:=⟨[.v Q17],[.o QV,.v QI],a5s⟩
def H57:Hints:=⟨[],[(6,[Qn [.sv 32 .bool,.vp 1 Q17]])],[(5,[.v,.v,.v,.v,.v,.v,.v,.v,.v,.v,.x,.x])]⟩
def a2E(x:LI):Option LI:=cond (List.isEmpty x) (m0f (some []) (cond (lim (0+(a00 x))) (some (a01 [] x)) none)) (cond (lim (0+(a00 x))) (some (a01 [] x)) none)
def b0U:FSem:=⟨[.v QB],[.o QV],a2E⟩
def a5g(x:Z32):Option Z32:=(a2E x.2.2.2.2.2.1).bind fun y1=>some (x.1,x.2.1,x.2.2.1,x.2.2.2.1,x.2.2.2.2.1,y1,x.2.2.2.2.2.2)
def b0V:FSem:=⟨[.v Q17],[.v Q17],a5g⟩
def a8L(s:Z18):Option (Z18 ⊕ ((Int×Unit) ⊕ (Int×Unit))):=(fun(a b:Int)=>cond (decide (b<a)) ((n0s s.2.1 b).bind fun x1=>cond (x1 != s.1) (some (.inr (Sum.inr ((x1,()))))) (some (.inl (s.1,s.2.1,a,wrap .i64 (b+1),())))) (some (.inr (Sum.inl (s.1,()))))) s.2.2.1 s.2.2.2.1
def a6h(x:LI):Option Int:=(y0h a8L (0,x,(x.length:Int),0,())).bind fun w2=>match w2 with |.inl a3=>some a3.1 |.inr b4=>some b4.1
def b0W:FSem:=⟨[.v QL],[.v QI],a6h⟩
def H61:Hints:=⟨[(58,[3,.sv 6 QL,7,8],[Qe 0 [3],Qr [2]])],[],[]⟩
def a3f(x:Int):Option Bool:=some (x != x)
def a7T:FSem:=⟨[.v QI],[.v .bool],a3f⟩
def a2O(x:(Int×Int)):Option Int:=(a3f x.1).bind fun y1=>(a3f x.2).bind fun y2=>cond y1 (cond y2 (some 0) (some (-1))) (cond y2 (some 1) (cond (decide (x.1<x.2)) (some (-1)) (cond (decide (x.1 > x.2)) (some 1) (some 0))))
def a7s:FSem:=⟨[.v QI,.v QI],[.v QI],a2O⟩
def a3R(x:Int):Option Bool:=some (x != x)
def a8M:FSem:=⟨[.v QI],[.v .bool],a3R⟩
def a3g(x:(Int×Int)):Option Int:=(a3R x.1).bind fun y1=>(a3R x.2).bind fun y2=>cond y1 (cond y2 (some 0) (some (-1))) (cond y2 (some 1) (cond (decide (x.1<x.2)) (some (-1)) (cond (decide (x.1 > x.2)) (some 1) (some 0))))
def a7U:FSem:=⟨[.v QI,.v QI],[.v QI],a3g⟩
def a2F(x:(Z32×Z32)):Option Int:=(a2O (x.1.2.1,x.2.2.1)).bind fun y1=>(a3g (x.1.1,x.2.1)).bind fun y2=>(a6h [y1,y2]).bind fun y3=>some y3
def a7O:FSem:=⟨[.v Q17,.v Q17],[.v QI],a2F⟩
def H60:Hints:=⟨[],[],[(1,[.v,.v,.v,.v,.v,.v,.v,.v,.v,.x,.x,.x,.x])]⟩
def a1b(s:(Int×Z77)):Option ((Int×Z77) ⊕ (Int×Z72)):=cond (decide (s.2.2.2.2.1 > s.1)) (cond ((decide (0≤s.2.2.2.2.1))&&(decide (s.2.2.2.2.1<(s.2.2.2.2.2.1.length:Int)))) (cond ((decide (0≤(wrap .i64 (s.2.2.2.2.1-1))))&&(decide ((wrap .i64 (s.2.2.2.2.1-1))<(s.2.2.2.2.2.1.length:Int)))) ((a2F (a04 s.2.2.2.2.2.1 (a02 s.2.2.2.2.1) (0,0,0,false,false,[],()),a04 s.2.2.2.2.2.1 (a02 (wrap .i64 (s.2.2.2.2.1-1))) (0,0,0,false,false,[],()))).bind fun y2=>cond (decide (y2<0)) (cond ((decide (0≤(wrap .i64 (s.2.2.2.2.1-1))))&&(decide ((wrap .i64 (s.2.2.2.2.1-1))<(s.2.2.2.2.2.1.length:Int)))) (cond ((decide (0≤s.2.2.2.2.1))&&(decide (s.2.2.2.2.1<(s.2.2.2.2.2.1.length:Int)))) (cond ((decide (0≤s.2.2.2.2.1))&&(decide (s.2.2.2.2.1<(s.2.2.2.2.2.1.length:Int)))) (cond ((decide (0≤(wrap .i64 (s.2.2.2.2.1-1))))&&(decide ((wrap .i64 (s.2.2.2.2.1-1))<((a00 (a06 s.2.2.2.2.2.1 (a02 s.2.2.2.2.1) (a04 s.2.2.2.2.2.1 (a02 (wrap .i64 (s.2.2.2.2.1-1))) (0,0,0,false,false,[],()))):Nat):Int)))) (some (.inl (s.1,s.2.1,s.2.2.1,s.2.2.2.1,wrap .i64 (s.2.2.2.2.1-1),a06 (a06 s.2.2.2.2.2.1 (a02 s.2.2.2.2.1) (a04 s.2.2.2.2.2.1 (a02 (wrap .i64 (s.2.2.2.2.1-1))) (0,0,0,false,false,[],()))) (a02 (wrap .i64 (s.2.2.2.2.1-1))) (a04 s.2.2.2.2.2.1 (a02 s.2.2.2.2.1) (0,0,0,false,false,[],())),()))) none) none) none) none) (some (.inr (s.1,s.2.1,s.2.2.1,s.2.2.2.1,s.2.2.2.2.2.1,())))) none) none) (some (.inr (s.1,s.2.1,s.2.2.1,s.2.2.2.1,s.2.2.2.2.2.1,())))
def a1c(s:(Int×Z72)):Option ((Int×Z72) ⊕ Z47):=cond (decide (s.2.2.2.1<s.2.1)) ((y0h a1b (s.1,s.2.1,s.2.2.1,s.2.2.2.1,s.2.2.2.1,s.2.2.2.2.1,())).bind fun w3=>some (.inl (w3.1,w3.2.1,w3.2.2.1,wrap .i64 (w3.2.2.2.1+1),w3.2.2.2.2.1,()))) (some (.inr (s.2.2.2.2.1,())))
def a0N(x:(Z36×Int×Int×Unit)):Option Z36:=(y0h a1c (x.2.1,x.2.2.1,x.2.2.2,wrap .i64 (x.2.1+1),x.1,())).bind fun w4=>some w4.1
def a3P:FSem:=⟨[.r false (.o Q17),.v QI,.v QI,.v (.fn 60)],[],a0N⟩
def b8c:Hints:=⟨[(6,[1,2,.sv 3 (.fn 60),8,.own 0 pinned Q17],[Qe 0 [.own 0 pinned Q17]]),(402,[1,2,.sv 3 (.fn 60),8,9,.own 0 pinned Q17],[Qe 2 [1,2,.sv 3 (.fn 60),8,.own 0 pinned Q17]])],[],[(4,[.v,.v,.x,.x,.v,.q,.v,.q,.q,.q,.v,.v,.q,.q,.x,.x,.x]),(6,[.q,.v,.h,.v,.v,.q,.v,.v,.q,.q,.q,.v,.q,.q,.q,.k [0,pinned],.x,.x])]⟩
def a1h(s:Z76):Option (Z76 ⊕ Z47):=cond (decide (s.2.2.2.1<s.2.2.1)) (cond ((decide (0≤(wrap .i64 (s.2.1+s.2.2.2.1))))&&(decide ((wrap .i64 (s.2.1+s.2.2.2.1))<(s.2.2.2.2.1.length:Int)))) (cond ((decide (0≤(wrap .i64 (s.1+s.2.2.2.1))))&&(decide ((wrap .i64 (s.1+s.2.2.2.1))<(s.2.2.2.2.1.length:Int)))) (cond ((decide (0≤(wrap .i64 (s.1+s.2.2.2.1))))&&(decide ((wrap .i64 (s.1+s.2.2.2.1))<(s.2.2.2.2.1.length:Int)))) (cond ((decide (0≤(wrap .i64 (s.2.1+s.2.2.2.1))))&&(decide ((wrap .i64 (s.2.1+s.2.2.2.1))<((a00 (a06 s.2.2.2.2.1 (a02 (wrap .i64 (s.1+s.2.2.2.1))) (a04 s.2.2.2.2.1 (a02 (wrap .i64 (s.2.1+s.2.2.2.1))) (0,0,0,false,false,[],()))):Nat):Int)))) (some (.inl (s.1,s.2.1,s.2.2.1,wrap .i64 (s.2.2.2.1+1),a06 (a06 s.2.2.2.2.1 (a02 (wrap .i64 (s.1+s.2.2.2.1))) (a04 s.2.2.2.2.1 (a02 (wrap .i64 (s.2.1+s.2.2.2.1))) (0,0,0,false,false,[],()))) (a02 (wrap .i64 (s.2.1+s.2.2.2.1))) (a04 s.2.2.2.2.1 (a02 (wrap .i64 (s.1+s.2.2.2.1))) (0,0,0,false,false,[],())),()))) none) none) none) none) (some (.inr (s.2.2.2.2.1,())))
def a0R(x:(Z36×Z5)):Option Z36:=(y0h a1h (x.2.1,x.2.2.1,x.2.2.2.1,0,x.1,())).bind fun w2=>some w2.1
def a4y:FSem:=⟨[.r false (.o Q17),.v QI,.v QI,.v QI,.v (.fn 60)],[],a0R⟩
def b8d:Hints:=⟨[(6,[1,2,3,10,.own 0 pinned Q17],[Qe 0 [.own 0 pinned Q17]])],[],[(3,[.q,.v,.v,.v,.h,.v,.v,.v,.q,.v,.v,.v,.q,.q,.q,.v,.v,.v,.q,.q,.q,.k [0,pinned],.x,.x])]⟩
def a1G(s:Z77):Option (Z77 ⊕ Z72):=cond (s.2.2.1 != s.2.2.2.1) (cond (decide (s.2.2.1 > s.2.2.2.1)) ((a0R (s.2.2.2.2.1,wrap .i64 (s.1-s.2.2.1),s.1,s.2.2.2.1,s.2.1)).bind fun y1=>some (.inl (s.1,s.2.1,wrap .i64 (s.2.2.1-s.2.2.2.1),s.2.2.2.1,y1,()))) ((a0R (s.2.2.2.2.1,wrap .i64 (s.1-s.2.2.1),wrap .i64 ((wrap .i64 (s.1+s.2.2.2.1))-s.2.2.1),s.2.2.1,s.2.1)).bind fun y2=>some (.inl (s.1,s.2.1,s.2.2.1,wrap .i64 (s.2.2.2.1-s.2.2.1),y2,())))) (some (.inr (s.1,s.2.1,s.2.2.1,s.2.2.2.2.1,())))
def a1w(x:(Z36×Z5)):Option Z36:=(y0h a1G (x.2.2.1,x.2.2.2.2,wrap .i64 (x.2.2.1-x.2.1),wrap .i64 (x.2.2.2.1-x.2.2.1),x.1,())).bind fun w3=>(a0R (w3.2.2.2.1,wrap .i64 (w3.1-w3.2.2.1),w3.1,w3.2.2.1,w3.2.1)).bind fun y4=>some y4
def a2I:FSem:=⟨[.r false (.o Q17),.v QI,.v QI,.v QI,.v (.fn 60)],[],a1w⟩
def b8e:Hints:=⟨[(28,[2,.sv 4 (.fn 60),10,11,.own 0 pinned Q17],[Qe 0 [2,.sv 4 (.fn 60),10,.own 0 pinned Q17]])],[],[]⟩
def a1m(s:Z77):Option (Z77 ⊕ Z58):=cond (decide (s.2.2.1<s.2.2.2.1)) (cond ((decide (0≤(wrap .i64 (E0j .u64 (wrap .u64 (wrap .i64 (s.2.2.1+s.2.2.2.1))) 1))))&&(decide ((wrap .i64 (E0j .u64 (wrap .u64 (wrap .i64 (s.2.2.1+s.2.2.2.1))) 1))<(s.2.2.2.2.1.length:Int)))) (cond ((decide (0≤s.1))&&(decide (s.1<(s.2.2.2.2.1.length:Int)))) ((a2F (a04 s.2.2.2.2.1 (a02 (wrap .i64 (E0j .u64 (wrap .u64 (wrap .i64 (s.2.2.1+s.2.2.2.1))) 1))) (0,0,0,false,false,[],()),a04 s.2.2.2.2.1 (a02 s.1) (0,0,0,false,false,[],()))).bind fun y1=>cond (decide (y1<0)) (some (.inl (s.1,s.2.1,wrap .i64 ((wrap .i64 (E0j .u64 (wrap .u64 (wrap .i64 (s.2.2.1+s.2.2.2.1))) 1))+1),s.2.2.2.1,s.2.2.2.2.1,()))) (some (.inl (s.1,s.2.1,s.2.2.1,wrap .i64 (E0j .u64 (wrap .u64 (wrap .i64 (s.2.2.1+s.2.2.2.1))) 1),s.2.2.2.2.1,())))) none) none) (some (.inr (s.1,s.2.2.1,s.2.2.2.2.1,())))
def a1n(s:Z58):Option (Z58 ⊕ Z47):=cond (decide (s.2.1<(wrap .i64 (s.1-1)))) (cond ((decide (0≤(wrap .i64 (s.2.1+1))))&&(decide ((wrap .i64 (s.2.1+1))<(s.2.2.1.length:Int)))) (cond ((decide (0≤s.2.1))&&(decide (s.2.1<(s.2.2.1.length:Int)))) (cond ((decide (0≤s.2.1))&&(decide (s.2.1<(s.2.2.1.length:Int)))) (cond ((decide (0≤(wrap .i64 (s.2.1+1))))&&(decide ((wrap .i64 (s.2.1+1))<((a00 (a06 s.2.2.1 (a02 s.2.1) (a04 s.2.2.1 (a02 (wrap .i64 (s.2.1+1))) (0,0,0,false,false,[],()))):Nat):Int)))) (some (.inl (s.1,wrap .i64 (s.2.1+1),a06 (a06 s.2.2.1 (a02 s.2.1) (a04 s.2.2.1 (a02 (wrap .i64 (s.2.1+1))) (0,0,0,false,false,[],()))) (a02 (wrap .i64 (s.2.1+1))) (a04 s.2.2.1 (a02 s.2.1) (0,0,0,false,false,[],())),()))) none) none) none) none) (some (.inr (s.2.2.1,())))
def a1o(s:Z77):Option (Z77 ⊕ Z58):=cond (decide (s.2.2.1<s.2.2.2.1)) (cond ((decide (0≤s.1))&&(decide (s.1<(s.2.2.2.2.1.length:Int)))) (cond ((decide (0≤(wrap .i64 (E0j .u64 (wrap .u64 (wrap .i64 (s.2.2.1+s.2.2.2.1))) 1))))&&(decide ((wrap .i64 (E0j .u64 (wrap .u64 (wrap .i64 (s.2.2.1+s.2.2.2.1))) 1))<(s.2.2.2.2.1.length:Int)))) ((a2F (a04 s.2.2.2.2.1 (a02 s.1) (0,0,0,false,false,[],()),a04 s.2.2.2.2.1 (a02 (wrap .i64 (E0j .u64 (wrap .u64 (wrap .i64 (s.2.2.1+s.2.2.2.1))) 1))) (0,0,0,false,false,[],()))).bind fun y4=>cond (!(decide (y4<0))) (some (.inl (s.1,s.2.1,wrap .i64 ((wrap .i64 (E0j .u64 (wrap .u64 (wrap .i64 (s.2.2.1+s.2.2.2.1))) 1))+1),s.2.2.2.1,s.2.2.2.2.1,()))) (some (.inl (s.1,s.2.1,s.2.2.1,wrap .i64 (E0j .u64 (wrap .u64 (wrap .i64 (s.2.2.1+s.2.2.2.1))) 1),s.2.2.2.2.1,())))) none) none) (some (.inr (s.1,s.2.2.1,s.2.2.2.2.1,())))
def a1p(s:Z58):Option (Z58 ⊕ Z47):=cond (decide (s.2.1 > s.1)) (cond ((decide (0≤(wrap .i64 (s.2.1-1))))&&(decide ((wrap .i64 (s.2.1-1))<(s.2.2.1.length:Int)))) (cond ((decide (0≤s.2.1))&&(decide (s.2.1<(s.2.2.1.length:Int)))) (cond ((decide (0≤s.2.1))&&(decide (s.2.1<(s.2.2.1.length:Int)))) (cond ((decide (0≤(wrap .i64 (s.2.1-1))))&&(decide ((wrap .i64 (s.2.1-1))<((a00 (a06 s.2.2.1 (a02 s.2.1) (a04 s.2.2.1 (a02 (wrap .i64 (s.2.1-1))) (0,0,0,false,false,[],()))):Nat):Int)))) (some (.inl (s.1,wrap .i64 (s.2.1-1),a06 (a06 s.2.2.1 (a02 s.2.1) (a04 s.2.2.1 (a02 (wrap .i64 (s.2.1-1))) (0,0,0,false,false,[],()))) (a02 (wrap .i64 (s.2.1-1))) (a04 s.2.2.1 (a02 s.2.1) (0,0,0,false,false,[],())),()))) none) none) none) none) (some (.inr (s.2.2.1,())))
def a0W(s:(Int×Int×Int×Unit×Int×Z76)):Option ((Int×Int×Int×Unit×Int×Z76) ⊕ (Int×Int×Z81)):=cond (decide (s.2.2.2.2.2.2.1<s.2.2.2.2.2.2.2.1)) (cond ((decide (0≤(wrap .i64 (s.2.2.2.2.2.2.2.2.1-(wrap .i64 (E0j .u64 (wrap .u64 (wrap .i64 (s.2.2.2.2.2.2.1+s.2.2.2.2.2.2.2.1))) 1))))))&&(decide ((wrap .i64 (s.2.2.2.2.2.2.2.2.1-(wrap .i64 (E0j .u64 (wrap .u64 (wrap .i64 (s.2.2.2.2.2.2.1+s.2.2.2.2.2.2.2.1))) 1))))<(s.2.2.2.2.2.2.2.2.2.1.length:Int)))) (cond ((decide (0≤(wrap .i64 (E0j .u64 (wrap .u64 (wrap .i64 (s.2.2.2.2.2.2.1+s.2.2.2.2.2.2.2.1))) 1))))&&(decide ((wrap .i64 (E0j .u64 (wrap .u64 (wrap .i64 (s.2.2.2.2.2.2.1+s.2.2.2.2.2.2.2.1))) 1))<(s.2.2.2.2.2.2.2.2.2.1.length:Int)))) ((a2F (a04 s.2.2.2.2.2.2.2.2.2.1 (a02 (wrap .i64 (s.2.2.2.2.2.2.2.2.1-(wrap .i64 (E0j .u64 (wrap .u64 (wrap .i64 (s.2.2.2.2.2.2.1+s.2.2.2.2.2.2.2.1))) 1))))) (0,0,0,false,false,[],()),a04 s.2.2.2.2.2.2.2.2.2.1 (a02 (wrap .i64 (E0j .u64 (wrap .u64 (wrap .i64 (s.2.2.2.2.2.2.1+s.2.2.2.2.2.2.2.1))) 1))) (0,0,0,false,false,[],()))).bind fun y8=>cond (!(decide (y8<0))) (some (.inl (s.1,s.2.1,s.2.2.1,s.2.2.2.1,s.2.2.2.2.1,s.2.2.2.2.2.1,wrap .i64 ((wrap .i64 (E0j .u64 (wrap .u64 (wrap .i64 (s.2.2.2.2.2.2.1+s.2.2.2.2.2.2.2.1))) 1))+1),s.2.2.2.2.2.2.2.1,s.2.2.2.2.2.2.2.2.1,s.2.2.2.2.2.2.2.2.2.1,()))) (some (.inl (s.1,s.2.1,s.2.2.1,s.2.2.2.1,s.2.2.2.2.1,s.2.2.2.2.2.1,s.2.2.2.2.2.2.1,wrap .i64 (E0j .u64 (wrap .u64 (wrap .i64 (s.2.2.2.2.2.2.1+s.2.2.2.2.2.2.2.1))) 1),s.2.2.2.2.2.2.2.2.1,s.2.2.2.2.2.2.2.2.2.1,())))) none) none) (some (.inr (s.1,s.2.1,s.2.2.1,s.2.2.2.1,s.2.2.2.2.1,s.2.2.2.2.2.1,s.2.2.2.2.2.2.1,s.2.2.2.2.2.2.2.2.2.1,())))
def a0C:Nat→(Z36×Z5)→Option Z36 |0,_=>none |fu+1,x=>cond ((wrap .i64 (x.2.2.1-x.2.1))==(1:Int)) ((y0h a1m (x.2.1,x.2.2.2.2,x.2.2.1,x.2.2.2.1,x.1,())).bind fun w2=>(y0h a1n (w2.2.1,w2.1,w2.2.2.1,())).bind fun w3=>some w3.1) (cond ((wrap .i64 (x.2.2.2.1-x.2.2.1))==(1:Int)) ((y0h a1o (x.2.2.1,x.2.2.2.2,x.2.1,x.2.2.1,x.1,())).bind fun w5=>(y0h a1p (w5.2.1,w5.1,w5.2.2.1,())).bind fun w6=>some w6.1) ((show Option (Int×Int×Int×Unit×Z76)from cond (decide (x.2.2.1 > (wrap .i64 (E0j .u64 (wrap .u64 (wrap .i64 (x.2.1+x.2.2.2.1))) (1:Int))))) (some (x.2.1,x.2.2.1,x.2.2.2.1,x.2.2.2.2,wrap .i64 (E0j .u64 (wrap .u64 (wrap .i64 (x.2.1+x.2.2.2.1))) (1:Int)),wrap .i64 ((wrap .i64 (E0j .u64 (wrap .u64 (wrap .i64 (x.2.1+x.2.2.2.1))) (1:Int)))+x.2.2.1),wrap .i64 ((wrap .i64 ((wrap .i64 (E0j .u64 (wrap .u64 (wrap .i64 (x.2.1+x.2.2.2.1))) (1:Int)))+x.2.2.1))-x.2.2.2.1),wrap .i64 (E0j .u64 (wrap .u64 (wrap .i64 (x.2.1+x.2.2.2.1))) (1:Int)),x.1,())) (some (x.2.1,x.2.2.1,x.2.2.2.1,x.2.2.2.2,wrap .i64 (E0j .u64 (wrap .u64 (wrap .i64 (x.2.1+x.2.2.2.1))) (1:Int)),wrap .i64 ((wrap .i64 (E0j .u64 (wrap .u64 (wrap .i64 (x.2.1+x.2.2.2.1))) (1:Int)))+x.2.2.1),x.2.1,x.2.2.1,x.1,()))).bind fun z7=>(y0h a0W (z7.1,z7.2.1,z7.2.2.1,z7.2.2.2.1,z7.2.2.2.2.1,z7.2.2.2.2.2.1,z7.2.2.2.2.2.2.1,z7.2.2.2.2.2.2.2.1,wrap .i64 (z7.2.2.2.2.2.1-(1:Int)),z7.2.2.2.2.2.2.2.2.1,())).bind fun w9=>(show Option (Int×Z81)from(show Option (Int×Int×Int×Unit×Int×Int×Int×Bool×Z47)from cond (decide (w9.2.2.2.2.2.2.1<w9.2.1)) (some (w9.1,w9.2.1,w9.2.2.1,w9.2.2.2.1,w9.2.2.2.2.1,w9.2.2.2.2.2.2.1,wrap .i64 (w9.2.2.2.2.2.1-w9.2.2.2.2.2.2.1),decide (w9.2.1<(wrap .i64 (w9.2.2.2.2.2.1-w9.2.2.2.2.2.2.1))),w9.2.2.2.2.2.2.2.1,())) (some (w9.1,w9.2.1,w9.2.2.1,w9.2.2.2.1,w9.2.2.2.2.1,w9.2.2.2.2.2.2.1,wrap .i64 (w9.2.2.2.2.2.1-w9.2.2.2.2.2.2.1),false,w9.2.2.2.2.2.2.2.1,()))).bind fun z10=>cond z10.2.2.2.2.2.2.2.1 ((a1w (z10.2.2.2.2.2.2.2.2.1,z10.2.2.2.2.2.1,z10.2.1,z10.2.2.2.2.2.2.1,z10.2.2.2.1)).bind fun y11=>some (z10.1,z10.2.2.1,z10.2.2.2.1,z10.2.2.2.2.1,z10.2.2.2.2.2.1,z10.2.2.2.2.2.2.1,y11,())) (some (z10.1,z10.2.2.1,z10.2.2.2.1,z10.2.2.2.2.1,z10.2.2.2.2.2.1,z10.2.2.2.2.2.2.1,z10.2.2.2.2.2.2.2.2.1,()))).bind fun z12=>(show Option Z77 from(show Option (Int×Int×Unit×Int×Int×Int×Bool×Z47)from cond (decide (z12.1<z12.2.2.2.2.1)) (some (z12.1,z12.2.1,z12.2.2.1,z12.2.2.2.1,z12.2.2.2.2.1,z12.2.2.2.2.2.1,decide (z12.2.2.2.2.1<z12.2.2.2.1),z12.2.2.2.2.2.2.1,())) (some (z12.1,z12.2.1,z12.2.2.1,z12.2.2.2.1,z12.2.2.2.2.1,z12.2.2.2.2.2.1,false,z12.2.2.2.2.2.2.1,()))).bind fun z13=>cond z13.2.2.2.2.2.2.1 ((a0C fu (z13.2.2.2.2.2.2.2.1,z13.1,z13.2.2.2.2.1,z13.2.2.2.1,z13.2.2.1)).bind fun y14=>some (z13.2.1,z13.2.2.1,z13.2.2.2.1,z13.2.2.2.2.2.1,y14,())) (some (z13.2.1,z13.2.2.1,z13.2.2.2.1,z13.2.2.2.2.2.1,z13.2.2.2.2.2.2.2.1,()))).bind fun z15=>(show Option (Int×Unit×Int×Int×Bool×Z47)from cond (decide (z15.2.2.1<z15.2.2.2.1)) (some (z15.1,z15.2.1,z15.2.2.1,z15.2.2.2.1,decide (z15.2.2.2.1<z15.1),z15.2.2.2.2.1,())) (some (z15.1,z15.2.1,z15.2.2.1,z15.2.2.2.1,false,z15.2.2.2.2.1,()))).bind fun z16=>cond z16.2.2.2.2.1 ((a0C fu (z16.2.2.2.2.2.1,z16.2.2.1,z16.2.2.2.1,z16.1,z16.2.1)).bind fun y17=>some y17) (some z16.2.2.2.2.2.1)))
def a1d(fu:Nat):FSem:=⟨[.r false (.o Q17),.v QI,.v QI,.v QI,.v (.fn 60)],[],a0C fu⟩
def b8f:Hints:=⟨[(172,[1,.sv 4 (.fn 60),10,11,.own 0 pinned Q17],[Qe 0 [1,10,.own 0 pinned Q17]]),(428,[2,.sv 4 (.fn 60),14,15,.own 0 pinned Q17],[Qe 4 [2,14,.own 0 pinned Q17]]),(698,[10,13,.own 0 pinned Q17],[Qe 2 [.own 0 pinned Q17]]),(1020,[1,2,3,.sv 4 (.fn 60),18,19,20,21,22,.own 0 pinned Q17],[Qe 8 [1,2,3,.sv 4 (.fn 60),18,19,20,.own 0 pinned Q17]]),(1722,[14,17,.own 0 pinned Q17],[Qe 6 [.own 0 pinned Q17]])],[(63,[Qn [1,2,3,.sv 4 (.fn 60),18,19,20,21,.own 0 pinned Q17]]),(1023,[Qn [1,3,.sv 4 (.fn 60),18,20,24,.own 0 pinned Q17]]),(2046,[Qn [1,2,3,.sv 4 (.fn 60),18,20,24,.sv 185 .bool,.own 0 pinned Q17]]),(2047,[Qn [3,.sv 4 (.fn 60),18,24,.own 0 pinned Q17]]),(4094,[Qn [1,3,.sv 4 (.fn 60),18,20,24,.sv 199 .bool,.own 0 pinned Q17]]),(4095,[Qn [3,.sv 4 (.fn 60),18,24,.sv 213 .bool,.own 0 pinned Q17]])],[(5,[.v,.q,.v,.q,.q,.q,.v,.q,.q,.x,.x]),(11,[.q,.v,.h,.v,.v,.q,.v,.v,.q,.q,.q,.v,.q,.q,.q,.k [0,pinned],.x,.x]),(17,[.v,.q,.v,.q,.q,.q,.v,.q,.q,.x,.x,.x]),(23,[.q,.v,.h,.v,.v,.q,.v,.v,.q,.q,.q,.v,.q,.q,.q,.k [0,pinned],.x,.x]),(35,[.v,.q,.v,.v,.v,.q,.q,.q,.v,.q,.q,.x,.x,.x])]⟩
def b5P(fu:Nat):Cx:=b5k [(60,a7O),(123,a1d fu),(128,a2I)] [] 33553439 0
theorem b7s(h:Nat)(x):E0e (b5P h) b8f Tryz.f123 (a1d (h+1)).ps (a1d (h+1)).rs x=(a1d (h+1)).F x:=by kernel_rfl
def a1a(s:Z81):Option (Z81 ⊕ Z77):=cond (decide (s.2.2.2.2.1≤s.1)) ((a0N (s.2.2.2.2.2.1,s.2.2.2.1,s.2.2.2.2.1,s.2.1)).bind fun y1=>some (.inl (s.1,s.2.1,s.2.2.1,s.2.2.2.2.1,wrap .i64 (s.2.2.2.2.1+s.2.2.1),y1,()))) (some (.inr (s.1,s.2.1,s.2.2.1,s.2.2.2.1,s.2.2.2.2.2.1,())))
def a2l(s:Z81):Option (Z81 ⊕ Z77):=cond (decide (s.2.2.2.2.1≤s.1)) ((a0C 64 (s.2.2.2.2.2.1,s.2.2.2.1,wrap .i64 (s.2.2.2.1+s.2.2.1),s.2.2.2.2.1,s.2.1)).bind fun y5=>some (.inl (s.1,s.2.1,s.2.2.1,s.2.2.2.2.1,wrap .i64 (s.2.2.2.2.1+(wrap .i64 (2*s.2.2.1))),y5,()))) (some (.inr (s.1,s.2.1,s.2.2.1,s.2.2.2.1,s.2.2.2.2.2.1,())))
def a0S(s:Z72):Option (Z72 ⊕ Z47):=cond (decide (s.2.2.1<s.1)) ((y0h a2l (s.1,s.2.1,s.2.2.1,0,wrap .i64 (2*s.2.2.1),s.2.2.2.1,())).bind fun w6=>cond (decide ((wrap .i64 (w6.2.2.2.1+w6.2.2.1))<w6.1)) ((a0C 64 (w6.2.2.2.2.1,w6.2.2.2.1,wrap .i64 (w6.2.2.2.1+w6.2.2.1),w6.1,w6.2.1)).bind fun y7=>some (.inl (w6.1,w6.2.1,wrap .i64 (w6.2.2.1*2),y7,()))) (some (.inl (w6.1,w6.2.1,wrap .i64 (w6.2.2.1*2),w6.2.2.2.2.1,())))) (some (.inr (s.2.2.2.1,())))
def a1x(x:(Z36×Int×Unit)):Option Z36:=(y0h a1a (x.2.1,x.2.2,20,0,20,x.1,())).bind fun w2=>(a0N (w2.2.2.2.2.1,w2.2.2.2.1,w2.1,w2.2.1)).bind fun y3=>(y0h a0S (w2.1,w2.2.1,w2.2.2.1,y3,())).bind fun w8=>some w8.1
def a4X:FSem:=⟨[.r false (.o Q17),.v QI,.v (.fn 60)],[],a1x⟩
def H95:Hints:=⟨[(28,[1,.sv 2 (.fn 60),6,7,8,.own 0 pinned Q17],[Qe 0 [1,.sv 2 (.fn 60),6,7,.own 0 pinned Q17]]),(62,[1,.sv 2 (.fn 60),6,.own 0 pinned Q17],[Qe 2 [.own 0 pinned Q17]]),(3988,[1,.sv 2 (.fn 60),6,7,8,.own 0 pinned Q17],[Qe 4 [1,.sv 2 (.fn 60),6,7,.own 0 pinned Q17]])],[],[]⟩
def a0U(x:Z47):Option Z36:=(a1x (x.1,(x.1.length:Int),x.2)).bind fun y1=>some y1
def a2U:FSem:=⟨[.r false (.o Q17),.v (.fn 60)],[],a0U⟩
def a3C(s:(Z45×Int×Z45×Int×Int×Z36×Int×Int×Unit)):Option ((Z45×Int×Z45×Int×Int×Z36×Int×Int×Unit) ⊕ ((Z45×Z45×Int×Int×Unit) ⊕ Z53)):=cond (decide (s.2.2.2.2.2.2.2.1<s.2.2.2.2.2.2.1)) ((n0s s.2.2.2.2.2.1 s.2.2.2.2.2.2.2.1).bind fun x3=>(a5s x3).bind fun y4=>(show Option (Z45×Int×Z45×Int×Int×Z36×Z6)from cond (y4.2 != 0) (some (s.1,s.2.1,s.2.2.1,s.2.2.2.1,s.2.2.2.2.1,s.2.2.2.2.2.1,s.2.2.2.2.2.2.1,s.2.2.2.2.2.2.2.1,true,())) (some (s.1,s.2.1,s.2.2.1,s.2.2.2.1,s.2.2.2.2.1,s.2.2.2.2.2.1,s.2.2.2.2.2.2.1,s.2.2.2.2.2.2.2.1,x3.1 != s.2.1,()))).bind fun z5=>cond z5.2.2.2.2.2.2.2.2.1 (some (.inr (Sum.inr ((1,[],()))))) (some (.inl (z5.1,z5.2.1,z5.2.2.1,z5.2.2.2.1,z5.2.2.2.2.1,z5.2.2.2.2.2.1,z5.2.2.2.2.2.2.1,wrap .i64 (z5.2.2.2.2.2.2.2.1+1),())))) (some (.inr (Sum.inl (s.1,s.2.2.1,s.2.2.2.1,s.2.2.2.2.1,()))))
def a4F(s:(Z45×Z45×Int×Int×Unit)):Option ((Z45×Z45×Int×Int×Unit) ⊕ ((Z45×Unit) ⊕ Z53)):=cond (decide (s.2.2.2.1<s.2.2.1)) ((n0s s.2.1 s.2.2.2.1).bind fun x2=>(y0h a3C (s.1,s.2.2.2.1,s.2.1,s.2.2.1,s.2.2.2.1,x2,(x2.length:Int),0,())).bind fun w6=>match w6 with |.inl a7=>some (.inl (a7.1,a7.2.1,a7.2.2.1,wrap .i64 (a7.2.2.2.1+1),())) |.inr b8=>some (.inr (Sum.inr ((b8.1,b8.2.1,()))))) (some (.inr (Sum.inl (s.1,()))))
def a3D(s:(Z36×Z45×Int×Int×Z36×Z58)):Option ((Z36×Z45×Int×Int×Z36×Z58) ⊕ ((Z45×Z58) ⊕ Z53)):=cond (decide (s.2.2.2.2.2.2.1<s.2.2.2.2.2.1)) ((n0s s.2.2.2.2.1 s.2.2.2.2.2.2.1).bind fun x13=>(show Option (Z36×Z45×Int×Int×Z36×Int×Int×Bool×Z36×Z40)from cond (decide (s.2.2.2.2.2.2.1 > 0)) ((n0s s.1 (wrap .i64 (s.2.2.2.2.2.2.1-1))).bind fun x14=>some (s.1,s.2.1,s.2.2.1,s.2.2.2.1,s.2.2.2.2.1,s.2.2.2.2.2.1,s.2.2.2.2.2.2.1,decide (x13.2.1<x14.2.1),s.2.2.2.2.2.2.2.1,x13,())) (some (s.1,s.2.1,s.2.2.1,s.2.2.2.1,s.2.2.2.2.1,s.2.2.2.2.2.1,s.2.2.2.2.2.2.1,false,s.2.2.2.2.2.2.2.1,x13,()))).bind fun z15=>cond z15.2.2.2.2.2.2.2.1 (some (.inr (Sum.inr ((12,[],()))))) ((a5g z15.2.2.2.2.2.2.2.2.2.1).bind fun y16=>cond (lim ((a00 z15.2.2.2.2.2.2.2.2.1)+1)) (some (.inl (z15.1,z15.2.1,z15.2.2.1,z15.2.2.2.1,z15.2.2.2.2.1,z15.2.2.2.2.2.1,wrap .i64 (z15.2.2.2.2.2.2.1+1),a01 z15.2.2.2.2.2.2.2.2.1 ([y16]:List Z32),()))) none)) (some (.inr (Sum.inl (s.2.1,s.2.2.1,s.2.2.2.1,s.2.2.2.2.2.2.2.1,()))))
def a4G(s:(Z45×Z58)):Option ((Z45×Z58) ⊕ (Z47 ⊕ Z53)):=cond (decide (s.2.2.1<s.2.1)) ((n0s s.1 s.2.2.1).bind fun x12=>(y0h a3D (x12,s.1,s.2.1,s.2.2.1,x12,(x12.length:Int),0,s.2.2.2.1,())).bind fun w17=>match w17 with |.inl a18=>some (.inl (a18.1,a18.2.1,wrap .i64 (a18.2.2.1+1),a18.2.2.2.1,())) |.inr b19=>some (.inr (Sum.inr ((b19.1,b19.2.1,()))))) (some (.inr (Sum.inl (s.2.2.2.1,()))))
def a3t(x:Z45):Option Z46:=(show Option (Z45×Bool×Unit)from cond (decide ((x.length:Int)<1)) (some (x,true,())) (some (x,decide ((x.length:Int) > 4),()))).bind fun z1=>cond z1.2.1 (some ([],1)) ((y0h a4F (z1.1,z1.1,(z1.1.length:Int),0,())).bind fun w9=>match w9 with |.inl a10=>((y0h a4G (a10.1,(a10.1.length:Int),0,[],())).bind fun w20=>match w20 with |.inl a21=>((a0U (a21.1,())).bind fun y23=>some (y23,0)) |.inr b22=>some (b22.2.1,b22.1)) |.inr b11=>some (b11.2.1,b11.1))
def b2D:FSem:=⟨[.v (.list false (.list false Q17))],[.o Q17,.v QI],a3t⟩
def H17:Hints:=⟨[(58,[.sv 0 (.list false (.list false Q17)),.sv 23 (.list false (.list false Q17)),24,25],[Qe 0 [.sv 0 (.list false (.list false Q17))],Qr [3,.own 2 2 Q17]]),(250,[.sv 51 (.list false (.list false Q17)),52,53,.own 10 10 Q17],[Qe 4 [.own 10 10 Q17],Qr [3,.own 2 2 Q17]]),(14950,[.sv 0 (.list false (.list false Q17)),4,.sv 23 (.list false (.list false Q17)),24,25,.sv 30 (.list false Q17),31,32],[Qe 2 [.sv 0 (.list false (.list false Q17)),.sv 23 (.list false (.list false Q17)),24,25],Qr [3,.own 2 2 Q17]]),(64102,[.sv 12 (.list false Q17),.sv 51 (.list false (.list false Q17)),52,53,.sv 57 (.list false Q17),58,59,.own 10 10 Q17],[Qe 6 [.sv 51 (.list false (.list false Q17)),52,53,.own 10 10 Q17],Qr [3,.own 2 2 Q17]])],[(6,[Qn [.sv 0 (.list false (.list false Q17)),.sv 22 .bool]]),(1913651,[Qn [.sv 0 (.list false (.list false Q17)),4,.sv 23 (.list false (.list false Q17)),24,25,.sv 30 (.list false Q17),31,32,.sv 48 .bool]]),(8205106,[Qn [.sv 12 (.list false Q17),.sv 51 (.list false (.list false Q17)),52,53,.sv 57 (.list false Q17),58,59,.sv 76 .bool,.own 10 10 Q17,.box 14 Q17,Qp 14 14]])],[(21,[.x,.x,.x,.q,.q,.v,.v,.v,.v,.v,.v,.x,.x])]⟩
def a4o(s:(Int×Z36×Int×Int×Z0)):Option ((Int×Z36×Int×Int×Z0) ⊕ ((Int×Z0) ⊕ Z49)):=cond (decide (s.2.2.2.1<s.2.2.1)) ((n0s s.2.1 s.2.2.2.1).bind fun x2=>(a5s x2).bind fun y3=>cond (y3.2 != 0) (some (.inr (Sum.inr ((y3.2,[],()))))) (cond ((decide (0≤s.2.2.2.1))&&(decide (s.2.2.2.1<(s.2.2.2.2.1.length:Int)))) (some (.inl (s.1,s.2.1,s.2.2.1,wrap .i64 (s.2.2.2.1+1),a06 s.2.2.2.2.1 (a02 s.2.2.2.1) y3.1,()))) none)) (some (.inr (Sum.inl (s.1,s.2.2.2.2.1,()))))
def a4p(s:(Int×(LI×Z80))):Option ((Int×(LI×Z80)) ⊕ (Z80 ⊕ Z49)):=cond (decide (s.2.2.1<(s.2.1.length:Int))) (cond (decide ((wrap .i64 (s.1+(s.2.2.2.2.2.1.length:Int))) > 2147483647)) (some (.inr (Sum.inr ((4,[],()))))) (cond ((decide (0≤(y0e (wrap .i64 (s.2.2.1+252)) (s.2.1.length:Int))))&&(decide ((y0e (wrap .i64 (s.2.2.1+252)) (s.2.1.length:Int))≤(s.2.1.length:Int)))) (cond ((decide (0≤s.2.2.1))&&(decide (s.2.2.1≤((a02 (y0e (wrap .i64 (s.2.2.1+252)) (s.2.1.length:Int)):Nat):Int)))) ((a2E (a05 (a02 s.2.2.1) (a03 (a02 (y0e (wrap .i64 (s.2.2.1+252)) (s.2.1.length:Int))) s.2.1))).bind fun y7=>cond (lim ((a00 s.2.2.2.2.2.1)+1)) (some (.inl (s.1,s.2.1,wrap .i64 (s.2.2.1+252),s.2.2.2.1,s.2.2.2.2.1,a01 s.2.2.2.2.2.1 ([(wrap .i64 (s.1+(s.2.2.2.2.2.1.length:Int)),s.2.2.1==0,(y0e (wrap .i64 (s.2.2.1+252)) (s.2.1.length:Int))==(s.2.1.length:Int),false,y7,())]:List Z31),s.2.2.2.2.2.2.1,()))) none) none) none)) (some (.inr (Sum.inl (s.1,s.2.2.2.1,s.2.2.2.2.1,s.2.2.2.2.2.1,s.2.2.2.2.2.2.1,()))))
def a3h(s:Z80):Option (Z80 ⊕ (Z41 ⊕ Z49)):=cond (decide (s.2.2.1<s.2.1)) (cond ((decide (0≤s.2.2.1))&&(decide (s.2.2.1<(s.2.2.2.2.1.length:Int)))) ((y0h a4p (s.1,a04 s.2.2.2.2.1 (a02 s.2.2.1) [],0,s.2.1,s.2.2.1,s.2.2.2.1,s.2.2.2.2.1,())).bind fun w8=>match w8 with |.inl a9=>some (.inl (a9.1,a9.2.1,wrap .i64 (a9.2.2.1+1),a9.2.2.2.1,a9.2.2.2.2.1,())) |.inr b10=>some (.inr (Sum.inr ((b10.1,b10.2.1,()))))) none) (some (.inr (Sum.inl (s.2.2.2.1,()))))
def a3E(x:Z46):Option Z38:=(show Option Z63 from cond (decide (x.2<0)) (some (x.1,x.2,true,())) (some (x.1,x.2,decide (x.2 > 2147483647),()))).bind fun z1=>cond z1.2.2.1 (some ([],1)) (cond ((decide (0≤(z1.1.length:Int)))&&((decide ((z1.1.length:Int)≤(z1.1.length:Int)))&&(lim (a02 (z1.1.length:Int))))) ((y0h a4o (z1.2.1,z1.1,(z1.1.length:Int),0,a20 (a02 (z1.1.length:Int)) [],())).bind fun w4=>match w4 with |.inl a5=>((y0h a3h (a5.1,(a5.2.1.length:Int),0,[],a5.2.1,())).bind fun w11=>match w11 with |.inl a12=>some (a12.1,0) |.inr b13=>some (b13.2.1,b13.1)) |.inr b6=>some (b6.2.1,b6.1)) none)
def b1k:FSem:=⟨[.v (.list false Q17),.v QI],[.o Q15,.v QI],a3E⟩
def H18:Hints:=⟨[(122,[1,.sv 26 (.list false Q17),27,28,.own 6 6 QB],[Qe 0 [1,.own 6 6 QB],Qr [5,.own 4 4 Q15]]),(506,[1,47,48,.own 11 11 Q15,.own 46 6 QB],[Qe 2 [.own 11 11 Q15],Qr [5,.own 4 4 Q15]]),(129638,[1,.sv 13 QB,14,47,48,.own 11 11 Q15,.own 46 6 QB],[Qe 4 [1,47,48,.own 11 11 Q15,.own 46 6 QB],Qr [5,.own 4 4 Q15]])],[(6,[Qn [.sv 0 (.list false Q17),1,.sv 22 .bool]])],[]⟩
def a0Y(s:(Int×Z19)):Option ((Int×Z19) ⊕ Z18):=cond (decide (s.2.2.2.2.1<8)) (cond ((bits .u32 .and s.1 1)==1) (some (.inl (bits .u32 .xor (E0j .u32 s.1 1) 3988292384,s.2.1,s.2.2.1,s.2.2.2.1,wrap .i64 (s.2.2.2.2.1+1),()))) (some (.inl (E0j .u32 s.1 1,s.2.1,s.2.2.1,s.2.2.2.1,wrap .i64 (s.2.2.2.2.1+1),())))) (some (.inr (s.1,s.2.1,s.2.2.1,s.2.2.2.1,())))
def a1E(s:Z18):Option (Z18 ⊕ (Int×Unit)):=cond (decide (s.2.2.2.1<s.2.2.1)) ((n0s s.2.1 s.2.2.2.1).bind fun x1=>(y0h a0Y (bits .u32 .xor s.1 (wrap .u32 x1),s.2.1,s.2.2.1,s.2.2.2.1,0,())).bind fun w2=>some (.inl (w2.1,w2.2.1,w2.2.2.1,wrap .i64 (w2.2.2.2.1+1),()))) (some (.inr (s.1,())))
def a0Z(x:LI):Option Int:=(y0h a1E (4294967295,x,(x.length:Int),0,())).bind fun w3=>some (bits .u32 .xor (IntKind.max .u32) w3.1)
def a8N:FSem:=⟨[.v QB],[.v (.int .u32)],a0Z⟩
def H54:Hints:=⟨[(58,[.sv 3 (.int .u32),.sv 7 QB,8,9],[Qe 0 [.sv 3 (.int .u32)]]),(29902,[.sv 3 (.int .u32),.sv 7 QB,8,9,17],[Qe 2 [.sv 3 (.int .u32),.sv 7 QB,8,9]])],[],[]⟩
def a1W(x:Bool):Option Int:=cond x (some 255) (some 252)
def a8W:FSem:=⟨[.v .bool],[.v QI],a1W⟩
def a2V(x:Z31):Option (LI×Int):=(show Option Z44 from cond (decide (x.1<0)) (some (true,x,())) (cond (decide (x.1 > 2147483647)) (some (true,x,())) (cond (decide ((x.2.2.2.2.1.length:Int)<1)) (some (true,x,())) ((a1W x.2.2.2.1).bind fun y1=>some (decide ((x.2.2.2.2.1.length:Int) > y1),x,()))))).bind fun z2=>cond z2.1 (some ([],1)) ((a1M (z2.2.1.2.1,1)).bind fun y3=>(a1M (z2.2.1.2.2.1,2)).bind fun y4=>(a1M (z2.2.1.2.2.2.1,4)).bind fun y5=>(a1U (wrap .u64 z2.2.1.1,4)).bind fun y6=>cond (lim (3+(a00 y6))) (cond (lim ((a00 (a01 [75,80,bits .u8 .or (bits .u8 .or y3 y4) y5] y6))+1)) (cond (lim ((a00 (a01 (a01 [75,80,bits .u8 .or (bits .u8 .or y3 y4) y5] y6) ([wrap .u8 (z2.2.1.2.2.2.2.1.length:Int)]:List Int)))+(a00 z2.2.1.2.2.2.2.1))) ((a0Z (a01 (a01 (a01 [75,80,bits .u8 .or (bits .u8 .or y3 y4) y5] y6) ([wrap .u8 (z2.2.1.2.2.2.2.1.length:Int)]:List Int)) z2.2.1.2.2.2.2.1)).bind fun y7=>(a1U (wrap .u64 y7,4)).bind fun y8=>cond (lim ((a00 (a01 (a01 (a01 [75,80,bits .u8 .or (bits .u8 .or y3 y4) y5] y6) ([wrap .u8 (z2.2.1.2.2.2.2.1.length:Int)]:List Int)) z2.2.1.2.2.2.2.1))+(a00 y8))) (some (a01 (a01 (a01 (a01 [75,80,bits .u8 .or (bits .u8 .or y3 y4) y5] y6) ([wrap .u8 (z2.2.1.2.2.2.2.1.length:Int)]:List Int)) z2.2.1.2.2.2.2.1) y8,0)) none) none) none) none)
def b1l:FSem:=⟨[.v Q15],[.o QV,.v QI],a2V⟩
def H68:Hints:=⟨[],[(6,[Qn [.sv 28 .bool,.vp 1 Q15]])],[(1,[.x,.x,.x,.x,.x,.x,.x,.x,.x,.x,.x,.x,.x,.x,.x,.v,.v,.v,.v,.v,.v,.x,.x]),(3,[.v,.v,.v,.v,.v,.v,.v,.v,.v,.v,.x,.x])]⟩
def a2x(x:Z31):Option Bool:=(a2V x).bind fun y1=>some (y1.2==0)
def a4q:FSem:=⟨[.v Q15],[.v .bool],a2x⟩
def a3b(x:Z31):Option Z31:=cond (lim (a00 x.2.2.2.2.1)) (some (x.1,x.2.1,x.2.2.1,x.2.2.2.1,x.2.2.2.2.1,x.2.2.2.2.2)) none
def a5h:FSem:=⟨[.v Q15],[.v Q15],a3b⟩
def a3F(x:Z31):Option Int:=(show Option Z43 from cond x.2.1 (some (bits .u8 .or 0 1,x,())) (some (0,x,()))).bind fun z1=>(show Option (Int×Unit)from cond z1.2.1.2.2.1 (some (bits .u8 .or z1.1 2,())) (some (z1.1,()))).bind fun z2=>some z2.1
def b1m:FSem:=⟨[.v Q15],[.v QV],a3F⟩
def H98:Hints:=⟨[],[(7,[Qn [.sv 3 QV,.vp 1 Q15]]),(15,[Qn [.sv 3 QV]])],[]⟩
def a2y(s:Z7):Option (Z7 ⊕ Z7):=cond (decide ((s.2.1.length:Int)<(s.1.length:Int))) (cond (lim ((a00 s.2.1)+1)) (some (.inl (s.1,a01 s.2.1 [0],()))) none) (some (.inr (s.1,s.2.1,())))
def a2z(s:Z26):Option (Z26 ⊕ (LI×Unit)):=cond (decide (s.2.2.1<s.2.1)) ((n0s s.1 s.2.2.1).bind fun x2=>cond ((decide (0≤s.2.2.1))&&(decide (s.2.2.1<(s.2.2.2.1.length:Int)))) (cond ((decide (0≤s.2.2.1))&&(decide (s.2.2.1<(s.2.2.2.1.length:Int)))) (some (.inl (s.1,s.2.1,wrap .i64 (s.2.2.1+1),a06 s.2.2.2.1 (a02 s.2.2.1) (bits .u8 .xor (a04 s.2.2.2.1 (a02 s.2.2.1) 0) x2),()))) none) none) (some (.inr (s.2.2.2.1,())))
def a2W(x:(LI×LI)):Option (LI×LI):=(y0h a2y (x.2,x.1,())).bind fun w1=>(y0h a2z (w1.1,(w1.1.length:Int),0,w1.2.1,())).bind fun w3=>some (w3.1,[])
def b1n:FSem:=⟨[.r true (.o QV),.v QB],[.o QV],a2W⟩
def H99:Hints:=⟨[(12,[.sv 1 QB,.own 0 0 QV],[Qe 0 [.sv 1 QB,.own 0 0 QV]]),(58,[.sv 15 QB,16,17,.own 0 0 QV],[Qe 2 [.own 0 0 QV]])],[],[]⟩
def a1X(s:(Z33×Z97)):Option ((Z33×Z97) ⊕ Z94):=cond (decide (s.2.2.2.2.2.1<s.2.2.2.2.1)) ((n0s s.2.2.2.1 s.2.2.2.2.2.1).bind fun x1=>(a3F x1).bind fun y2=>(a2W (s.2.2.2.2.2.2.1,x1.2.2.2.2.1)).bind fun y3=>some (.inl (s.1,bits .u8 .xor s.2.1 y2,bits .u8 .xor s.2.2.1 (wrap .u8 (x1.2.2.2.2.1.length:Int)),s.2.2.2.1,s.2.2.2.2.1,wrap .i64 (s.2.2.2.2.2.1+1),y3.1,s.2.2.2.2.2.2.2.1,()))) (some (.inr (s.1,s.2.1,s.2.2.1,s.2.2.2.2.2.2.1,s.2.2.2.2.2.2.2.1,())))
def a2p(x:Z33):Option Z31:=(y0h a1X (x,0,0,x,(x.length:Int),0,[],(0,false,false,false,[],()),())).bind fun w4=>cond (lim (3+(a00 w4.2.2.2.1))) ((n0s w4.1 0).bind fun x5=>some (x5.1,false,false,true,a01 ([wrap .u8 (w4.1.length:Int),w4.2.1,w4.2.2.1]:List Int) w4.2.2.2.1,())) none
def b1o:FSem:=⟨[.v (.list false Q15)],[.v Q15],a2p⟩
def H67:Hints:=⟨[(122,[.sv 0 (.list false Q15),.sv 3 QV,.sv 4 QV,.sv 9 (.list false Q15),10,11,.own 5 5 QV,.box 2 Q15,Qp 2 2],[Qe 0 [.sv 0 (.list false Q15),.sv 3 QV,.sv 4 QV,.own 5 5 QV,.box 2 Q15,Qp 2 2]])],[],[]⟩
def a3i(s:Z91):Option (Z91 ⊕ (Z41 ⊕ Z49)):=cond (decide (s.2.2.2.1<s.2.2.1)) ((n0s s.2.1 s.2.2.2.1).bind fun x1=>(show Option (Z33×Int×Z33×Int×Int×Z44)from(a2x x1).bind fun y2=>cond (!y2) (some (s.1,s.2.2.2.1,s.2.1,s.2.2.1,s.2.2.2.1,true,x1,())) (some (s.1,s.2.2.2.1,s.2.1,s.2.2.1,s.2.2.2.1,x1.2.2.2.1,x1,()))).bind fun z3=>cond z3.2.2.2.2.2.1 (some (.inr (Sum.inr ((1,[],()))))) ((show Option (Z33×Z33×Z6)from cond (decide (z3.2.1 > 0)) ((n0s z3.1 (wrap .i64 (z3.2.1-1))).bind fun x4=>some (z3.1,z3.2.2.1,z3.2.2.2.1,z3.2.2.2.2.1,z3.2.2.2.2.2.2.1.1 != (wrap .i64 (x4.1+1)),())) (some (z3.1,z3.2.2.1,z3.2.2.2.1,z3.2.2.2.2.1,false,()))).bind fun z5=>cond z5.2.2.2.2.1 (some (.inr (Sum.inr ((1,[],()))))) (some (.inl (z5.1,z5.2.1,z5.2.2.1,wrap .i64 (z5.2.2.2.1+1),()))))) (some (.inr (Sum.inl (s.1,()))))
def a3j(s:(Z33×Int×Z33×Z33×Z56)):Option ((Z33×Int×Z33×Z33×Z56) ⊕ (Z33×Z88)):=cond (decide (s.2.2.2.2.2.1<s.2.2.2.2.1)) ((n0s s.2.2.2.1 s.2.2.2.2.2.1).bind fun x9=>(a3b x9).bind fun y10=>cond (lim ((a00 s.2.2.2.2.2.2.1)+1)) (some (.inl (s.1,s.2.1,s.2.2.1,s.2.2.2.1,s.2.2.2.2.1,wrap .i64 (s.2.2.2.2.2.1+1),a01 s.2.2.2.2.2.2.1 ([y10]:List Z31),()))) none) (some (.inr (s.1,s.2.1,s.2.2.1,s.2.2.2.2.2.2.1,())))
def a5t(s:Z89):Option (Z89 ⊕ Z41):=cond (decide (s.2.1<(s.1.length:Int))) (cond ((decide (0≤(y0e (wrap .i64 (s.2.1+8)) (s.1.length:Int))))&&(decide ((y0e (wrap .i64 (s.2.1+8)) (s.1.length:Int))≤(s.1.length:Int)))) (cond ((decide (0≤s.2.1))&&(decide (s.2.1≤((a02 (y0e (wrap .i64 (s.2.1+8)) (s.1.length:Int)):Nat):Int)))) ((y0h a3j (s.1,s.2.1,a05 (a02 s.2.1) (a03 (a02 (y0e (wrap .i64 (s.2.1+8)) (s.1.length:Int))) s.1),a05 (a02 s.2.1) (a03 (a02 (y0e (wrap .i64 (s.2.1+8)) (s.1.length:Int))) s.1),((a00 (a05 (a02 s.2.1) (a03 (a02 (y0e (wrap .i64 (s.2.1+8)) (s.1.length:Int))) s.1)):Nat):Int),0,s.2.2.1,())).bind fun w11=>(a2p w11.2.2.1).bind fun y12=>cond (lim ((a00 w11.2.2.2.1)+1)) (some (.inl (w11.1,wrap .i64 (w11.2.1+8),a01 w11.2.2.2.1 ([y12]:List Z31),()))) none) none) none) (some (.inr (s.2.2.1,())))
def a3G(x:Z33):Option Z38:=(y0h a3i (x,x,(x.length:Int),0,())).bind fun w6=>match w6 with |.inl a7=>((y0h a5t (a7.1,0,[],())).bind fun w13=>some (w13.1,0)) |.inr b8=>some (b8.2.1,b8.1)
def b1p:FSem:=⟨[.v (.list false Q15)],[.o Q15,.v QI],a3G⟩
def H19:Hints:=⟨[(26,[.sv 0 (.list false Q15),.sv 11 (.list false Q15),12,13],[Qe 0 [.sv 0 (.list false Q15)],Qr [3,.own 2 2 Q15]]),(122,[.sv 0 (.list false Q15),7,.own 6 6 Q15],[Qe 2 [.own 6 6 Q15]]),(31306,[.sv 0 (.list false Q15),7,.sv 8 (.list false Q15),.sv 54 (.list false Q15),55,56,.own 6 6 Q15],[Qe 4 [.sv 0 (.list false Q15),7,.sv 8 (.list false Q15),.own 6 6 Q15]])],[(3378,[Qn [.sv 0 (.list false Q15),4,.sv 11 (.list false Q15),12,13,.sv 24 .bool,.box 5 Q15,Qp 5 5]]),(3379,[Qn [.sv 0 (.list false Q15),.sv 11 (.list false Q15),12,13,.sv 38 .bool]])],[(6,[.x,.x,.x,.q,.q,.v,.v,.v,.v,.v,.v,.v,.x,.x])]⟩
def a4r(s:Z68):Option (Z68 ⊕ ((LI×Unit) ⊕ Z2)):=cond (decide (s.2.2.1<s.2.1)) ((n0s s.1 s.2.2.1).bind fun x1=>(a2V x1).bind fun y2=>cond (y2.2 != 0) (some (.inr (Sum.inr ((y2.2,[],()))))) (cond (lim ((a00 s.2.2.2.1)+(a00 y2.1))) (some (.inl (s.1,s.2.1,wrap .i64 (s.2.2.1+1),a01 s.2.2.2.1 y2.1,()))) none)) (some (.inr (Sum.inl (s.2.2.2.1,()))))
def a3H(x:Z33):Option (LI×Int):=(y0h a4r (x,(x.length:Int),0,[],())).bind fun w3=>match w3 with |.inl a4=>some (a4.1,0) |.inr b5=>some (b5.2.1,b5.1)
def b1q:FSem:=⟨[.v (.list false Q15)],[.o QV,.v QI],a3H⟩
def H20:Hints:=⟨[(58,[.sv 9 (.list false Q15),10,11,.own 4 4 QV],[Qe 0 [.own 4 4 QV],Qr [3,.own 2 2 QV]])],[],[]⟩
def a6l(x:(Int×Int×Unit)):Option Bool:=cond (decide (x.1≥1)) (cond (decide (x.1≤1048576)) (cond (decide (x.2.1≥1)) (some (decide (x.2.1≤1048576))) (some false)) (some false)) (some false)
def b3F:FSem:=⟨[.v Q3],[.v .bool],a6l⟩
def a6i(x:Int):Option Bool:=cond (decide (4≤x)) (some (decide (x≤24))) (some false)
def b0X:FSem:=⟨[.v QI],[.v .bool],a6i⟩
def a6j(x:Z5):Option Bool:=cond (decide (1≤x.1)) (cond (decide (x.1≤1048576)) (cond (decide (1≤x.2.1)) (cond (decide (x.2.1≤8)) ((a6i x.2.2.1).bind fun y1=>some y1) (some false)) (some false)) (some false)) (some false)
def b0Y:FSem:=⟨[.v Q7],[.v .bool],a6j⟩
def a3c(x:(Int×Int)):Option Bool:=cond (decide (x.1≥1)) (some (decide (x.1≤x.2))) (some false)
def b0Z:FSem:=⟨[.v QI,.v QI],[.v .bool],a3c⟩
def a4H(x:Z70):Option Bool:=(fun(a:Z5)(b c d e:Int)=>(a6l x.2.1).bind fun y1=>cond (!y1) (some false) (cond (x.1==1) ((a6j a).bind fun y2=>cond y2 (cond (b==0) (cond (c==0) (cond (d==0) (some (e==0)) (some false)) (some false)) (some false)) (some false)) (cond (x.1==2) ((a3c (b,64)).bind fun y3=>cond y3 ((a3c (c,64)).bind fun y4=>cond y4 ((a3c (d,16)).bind fun y5=>cond y5 ((a3c (e,4)).bind fun y6=>cond y6 (some (eqT Q7 a ((0: Int),(0: Int),(0: Int),()))) (some false)) (some false)) (some false)) (some false)) (some false)))) x.2.2.1 x.2.2.2.1 x.2.2.2.2.1 x.2.2.2.2.2.1 x.2.2.2.2.2.2.1
def b3G:FSem:=⟨[.v Q21],[.v .bool],a4H⟩
def a3S(x:(Int×Int)):Option Bool:=cond (decide (x.1≥0)) (cond (decide (x.1≤1125899906842624)) (cond (decide (x.2≥0)) (some (decide (x.2≤2147483647))) (some false)) (some false)) (some false)
def a8O:FSem:=⟨[.v QI,.v QI],[.v .bool],a3S⟩
def a4I(s:(Int×Z26)):Option ((Int×Z26) ⊕ (Int×Z26)):=(fun(a b c:Int)(d:LI)=>cond (decide (a≥128)) (cond (lim ((a00 d)+1)) (some (.inl (wrap .u64 (a17 a 128),s.2.1,b,c,a01 d [wrap .u8 ((wrap .u8 (a07 a 128))+128)],()))) none) (some (.inr (a,s.2.1,b,c,d,())))) s.1 s.2.2.1 s.2.2.2.1 s.2.2.2.2.1
def a4J(s:Z26):Option (Z26 ⊕ (LI×Unit)):=cond (decide (s.2.2.1<s.2.1)) ((n0s s.1 s.2.2.1).bind fun x1=>(y0h a4I (x1,s.1,s.2.1,s.2.2.1,s.2.2.2.1,())).bind fun w2=>cond (lim ((a00 w2.2.2.2.2.1)+1)) (some (.inl (w2.2.1,w2.2.2.1,wrap .i64 (w2.2.2.2.1+1),a01 w2.2.2.2.2.1 [wrap .u8 w2.1],()))) none) (some (.inr (s.2.2.2.1,())))
def a1C(x:LI):Option LI:=(y0h a4J (x,(x.length:Int),0,[],())).bind fun w3=>some w3.1
def b2E:FSem:=⟨[.v (.list false QU)],[.o QV],a1C⟩
def H70:Hints:=⟨[(58,[.sv 6 (.list false QU),7,8,.own 3 3 QV],[Qe 0 [.own 3 3 QV]]),(14948,[.sv 5 QU,.sv 6 (.list false QU),7,8,.own 3 3 QV],[Qe 2 [.sv 5 QU,.sv 6 (.list false QU),7,8,.own 3 3 QV]])],[],[]⟩
def a5a(x:Int):Option Int:=cond (decide (x≥0)) (some (wrap .u64 (2*(wrap .u64 x)))) (some (wrap .u64 ((wrap .u64 (2*(wrap .u64 (wrap .i64 (0-(wrap .i64 (x+1)))))))+1)))
def b2F:FSem:=⟨[.v QI],[.v QU],a5a⟩
def a3T(s:(Z11×Z11×Int×Int×Unit)):Option ((Z11×Z11×Int×Int×Unit) ⊕ (Z20 ⊕ Z2)):=cond (decide (s.2.2.2.1<s.2.2.1)) ((n0s s.2.1 s.2.2.2.1).bind fun x1=>(show Option (Z11×Z11×Z6)from cond (decide (x1.1<0)) (some (s.1,s.2.1,s.2.2.1,s.2.2.2.1,true,())) (cond (decide (x1.1≥4)) (some (s.1,s.2.1,s.2.2.1,s.2.2.2.1,true,())) ((a3S (x1.2.1,x1.2.2.1)).bind fun y2=>some (s.1,s.2.1,s.2.2.1,s.2.2.2.1,!y2,())))).bind fun z3=>cond z3.2.2.2.2.1 (some (.inr (Sum.inr ((1,[],()))))) (some (.inl (z3.1,z3.2.1,z3.2.2.1,wrap .i64 (z3.2.2.2.1+1),())))) (some (.inr (Sum.inl (s.1,()))))
def a2X(s:(Int×Int×Z11×Z9)):Option ((Int×Int×Z11×Z9) ⊕ (LI×Unit)):=cond (decide (s.2.2.2.2.1<s.2.2.2.1)) ((n0s s.2.2.1 s.2.2.2.2.1).bind fun x8=>(a5a (wrap .i64 (x8.2.1-s.1))).bind fun y9=>(a5a (wrap .i64 (x8.2.2.1-s.2.1))).bind fun y10=>(a1C [wrap .u64 x8.1,y9,y10]).bind fun y11=>cond (lim ((a00 s.2.2.2.2.2.1)+(a00 y11))) (some (.inl (x8.2.1,x8.2.2.1,s.2.2.1,s.2.2.2.1,wrap .i64 (s.2.2.2.2.1+1),a01 s.2.2.2.2.2.1 y11,()))) none) (some (.inr (s.2.2.2.2.2.1,())))
def a3Z(x:Z11):Option (LI×Int):=(y0h a3T (x,x,(x.length:Int),0,())).bind fun w4=>match w4 with |.inl a5=>((a1C ([wrap .u64 (a5.1.length:Int)]:List Int)).bind fun y7=>(y0h a2X (0,0,a5.1,(a5.1.length:Int),0,y7,())).bind fun w12=>(a0Z w12.1).bind fun y13=>(a1U (wrap .u64 y13,4)).bind fun y14=>cond (lim ((a00 w12.1)+(a00 y14))) (some (a01 w12.1 y14,0)) none) |.inr b6=>some (b6.2.1,b6.1)
def b1a:FSem:=⟨[.v (.list false Q7)],[.o QV,.v QI],a3Z⟩
def H21:Hints:=⟨[(26,[.sv 0 (.list false Q7),.sv 12 (.list false Q7),13,14],[Qe 0 [.sv 0 (.list false Q7)],Qr [3,.own 2 2 QV]]),(250,[7,8,.sv 40 (.list false Q7),41,42,.own 6 6 QV],[Qe 2 [.own 6 6 QV]])],[(1689,[Qn [.sv 0 (.list false Q7),.sv 12 (.list false Q7),13,14,.sv 33 .bool]])],[(13,[.q,.q,.q,.v,.q,.q,.v,.v,.v,.v,.v,.v,.v,.q,.q,.x,.x])]⟩
def a1D(x:LI):Option Z10:=cond (lim (a00 x)) (some (x,0,0,())) none
def b2G:FSem:=⟨[.v QB],[.b Q10],a1D⟩
def a1L(x:Z10):Option Z18:=some (wrap .i64 ((x.1.length:Int)-x.2.1),x)
def a7P:FSem:=⟨[.r false (.b Q10)],[.v QI],a1L⟩
def H53:Hints:=⟨[],[],[(1,[.p,.p,.q,.q,.v,.p,.p,.q,.q,.x,.x])]⟩
def a2h(x:(Z10×Int)):Option (LI×Z10):=cond (x.1.2.2.1 != 0) (some ([],x.1)) ((a1L x.1).bind fun y1=>cond (decide ((y0d x.2 0) > y1.1)) (some ([],y1.2.1,y1.2.2.1,3,y1.2.2.2.2)) (cond ((decide (0≤(wrap .i64 (y1.2.2.1+(y0d x.2 0)))))&&(decide ((wrap .i64 (y1.2.2.1+(y0d x.2 0)))≤(y1.2.1.length:Int)))) (cond ((decide (0≤y1.2.2.1))&&(decide (y1.2.2.1≤((a02 (wrap .i64 (y1.2.2.1+(y0d x.2 0))):Nat):Int)))) (cond (lim (a00 (a05 (a02 y1.2.2.1) (a03 (a02 (wrap .i64 (y1.2.2.1+(y0d x.2 0)))) y1.2.1)))) (some (a05 (a02 y1.2.2.1) (a03 (a02 (wrap .i64 (y1.2.2.1+(y0d x.2 0)))) y1.2.1),y1.2.1,wrap .i64 (y1.2.2.1+(y0d x.2 0)),y1.2.2.2)) none) none) none))
def a7Q:FSem:=⟨[.r false (.b Q10),.v QI],[.o QV],a2h⟩
def H49:Hints:=⟨[],[],[(7,[.p,.p,.q,.q,.p,.p,.q,.q,.p,.p,.q,.q,.v,.v,.x,.x,.x])]⟩
def a2A(s:(Int×(Int×(Int×(LI×Z21))))):Option ((Int×(Int×(Int×(LI×Z21)))) ⊕ (Int×Z21)):=cond (decide (s.2.2.1<s.2.1)) (cond ((decide (0≤s.2.2.1))&&(decide (s.2.2.1<(s.2.2.2.1.length:Int)))) (some (.inl (wrap .u64 ((wrap .u64 (s.1*256))+(wrap .u64 (a04 s.2.2.2.1 (a02 s.2.2.1) 0))),s.2.1,wrap .i64 (s.2.2.1+1),s.2.2.2.1,s.2.2.2.2.1,()))) none) (some (.inr (s.1,s.2.2.2.2.1,())))
def a0M(x:(Z10×Int)):Option Z18:=(a2D x.2).bind fun y1=>(a2h (x.1,y1)).bind fun y2=>(y0h a2A (0,(y2.1.length:Int),0,y2.1,y2.2,())).bind fun w3=>some (w3.1,w3.2.1)
def a7V:FSem:=⟨[.r false (.b Q10),.v QI],[.v QU],a0M⟩
def H56:Hints:=⟨[(58,[.sv 5 QU,12,13,.own 11 1011 QV,.box pinned Q10],[Qe 0 [.sv 5 QU,.box pinned Q10]])],[],[]⟩
def a2m(x:LI):Option (Z32×Int):=cond (decide ((x.length:Int)<18)) (some ((0,0,0,false,false,[],()),3)) (cond (decide ((x.length:Int) > 65554)) (some ((0,0,0,false,false,[],()),4)) ((a1D x).bind fun y1=>(a0M (y1,1)).bind fun y2=>(a0M (y2.2,1)).bind fun y3=>(a0M (y3.2,8)).bind fun y4=>(a0M (y4.2,8)).bind fun y5=>(show Option (LI×(Int×Int×Int×Int×Bool×Z40))from cond (decide (y2.1≥4)) (some (x,y2.1,y3.1,y4.1,y5.1,true,(0,0,0,false,false,[],()),())) (cond (decide (y3.1 > 3)) (some (x,y2.1,y3.1,y4.1,y5.1,true,(0,0,0,false,false,[],()),())) (cond (decide (y4.1 > 1125899906842624)) (some (x,y2.1,y3.1,y4.1,y5.1,true,(0,0,0,false,false,[],()),())) (some (x,y2.1,y3.1,y4.1,y5.1,decide (y5.1 > 1125899906842624),(0,0,0,false,false,[],()),()))))).bind fun z6=>cond z6.2.2.2.2.2.1 (some ((0,0,0,false,false,[],()),2)) (cond (decide (18≤(z6.1.length:Int))) ((a2E (a05 18 (a03 (a00 z6.1) z6.1))).bind fun y7=>some ((wrap .i64 z6.2.1,wrap .i64 z6.2.2.2.1,wrap .i64 z6.2.2.2.2.1,(bits .u64 .and z6.2.2.1 1) != 0,(bits .u64 .and z6.2.2.1 2) != 0,y7,()),0)) none)))
def b2H:FSem:=⟨[.v QB],[.v Q17,.v QI],a2m⟩
def H73:Hints:=⟨[],[(126,[Qn [.sv 0 QB,.sv 5 QU,.sv 6 QU,.sv 7 QU,.sv 8 QU,.sv 40 .bool,.box 2 Q17,Qp 2 2]])],[]⟩
def a5i(s:(Z33×Int×Z27)):Option ((Z33×Int×Z27) ⊕ Z20):=cond (decide (s.2.2.1<s.2.1)) ((n0s s.1 s.2.2.1).bind fun x1=>cond (!x1.2.1) (some (.inl (s.1,s.2.1,wrap .i64 (s.2.2.1+1),s.2.2.2.1,()))) (cond x1.2.2.2.1 (some (.inl (s.1,s.2.1,wrap .i64 (s.2.2.1+1),s.2.2.2.1,()))) (cond (decide ((x1.2.2.2.2.1.length:Int)<18)) (some (.inl (s.1,s.2.1,wrap .i64 (s.2.2.1+1),s.2.2.2.1,()))) ((a2V x1).bind fun y2=>cond (y2.2 != 0) (some (.inl (s.1,s.2.1,wrap .i64 (s.2.2.1+1),s.2.2.2.1,()))) (cond (decide (18≤(x1.2.2.2.2.1.length:Int))) ((a2m (a03 18 x1.2.2.2.2.1)).bind fun y3=>cond (y3.2 != 0) (some (.inl (s.1,s.2.1,wrap .i64 (s.2.2.1+1),s.2.2.2.1,()))) (cond (!y3.1.2.2.2.1) (some (.inl (s.1,s.2.1,wrap .i64 (s.2.2.1+1),s.2.2.2.1,()))) (cond (lim ((a00 s.2.2.2.1)+1)) (some (.inl (s.1,s.2.1,wrap .i64 (s.2.2.1+1),a01 s.2.2.2.1 ([(y3.1.1,y3.1.2.1,x1.1,())]:List Z5),()))) none))) none))))) (some (.inr (s.2.2.2.1,())))
def a6m(x:Z33):Option Z11:=(y0h a5i (x,(x.length:Int),0,[],())).bind fun w4=>some w4.1
def b3H:FSem:=⟨[.v (.list false Q15)],[.o Q7],a6m⟩
def H22:Hints:=⟨[(58,[.sv 10 (.list false Q15),11,12,.own 3 3 Q7],[Qe 0 [.own 3 3 Q7]])],[],[]⟩
def a3U(s:(Int×Int×Z7)):Option ((Int×Int×Z7) ⊕ (LI×Unit)):=cond (decide (s.2.1<s.1)) (cond ((decide (0≤s.2.1))&&(decide (s.2.1<(s.2.2.2.1.length:Int)))) (cond (lim ((a00 s.2.2.1)+2)) (some (.inl (s.1,wrap .i64 (s.2.1+1),a01 s.2.2.1 [wrap .u8 (96+(E0j .u8 (a04 s.2.2.2.1 (a02 s.2.1) 0) 4)),wrap .u8 (96+(bits .u8 .and (a04 s.2.2.2.1 (a02 s.2.1) 0) 15))],s.2.2.2.1,()))) none) none) (some (.inr (s.2.2.1,())))
def a4a(x:Z33):Option (LI×Int):=(a6m x).bind fun y1=>(a3Z y1).bind fun y2=>cond (y2.2 != 0) (some ([],y2.2)) ((y0h a3U ((y2.1.length:Int),0,[],y2.1,())).bind fun w3=>(a1U (wrap .u64 (w3.1.length:Int),4)).bind fun y4=>cond (lim ((a00 w3.1)+(a00 y4))) (cond (lim ((a00 (a01 w3.1 y4))+4)) (some (a01 (a01 w3.1 y4) [75,69,78,68],0)) none) none)
def b1b:FSem:=⟨[.v (.list false Q15)],[.o QV,.v QI],a4a⟩
def H40:Hints:=⟨[(250,[19,20,.own 6 6 QV,.own 18 4 QV],[Qe 0 [.own 6 6 QV]])],[],[]⟩
def a2Y(s:(Z75×Z9)):Option ((Z75×Z9) ⊕ (LI×Unit)):=cond (decide (s.2.2.1<s.2.1)) ((n0s s.1 s.2.2.1).bind fun x2=>(a1C [wrap .u64 x2.1,wrap .u64 x2.2.1.1,wrap .u64 x2.2.1.2.1]).bind fun y3=>cond (lim ((a00 s.2.2.2.1)+(a00 y3))) (cond (x2.1==1) ((a1C [wrap .u64 x2.2.2.1.1,wrap .u64 x2.2.2.1.2.1,wrap .u64 x2.2.2.1.2.2.1]).bind fun y4=>cond (lim ((a00 (a01 s.2.2.2.1 y3))+(a00 y4))) (some (.inl (s.1,s.2.1,wrap .i64 (s.2.2.1+1),a01 (a01 s.2.2.2.1 y3) y4,()))) none) ((a1C [wrap .u64 x2.2.2.2.1,wrap .u64 x2.2.2.2.2.1,wrap .u64 x2.2.2.2.2.2.1,wrap .u64 x2.2.2.2.2.2.2.1]).bind fun y5=>cond (lim ((a00 (a01 s.2.2.2.1 y3))+(a00 y5))) (some (.inl (s.1,s.2.1,wrap .i64 (s.2.2.1+1),a01 (a01 s.2.2.2.1 y3) y5,()))) none)) none) (some (.inr (s.2.2.2.1,())))
def a3d(x:Z75):Option LI:=(a1C ([wrap .u64 (x.length:Int)]:List Int)).bind fun y1=>cond (lim (6+(a00 y1))) ((y0h a2Y (x,(x.length:Int),0,a01 [75,73,78,79,82,65] y1,())).bind fun w6=>(a0Z w6.1).bind fun y7=>(a1U (wrap .u64 y7,4)).bind fun y8=>cond (lim ((a00 w6.1)+(a00 y8))) (some (a01 w6.1 y8)) none) none
def b1c:FSem:=⟨[.v (.list false Q21)],[.o QV],a3d⟩
def H41:Hints:=⟨[(58,[.sv 15 (.list false Q21),16,17,.own 3 3 QV],[Qe 0 [.own 3 3 QV]])],[],[]⟩
def a3k(s:(Z75×Z45×Z75×Int×Int×Unit)):Option ((Z75×Z45×Z75×Int×Int×Unit) ⊕ ((Z75×Z45×Unit) ⊕ Z2)):=cond (decide (s.2.2.2.2.1<s.2.2.2.1)) ((n0s s.2.2.1 s.2.2.2.2.1).bind fun x2=>(a4H x2).bind fun y3=>cond (!y3) (some (.inr (Sum.inr ((1,[],()))))) (some (.inl (s.1,s.2.1,s.2.2.1,s.2.2.2.1,wrap .i64 (s.2.2.2.2.1+1),())))) (some (.inr (Sum.inl (s.1,s.2.1,()))))
def a2q(x:(Z75×Z45)):Option (LI×Int):=(show Option (Z75×Z45×Bool×Unit)from cond (decide ((x.1.length:Int)<1)) (some (x.1,x.2,true,())) (cond (decide ((x.1.length:Int) > 4)) (some (x.1,x.2,true,())) (some (x.1,x.2,(x.2.length:Int) != (x.1.length:Int),())))).bind fun z1=>cond z1.2.2.1 (some ([],1)) ((y0h a3k (z1.1,z1.2.1,z1.1,(z1.1.length:Int),0,())).bind fun w4=>match w4 with |.inl a5=>((a3t a5.2.1).bind fun y7=>cond (y7.2 != 0) (some ([],y7.2)) ((a3E (y7.1,0)).bind fun y8=>cond (y8.2 != 0) (some ([],y8.2)) ((a3G y8.1).bind fun y9=>cond (y9.2 != 0) (some ([],y9.2)) ((a3H y9.1).bind fun y10=>cond (y10.2 != 0) (some ([],y10.2)) ((a4a y9.1).bind fun y11=>cond (y11.2 != 0) (some ([],y11.2)) ((a3d a5.1).bind fun y12=>cond (lim ((a00 y12)+(a00 y10.1))) (cond (lim ((a00 (a01 y12 y10.1))+(a00 y11.1))) (some (a01 (a01 y12 y10.1) y11.1,0)) none) none)))))) |.inr b6=>some (b6.2.1,b6.1))
def b1r:FSem:=⟨[.v (.list false Q21),.v (.list false (.list false Q17))],[.o QV,.v QI],a2q⟩
def H10:Hints:=⟨[(58,[.sv 0 (.list false Q21),.sv 1 (.list false (.list false Q17)),.sv 28 (.list false Q21),29,30],[Qe 0 [.sv 0 (.list false Q21),.sv 1 (.list false (.list false Q17))],Qr [5,.own 4 4 QV]])],[(6,[Qn [.sv 0 (.list false Q21),.sv 1 (.list false (.list false Q17)),.sv 27 .bool]])],[]⟩
def a3x(s:Z18):Option (Z18 ⊕ (Unit ⊕ Z5)):=(fun(a:Int)(b:LI)(c d:Int)=>cond (decide (d<c)) ((n0s b d).bind fun x1=>(show Option (Int×(Int×(Int×(LI×Z6))))from cond (d==9) (cond (decide (x1 > 1)) (some (a,d,x1,b,c,d,true,())) (cond (decide (d > 0)) (some (a,d,x1,b,c,d,x1==0,())) (some (a,d,x1,b,c,d,false,())))) (cond (decide (d > 0)) (some (a,d,x1,b,c,d,x1==0,())) (some (a,d,x1,b,c,d,false,())))).bind fun z2=>cond z2.2.2.2.2.2.2.1 (some (.inr (Sum.inr ((0,0,2,()))))) (cond (decide ((wrap .i64 (7*z2.2.1))<0)) none (cond (decide (z2.2.2.1<128)) (some (.inr (Sum.inr ((bits .u64 .or z2.1 (E0i .u64 (wrap .u64 (a07 z2.2.2.1 128)) (wrap .i64 (7*z2.2.1))),wrap .i64 (z2.2.1+1),0,()))))) (some (.inl (bits .u64 .or z2.1 (E0i .u64 (wrap .u64 (a07 z2.2.2.1 128)) (wrap .i64 (7*z2.2.1))),z2.2.2.2.1,z2.2.2.2.2.1,wrap .i64 (z2.2.2.2.2.2.1+1),())))))) (some (.inr (Sum.inl ())))) s.1 s.2.1 s.2.2.1 s.2.2.2.1
def a4K(x:LI):Option (Int×Int×Int):=(y0h a3x (0,x,(x.length:Int),0,())).bind fun w3=>match w3 with |.inl a4=>some (0,0,3) |.inr b5=>some (b5.1,b5.2.1,b5.2.2.1)
def a9I:FSem:=⟨[.v QB],[.v QU,.v QI,.v QI],a4K⟩
def H92:Hints:=⟨[(58,[.sv 5 QU,.sv 8 QB,9,10],[Qe 0 [],Qr [.sv 2 QU,3,4]])],[(7474,[Qn [.sv 5 QU,6,.sv 7 QV,.sv 8 QB,9,10,.sv 28 .bool]])],[]⟩
def a0I(x:(Z10×Int)):Option Z18:=cond (x.1.2.2.1 != 0) (some (0,x.1)) (cond ((decide (0≤x.1.2.1))&&(decide (x.1.2.1≤(x.1.1.length:Int)))) ((a4K (a05 (a02 x.1.2.1) (a03 (a00 x.1.1) x.1.1))).bind fun y1=>(show Option (Int×Int×Int×Z21)from cond (y1.2.2==0) (cond (decide (y1.1 > x.2)) (some (y1.1,y1.2.1,4,x.1,())) (some (y1.1,y1.2.1,y1.2.2,x.1,()))) (some (y1.1,y1.2.1,y1.2.2,x.1,()))).bind fun z2=>cond (z2.2.2.1 != 0) (some (0,z2.2.2.2.1.1,z2.2.2.2.1.2.1,z2.2.2.1,z2.2.2.2.1.2.2.2)) (some (z2.1,z2.2.2.2.1.1,wrap .i64 (z2.2.2.2.1.2.1+z2.2.1),z2.2.2.2.1.2.2))) none)
def a7W:FSem:=⟨[.r false (.b Q10),.v QU],[.v QU],a0I⟩
def H50:Hints:=⟨[],[(15,[Qn [.sv 5 QU,6,7,.box pinned Q10,Qp 0 pinned]])],[(3,[.p,.p,.q,.q,.p,.p,.q,.q,.x,.x,.x,.v,.v,.v,.v,.v,.x])]⟩
def a5b(x:Z10):Option (Z70×Z10):=(a0I (x,2)).bind fun y1=>(a0I (y1.2,1048576)).bind fun y2=>(a0I (y2.2,1048576)).bind fun y3=>cond ((wrap .i64 y1.1)==1) ((a0I (y3.2,1048576)).bind fun y4=>(a0I (y4.2,8)).bind fun y5=>(a0I (y5.2,24)).bind fun y6=>some ((wrap .i64 y1.1,(wrap .i64 y2.1,wrap .i64 y3.1,()),(wrap .i64 y4.1,wrap .i64 y5.1,wrap .i64 y6.1,()),0,0,0,0,()),y6.2)) ((a0I (y3.2,64)).bind fun y7=>(a0I (y7.2,64)).bind fun y8=>(a0I (y8.2,16)).bind fun y9=>(a0I (y9.2,4)).bind fun y10=>some ((wrap .i64 y1.1,(wrap .i64 y2.1,wrap .i64 y3.1,()),(0,0,0,()),wrap .i64 y7.1,wrap .i64 y8.1,wrap .i64 y9.1,wrap .i64 y10.1,()),y10.2))
def b2I:FSem:=⟨[.r false (.b Q10)],[.v Q21],a5b⟩
def a2r(x:Z10):Option Z18:=some (x.2.2.1,x)
def a7X:FSem:=⟨[.r false (.b Q10)],[.v QI],a2r⟩
def a3y(x:Z10):Option Z18:=some (x.2.1,x)
def a8z:FSem:=⟨[.r false (.b Q10)],[.v QI],a3y⟩
def a3I(s:(LI×Z95)):Option ((LI×Z95) ⊕ (LI×Z93)):=cond (decide (s.2.1 > 0)) ((a5b s.2.2.2.1).bind fun y4=>cond (lim ((a00 s.2.2.1)+1)) (some (.inl (s.1,wrap .u64 (s.2.1-1),a01 s.2.2.1 ([y4.1]:List Z70),y4.2,()))) none) (some (.inr (s.1,s.2.2.1,s.2.2.2.1,())))
def a3J(s:(LI×(Int×Z95))):Option ((LI×(Int×Z95)) ⊕ ((LI×Z93) ⊕ (Int×Int×Z75×Unit))):=cond (decide (s.2.2.1<s.2.1)) (cond ((decide (0≤s.2.2.1))&&(decide (s.2.2.1<(s.2.2.2.1.length:Int)))) ((a4H (a04 s.2.2.2.1 (a02 s.2.2.1) (0,(0,0,()),(0,0,0,()),0,0,0,0,()))).bind fun y7=>cond (!y7) (some (.inr (Sum.inr ((0,2,[],()))))) (some (.inl (s.1,s.2.1,wrap .i64 (s.2.2.1+1),s.2.2.2.1,s.2.2.2.2.1,())))) none) (some (.inr (Sum.inl (s.1,s.2.2.2.1,s.2.2.2.2.1,()))))
def a2n(x:LI):Option (Z75×Int×Int):=cond (decide ((x.length:Int)<6)) (some ([],0,3)) (cond (decide (6≤(x.length:Int))) (cond ((b2s (a03 6 x)) != [75,73,78,79,82,65]) (some ([],0,2)) ((a1D x).bind fun y1=>(a2h (y1,6)).bind fun y2=>(a0I (y2.2,4)).bind fun y3=>(y0h a3I (x,y3.1,[],y3.2,())).bind fun w5=>(a2r w5.2.2.1).bind fun y6=>cond (y6.1 != 0) (some ([],0,y6.1)) (cond ((w5.2.1.length:Int)==0) (some ([],0,2)) ((y0h a3J (w5.1,(w5.2.1.length:Int),0,w5.2.1,y6.2,())).bind fun w8=>match w8 with |.inl a9=>((a1L a9.2.2.1).bind fun y11=>cond (decide (y11.1<4)) (some ([],0,3)) ((a3y y11.2).bind fun y12=>cond ((decide (0≤y12.1))&&(decide (y12.1≤(a9.1.length:Int)))) ((a0Z (a03 (a02 y12.1) a9.1)).bind fun y13=>(a0M (y12.2,4)).bind fun y14=>cond (y14.1 != (wrap .u64 y13)) (some ([],0,5)) ((a3y y14.2).bind fun y15=>some (a9.2.1,y15.1,0))) none)) |.inr b10=>some (b10.2.2.1,b10.1,b10.2.1))))) none)
def b2J:FSem:=⟨[.v QB],[.o Q21,.v QI,.v QI],a2n⟩
def H16:Hints:=⟨[(1018,[.sv 0 QB,.sv 7 QU,.own 6 6 Q21,.box 1020 Q10,Qp 5 1020],[Qe 0 [.sv 0 QB,.own 6 6 Q21,.box 1020 Q10,Qp 5 1020]]),(8186,[.sv 0 QB,43,44,.own 6 6 Q21,.box 1020 Q10,Qp 5 1020,.ref 42 6 []],[Qe 2 [.sv 0 QB,.own 6 6 Q21,.box 1020 Q10,Qp 5 1020],Qr [3,4,.own 2 2 Q21]])],[],[]⟩
def a4j(x:(LI×Int)):Option (Z31×Int×Int):=(show Option (LI×(Int×Z44))from cond (decide (x.2<0)) (some (x.1,x.2,true,(0,false,false,false,[],()),())) (some (x.1,x.2,decide (x.2 > (x.1.length:Int)),(0,false,false,false,[],()),()))).bind fun z1=>cond z1.2.2.1 (some ((0,false,false,false,[],()),0,6)) (cond ((decide (0≤z1.2.1))&&(decide (z1.2.1≤(z1.1.length:Int)))) (cond (decide ((a00 (a05 (a02 z1.2.1) (a03 (a00 z1.1) z1.1)):Int)<2)) (some ((0,false,false,false,[],()),0,3)) ((show Option (LI×Z44)from(n0s (a05 (a02 z1.2.1) (a03 (a00 z1.1) z1.1)) 0).bind fun x2=>cond (x2 != 75) (some (a05 (a02 z1.2.1) (a03 (a00 z1.1) z1.1),true,z1.2.2.2.1,())) ((n0s (a05 (a02 z1.2.1) (a03 (a00 z1.1) z1.1)) 1).bind fun x3=>some (a05 (a02 z1.2.1) (a03 (a00 z1.1) z1.1),x3 != 80,z1.2.2.2.1,()))).bind fun z4=>cond z4.2.1 (some ((0,false,false,false,[],()),0,2)) (cond (decide ((z4.1.length:Int)<8)) (some ((0,false,false,false,[],()),0,3)) (cond (decide (8≤(z4.1.length:Int))) ((a1D (a05 2 (a03 8 z4.1))).bind fun y5=>(a0M (y5,1)).bind fun y6=>(a0M (y6.2,4)).bind fun y7=>(a0M (y7.2,1)).bind fun y8=>(show Option (LI×(Int×Int×Int×Bool×Z44))from cond (decide (y6.1 > 7)) (some (z4.1,y6.1,y7.1,wrap .i64 y8.1,(bits .u64 .and y6.1 4) != 0,true,z4.2.2.1,())) (cond (decide (y7.1 > 2147483647)) (some (z4.1,y6.1,y7.1,wrap .i64 y8.1,(bits .u64 .and y6.1 4) != 0,true,z4.2.2.1,())) (cond (decide ((wrap .i64 y8.1)<1)) (some (z4.1,y6.1,y7.1,wrap .i64 y8.1,(bits .u64 .and y6.1 4) != 0,true,z4.2.2.1,())) ((a1W ((bits .u64 .and y6.1 4) != 0)).bind fun y9=>some (z4.1,y6.1,y7.1,wrap .i64 y8.1,(bits .u64 .and y6.1 4) != 0,decide ((wrap .i64 y8.1) > y9),z4.2.2.1,()))))).bind fun z10=>cond z10.2.2.2.2.2.1 (some ((0,false,false,false,[],()),0,2)) (cond (decide ((z10.1.length:Int)<(wrap .i64 ((wrap .i64 (8+z10.2.2.2.1))+4)))) (some ((0,false,false,false,[],()),0,3)) (cond ((decide (0≤(wrap .i64 ((wrap .i64 (8+z10.2.2.2.1))+4))))&&(decide ((wrap .i64 ((wrap .i64 (8+z10.2.2.2.1))+4))≤(z10.1.length:Int)))) (cond ((decide (0≤(wrap .i64 (8+z10.2.2.2.1))))&&(decide ((wrap .i64 (8+z10.2.2.2.1))≤((a02 (wrap .i64 ((wrap .i64 (8+z10.2.2.2.1))+4)):Nat):Int)))) ((a1D (a05 (a02 (wrap .i64 (8+z10.2.2.2.1))) (a03 (a02 (wrap .i64 ((wrap .i64 (8+z10.2.2.2.1))+4))) z10.1))).bind fun y11=>(a0M (y11,4)).bind fun y12=>cond ((decide (0≤(wrap .i64 (8+z10.2.2.2.1))))&&(decide ((wrap .i64 (8+z10.2.2.2.1))≤(z10.1.length:Int)))) ((a0Z (a03 (a02 (wrap .i64 (8+z10.2.2.2.1))) z10.1)).bind fun y13=>cond (y12.1 != (wrap .u64 y13)) (some ((0,false,false,false,[],()),0,5)) (cond ((decide (0≤(wrap .i64 (8+z10.2.2.2.1))))&&(decide ((wrap .i64 (8+z10.2.2.2.1))≤(z10.1.length:Int)))) (cond (decide (8≤((a02 (wrap .i64 (8+z10.2.2.2.1)):Nat):Int))) ((a2E (a05 8 (a03 (a02 (wrap .i64 (8+z10.2.2.2.1))) z10.1))).bind fun y14=>some ((wrap .i64 z10.2.2.1,(bits .u64 .and z10.2.1 1) != 0,(bits .u64 .and z10.2.1 2) != 0,z10.2.2.2.2.1,y14,()),wrap .i64 ((wrap .i64 (8+z10.2.2.2.1))+4),0)) none) none)) none) none) none))) none)))) none)
def b2K:FSem:=⟨[.v QB,.v QI],[.v Q15,.v QI,.v QI],a4j⟩
def b8g:Hints:=⟨[],[(6,[Qn [.sv 0 QB,1,.sv 20 .bool,.box 4 Q15,Qp 4 4]]),(62,[Qn [.sv 0 QB,.sv 38 .bool,.box 4 Q15,Qp 4 4]]),(2046,[Qn [.sv 0 QB,.sv 8 QU,.sv 9 QU,10,.sv 11 .bool,.sv 72 .bool,.box 4 Q15,Qp 4 4]])],[(18,[.v,.v,.v,.v,.v,.q,.w [88,1087,1088],.v,.v,.v,.x,.x,.x])]⟩
def a1S(s:(LI×Z56)):Option ((LI×Z56) ⊕ Z49):=cond (decide (s.2.2.1<(s.1.length:Int))) ((a4j (s.1,s.2.2.1)).bind fun y1=>cond (y1.2.2 != 0) (some (.inl (s.1,wrap .i64 (s.2.1+1),wrap .i64 (s.2.2.1+1),s.2.2.2.1,()))) (cond (lim ((a00 s.2.2.2.1)+1)) (some (.inl (s.1,s.2.1,wrap .i64 (s.2.2.1+y1.2.1),a01 s.2.2.2.1 ([y1.1]:List Z31),()))) none)) (some (.inr (s.2.1,s.2.2.2.1,())))
def a5Y(x:LI):Option Z38:=(y0h a1S (x,0,0,[],())).bind fun w2=>some (w2.2.1,w2.1)
def b2L:FSem:=⟨[.v QB],[.o Q15,.v QI],a5Y⟩
def H89:Hints:=⟨[(122,[.sv 0 QB,5,6,.own 4 4 Q15],[Qe 0 [5,.own 4 4 Q15]])],[],[]⟩
def a4L(x:Z31):Option Bool:=cond x.2.2.2.1 (cond (decide ((x.2.2.2.2.1.length:Int) > 3)) ((n0s x.2.2.2.2.1 0).bind fun x1=>cond (decide (x1≥1)) ((n0s x.2.2.2.2.1 0).bind fun x2=>some (decide (x2≤8))) (some false)) (some false)) (some false)
def a4M:FSem:=⟨[.v Q15],[.v .bool],a4L⟩
def a1y(mb:Int)(mL:List Z34)(s:(Int×Int×Int×Int×Z33×Z35)):Option ((Int×Int×Int×Int×Z33×Z35) ⊕ Z56):=(n0s s.2.2.2.2.2.1.2.2.2.2.1 0).bind fun x1=>cond (decide (s.2.2.2.1<(wrap .i64 (s.2.2.2.2.2.1.1+(wrap .i64 x1))))) (cond (s.1==mb) (cond (a23 (g0l s.2.2.2.1 mL)) (cond (lim ((a00 s.2.2.2.2.1)+1)) (some (.inl (s.1,s.2.1,s.2.2.1,wrap .i64 (s.2.2.2.1+1),a01 s.2.2.2.2.1 ([Option.getD (g0l s.2.2.2.1 mL) (0,false,false,false,[],())]:List Z31),s.2.2.2.2.2.1,()))) none) (some (.inl (s.1,wrap .i64 (s.2.1+1),s.2.2.2.1,wrap .i64 (s.2.2.2.1+1),s.2.2.2.2.1,s.2.2.2.2.2.1,())))) none) (some (.inr (s.2.1,s.2.2.1,s.2.2.2.2.1,())))
def a2j(mb:Int)(mL:List Z34)(x:(Z31×Int)):Option (Int×Z33×Bool):=(y0h (a1y mb mL) (x.2,0,0,x.1.1,[],x.1,())).bind fun w2=>some (w2.2.1,w2.2.2.1,w2.1==1)
def b8h:Hints:=⟨[(122,[.sv 1 (.hd),8,9,10,.own 7 7 Q15,.vp 2 Q15],[Qe 0 [8,9,.own 7 7 Q15]])],[],[(4,[.v,.v,.v,.v,.v,.v,.v,.v,.v,.x])]⟩
def b5Q:Ty:=.pair QI Q11
def a2S(mb:Int)(mL:List Z34):FSem:=⟨[.v Q15,.v (.hd)],[.v QI,.o Q15,.v .bool],a2j mb mL⟩
def b5R(mb:Int)(mL:List Z34):Cx:=⟨b5j,b5i,T0,fun f=>find [] f,fun d=>find ([]:List (Nat×Ty)) d,fun i=>([0,1,4,5,6,7,8,9,10,12]:List Nat).contains i,fun i=>([2]:List Nat).contains i,{ G0 with m:=some ⟨b5Q,mb,mL⟩ }⟩
theorem b7t(g:Int)(h:List Z34)(x):E0e (b5R g h) b8h Tryz.f116 (a2S g h).ps (a2S g h).rs x=(a2S g h).F x:=by kernel_rfl
def a2s(s:(Int×Z97)):Option ((Int×Z97) ⊕ (Int×Z64)):=cond (decide (s.2.2.2.2.2.1<s.2.2.2.2.1)) ((n0s s.2.2.2.1 s.2.2.2.2.2.1).bind fun x3=>(a3F x3).bind fun y4=>(a2W (s.2.2.2.2.2.2.1,x3.2.2.2.2.1)).bind fun y5=>some (.inl (s.1,bits .u8 .xor s.2.1 y4,bits .u8 .xor s.2.2.1 (wrap .u8 (x3.2.2.2.2.1.length:Int)),s.2.2.2.1,s.2.2.2.2.1,wrap .i64 (s.2.2.2.2.2.1+1),y5.1,s.2.2.2.2.2.2.2.1,()))) (some (.inr (s.1,s.2.1,s.2.2.1,s.2.2.2.2.2.2.1,s.2.2.2.2.2.2.2.1,())))
def a2t(s:(Int×(Int×(LI×Z73)))):Option ((Int×(Int×(LI×Z73))) ⊕ ((Int×(Int×(LI×Z43))) ⊕ Z44)):=cond (decide (s.2.2.2.2.2.2.1<s.2.2.2.2.2.1)) ((n0s s.2.2.2.2.1 s.2.2.2.2.2.2.1).bind fun x8=>cond (x8 != 0) (some (.inr (Sum.inr ((false,(0,false,false,false,[],()),()))))) (some (.inl (s.1,s.2.1,s.2.2.1,s.2.2.2.1,s.2.2.2.2.1,s.2.2.2.2.2.1,wrap .i64 (s.2.2.2.2.2.2.1+1),s.2.2.2.2.2.2.2.1,())))) (some (.inr (Sum.inl (s.1,s.2.1,s.2.2.1,s.2.2.2.1,s.2.2.2.2.2.2.2.1,()))))
def a3l(x:(Z31×Z38)):Option (Z31×Bool):=(n0s x.1.2.2.2.2.1 1).bind fun x1=>(n0s x.1.2.2.2.2.1 2).bind fun x2=>cond (decide (3≤(x.1.2.2.2.2.1.length:Int))) (cond (lim (a00 (a05 3 (a03 (a00 x.1.2.2.2.2.1) x.1.2.2.2.2.1)))) ((y0h a2s (x.2.2,x1,x2,x.2.1,(x.2.1.length:Int),0,a05 3 (a03 (a00 x.1.2.2.2.2.1) x.1.2.2.2.2.1),(0,false,false,false,[],()),())).bind fun w6=>(show Option (Int×Int×Int×Bool×Z50)from cond (decide (w6.2.1 > 3)) (some (w6.1,w6.2.1,wrap .i64 w6.2.2.1,true,w6.2.2.2.1,w6.2.2.2.2.1,())) (cond (decide ((wrap .i64 w6.2.2.1)<1)) (some (w6.1,w6.2.1,wrap .i64 w6.2.2.1,true,w6.2.2.2.1,w6.2.2.2.2.1,())) (cond (decide ((wrap .i64 w6.2.2.1) > 252)) (some (w6.1,w6.2.1,wrap .i64 w6.2.2.1,true,w6.2.2.2.1,w6.2.2.2.2.1,())) (some (w6.1,w6.2.1,wrap .i64 w6.2.2.1,decide ((wrap .i64 w6.2.2.1) > (w6.2.2.2.1.length:Int)),w6.2.2.2.1,w6.2.2.2.2.1,()))))).bind fun z7=>cond z7.2.2.2.1 (some ((0,false,false,false,[],()),false)) (cond ((decide (0≤z7.2.2.1))&&(decide (z7.2.2.1≤(z7.2.2.2.2.1.length:Int)))) ((y0h a2t (z7.1,z7.2.1,z7.2.2.2.2.1,z7.2.2.1,a03 ((a00 z7.2.2.2.2.1)-(a02 z7.2.2.1)) (a05 (a02 z7.2.2.1) z7.2.2.2.2.1),(((a00 z7.2.2.2.2.1)-(a02 z7.2.2.1):Nat):Int),0,z7.2.2.2.2.2.1,())).bind fun w9=>match w9 with |.inl a10=>(cond ((decide (0≤a10.2.2.2.1))&&(decide (a10.2.2.2.1≤(a10.2.2.1.length:Int)))) (cond (lim (a00 (a03 (a02 a10.2.2.2.1) a10.2.2.1))) ((a2x (a10.1,(bits .u8 .and a10.2.1 1) != 0,(bits .u8 .and a10.2.1 2) != 0,false,a03 (a02 a10.2.2.2.1) a10.2.2.1,())).bind fun y12=>some ((a10.1,(bits .u8 .and a10.2.1 1) != 0,(bits .u8 .and a10.2.1 2) != 0,false,a03 (a02 a10.2.2.2.1) a10.2.2.1,()),y12)) none) none) |.inr b11=>some (b11.2.1,b11.1)) none)) none) none
def a4s:FSem:=⟨[.v Q15,.v (.list false Q15),.v QI],[.v Q15,.v .bool],a3l⟩
def b8i:Hints:=⟨[(122,[2,.sv 8 QV,.sv 9 QV,.sv 29 (.list false Q15),30,31,.own 10 10 QV,.box 6 Q15,Qp 6 6],[Qe 0 [2,.sv 8 QV,.sv 9 QV,.own 10 10 QV,.box 6 Q15,Qp 6 6]]),(1018,[2,.sv 8 QV,.sv 10 QB,13,.sv 71 QB,72,73,.box 6 Q15,Qp 6 6],[Qe 2 [2,.sv 8 QV,.sv 10 QB,13,.box 6 Q15,Qp 6 6],Qr [.sv 7 .bool,.box 6 Q15,Qp 6 6]])],[(126,[Qn [2,.sv 8 QV,13,.sv 67 .bool,.own 10 10 QV,.box 6 Q15,Qp 6 6]])],[(1,[.v,.v,.v,.v,.v,.v,.v,.v,.v,.x]),(20,[.q,.q,.v,.x,.x])]⟩
def a1r(x:Z41):Option Z33:=cond (decide (a00 x.1<4611686018427387904)&&a3e x.1) (some (a0H x.1)) none
def a1s:FSem:=⟨[.r false (.o Q15),.v (.fn 119)],[],a1r⟩
def a4t(s:(Int×Int×Z33×Z28)):Option ((Int×Int×Z33×Z28) ⊕ Z28):=cond (decide (s.2.2.2.2.1<s.2.2.2.1)) ((n0s s.2.2.1 s.2.2.2.2.1).bind fun x1=>(show Option (Int×Z33×Int×Int×Z3×Z35)from cond (decide (x1.1 > s.2.1)) (cond (lim ((a00 s.2.2.2.2.2.1)+1)) (some (s.1,s.2.2.1,s.2.2.2.1,s.2.2.2.2.1,a01 s.2.2.2.2.2.1 ([(s.2.1,wrap .i64 (x1.1-1),())]:List (Int×Int×Unit)),x1,())) none) (some (s.1,s.2.2.1,s.2.2.2.1,s.2.2.2.2.1,s.2.2.2.2.2.1,x1,()))).bind fun z2=>some (.inl (z2.1,wrap .i64 (z2.2.2.2.2.2.1.1+1),z2.2.1,z2.2.2.1,wrap .i64 (z2.2.2.2.1+1),z2.2.2.2.2.1,()))) (some (.inr (s.1,s.2.1,s.2.2.2.2.2.1,())))
def a4z(x:Z38):Option Z3:=(y0h a4t (x.2,0,x.1,(x.1.length:Int),0,[],())).bind fun w3=>(show Option Z14 from cond (decide (w3.1≥w3.2.1)) (cond (lim ((a00 w3.2.2.1)+1)) (some (a01 w3.2.2.1 ([(w3.2.1,w3.1,())]:List (Int×Int×Unit)),())) none) (some (w3.2.2.1,()))).bind fun z4=>some z4.1
def a5u:FSem:=⟨[.v (.list false Q15),.v QI],[.o Q3],a4z⟩
def b8j:Hints:=⟨[(122,[1,6,.sv 9 (.list false Q15),10,11,.own 5 5 Q3],[Qe 0 [1,6,.own 5 5 Q3]])],[(31,[Qn [.own 5 5 Q3]]),(7833,[Qn [1,.sv 9 (.list false Q15),10,11,.own 5 5 Q3,.box 8 Q15,Qp 8 8]])],[]⟩
def a1j(s:((Int×Int×Z33×Z92)×Z48)):Option (((Int×Int×Z33×Z92)×Z48) ⊕ (Z92×Z48)):=cond (decide (s.1.2.2.2.2.1<s.1.2.2.2.1)) ((n0s s.1.2.2.1 s.1.2.2.2.2.1).bind fun x2=>(a2x x2).bind fun y3=>cond (!y3) (some (.inl ((s.1.1,s.1.2.1,s.1.2.2.1,s.1.2.2.2.1,wrap .i64 (s.1.2.2.2.2.1+1),s.1.2.2.2.2.2.1,s.1.2.2.2.2.2.2.1,()),s.2.1,s.2.2))) (cond x2.2.2.2.1 ((a4L x2).bind fun y4=>cond y4 (cond (lim ((a00 s.1.2.2.2.2.2.1)+1)) ((n0s x2.2.2.2.2.1 0).bind fun x5=>some (.inl ((s.1.1,y0d s.1.2.1 (wrap .i64 ((wrap .i64 (x2.1+(wrap .i64 x5)))-1)),s.1.2.2.1,s.1.2.2.2.1,wrap .i64 (s.1.2.2.2.2.1+1),a01 s.1.2.2.2.2.2.1 ([x2]:List Z31),s.1.2.2.2.2.2.2.1,()),s.2.1,s.2.2))) none) (some (.inl ((s.1.1,s.1.2.1,s.1.2.2.1,s.1.2.2.2.1,wrap .i64 (s.1.2.2.2.2.1+1),s.1.2.2.2.2.2.1,s.1.2.2.2.2.2.2.1,()),s.2.1,s.2.2)))) (cond (s.1.1==s.2.1) (cond (a23 (g0l x2.1 s.2.2)) (some (.inl ((s.1.1,s.1.2.1,s.1.2.2.1,s.1.2.2.2.1,wrap .i64 (s.1.2.2.2.2.1+1),s.1.2.2.2.2.2.1,s.1.2.2.2.2.2.2.1,()),s.2.1,s.2.2))) (cond ((s.1.1==s.2.1)&&a24 (g0l x2.1 s.2.2)) ((a3b x2).bind fun y6=>cond (lim ((a00 s.1.2.2.2.2.2.2.1)+1)) (some (.inl ((s.1.1,y0d s.1.2.1 x2.1,s.1.2.2.1,s.1.2.2.2.1,wrap .i64 (s.1.2.2.2.2.1+1),s.1.2.2.2.2.2.1,a01 s.1.2.2.2.2.2.2.1 ([y6]:List Z31),()),s.2.1,s.2.2++[(x2.1,x2)]))) none) none)) none))) (some (.inr ((s.1.1,s.1.2.1,s.1.2.2.2.2.2.1,s.1.2.2.2.2.2.2.1,()),s.2.1,s.2.2)))
def a1k(s:((Int×Int×Z92)×Z48)):Option (((Int×Int×Z92)×Z48) ⊕ (Z49×Z48)):=cond (decide (s.1.2.2.2.1<s.1.2.2.1)) (cond ((decide (0≤s.1.2.2.2.1))&&(decide (s.1.2.2.2.1<(s.1.2.2.2.2.2.1.length:Int)))) ((a2j s.2.1 s.2.2 (a04 s.1.2.2.2.2.2.1 (a02 s.1.2.2.2.1) (0,false,false,false,[],()),s.1.1)).bind fun y8=>cond (!y8.2.2) (some (.inl ((s.1.1,s.1.2.1,s.1.2.2.1,wrap .i64 (s.1.2.2.2.1+1),s.1.2.2.2.2.1,s.1.2.2.2.2.2.1,()),s.2.1,s.2.2))) ((a3l (a04 s.1.2.2.2.2.2.1 (a02 s.1.2.2.2.1) (0,false,false,false,[],()),y8.2.1,y8.1)).bind fun y9=>cond y9.2 (cond ((s.1.1==s.2.1)&&a24 (g0l y8.1 s.2.2)) ((a3b y9.1).bind fun y10=>cond (lim ((a00 s.1.2.2.2.2.1)+1)) (some (.inl ((s.1.1,s.1.2.1,s.1.2.2.1,wrap .i64 (s.1.2.2.2.1+1),a01 s.1.2.2.2.2.1 ([y10]:List Z31),s.1.2.2.2.2.2.1,()),s.2.1,s.2.2++[(y8.1,y9.1)]))) none) none) (some (.inl ((s.1.1,s.1.2.1,s.1.2.2.1,wrap .i64 (s.1.2.2.2.1+1),s.1.2.2.2.2.1,s.1.2.2.2.2.2.1,()),s.2.1,s.2.2))))) none) (some (.inr ((s.1.2.1,s.1.2.2.2.2.1,()),s.2.1,s.2.2)))
def a2G(mb1:Int)(x:Z33):Option Z59:=(y0h a1j ((mb1,(-1),x,(x.length:Int),0,[],[],()),mb1,([]:List Z34))).bind fun w7=>(y0h a1k ((w7.1.1,w7.1.2.1,(w7.1.2.2.1.length:Int),0,w7.1.2.2.2.1,w7.1.2.2.1,()),w7.2.1,w7.2.2)).bind fun w11=>(a1r (w11.1.2.1,())).bind fun y12=>(a4z (y12,w11.1.1)).bind fun y13=>some (y12,y13)
def a4k(x:Z33):Option Z59:=a2G 0 x
def H90:Hints:=⟨[(250,[.sv 4 (.hd),7,.sv 20 (.list false Q15),21,22,.own 5 5 Q15,.own 6 6 Q15],[Qe 0 [.sv 4 (.hd),7,.own 5 5 Q15,.own 6 6 Q15]]),(506,[.sv 4 (.hd),7,71,72,.own 6 6 Q15,.own 70 5 Q15],[Qe 2 [7,.own 6 6 Q15]])],[],[(11,[.v,.q,.q,.q,.q,.v,.v,.v,.v,.v,.x,.x])]⟩
def b8k:Ty:=.pair QI Q11
def b6F:List PA:=[.v (.list false Q15)]
def b6G:List RA:=[.o Q15,.o Q3]
def b3I(μ:Mu b8k):Cx:=⟨b5j,b5i,T0,fun f=>(match μ with|some p=>find ((116,a2S p.1 p.2)::[(65,a4q),(66,a5h),(115,a4M),(117,a4s),(118,a1s),(120,a5u)]) f|none=>find [(65,a4q),(66,a5h),(115,a4M),(117,a4s),(118,a1s),(120,a5u)] f),fun d=>find ([]:List (Nat×Ty)) d,fun i=>([0,2,3,4,5,6,7,11,14,15,16,18]:List Nat).contains i,fun i=>([]:List Nat).contains i,G0.withM μ⟩
theorem b8l(x):C0m b3I H90 Tryz.f90 b6F b6G x=u0d fun b=>a2G b x:=by kernel_rfl
def b2M:FSem:=⟨b6F,b6G,a4k⟩
def a2T(x:LI):Option Z59:=(a5Y x).bind fun y1=>(a4k y1.1).bind fun y2=>some (y2.1,y2.2)
def a9J:FSem:=⟨[.v QB],[.o Q15,.o Q3],a2T⟩
def a5v(x:Int):Option Z23:=some (y0d x 0,false,[],0,())
def b3J:FSem:=⟨[.v QI],[.b Q14],a5v⟩
def a0T(x:Z23):Option Z23:=cond x.2.1 (some (x.1,false,[],wrap .i64 (x.2.2.2.1+1),x.2.2.2.2)) (some x)
def a7R:FSem:=⟨[.r false (.b Q14)],[],a0T⟩
def a2b(x:(Z23×Z31)):Option (Z36×Z3×Z23):=(a2V x.2).bind fun y1=>(show Option (Bool×Z23×Z35)from cond (y1.2 != 0) (some (true,x.1,x.2,())) (cond x.2.2.2.2.1 (some (true,x.1,x.2,())) (some (decide (x.2.1<x.1.1),x.1,x.2,())))).bind fun z2=>cond z2.1 (some ([],[],z2.2.1)) ((show Option (Z3×Z23×Z35)from cond (decide (z2.2.2.1.1 > z2.2.1.1)) ((a0T z2.2.1).bind fun y3=>some (([(z2.2.1.1,wrap .i64 (z2.2.2.1.1-1),())]:List (Int×Int×Unit)),y3,z2.2.2.1,())) (some ([],z2.2.1,z2.2.2.1,()))).bind fun z4=>(show Option (Z3×Z23×Z35)from cond z4.2.2.1.2.1 ((a0T (wrap .i64 (z4.2.2.1.1+1),z4.2.1.2)).bind fun y5=>some (z4.1,(y5.1,true,y5.2.2),z4.2.2.1,())) (some (z4.1,(wrap .i64 (z4.2.2.1.1+1),z4.2.1.2),z4.2.2.1,()))).bind fun z6=>cond (!z6.2.1.2.1) (some ([],z6.1,z6.2.1)) (cond (lim ((a00 z6.2.1.2.2.1)+(a00 z6.2.2.1.2.2.2.2.1))) (cond (decide ((a00 (a01 z6.2.1.2.2.1 z6.2.2.1.2.2.2.2.1):Int) > 65554)) ((a0T (z6.2.1.1,z6.2.1.2.1,a01 z6.2.1.2.2.1 z6.2.2.1.2.2.2.2.1,z6.2.1.2.2.2)).bind fun y7=>some ([],z6.1,y7)) (cond (!z6.2.2.1.2.2.1) (some ([],z6.1,z6.2.1.1,z6.2.1.2.1,a01 z6.2.1.2.2.1 z6.2.2.1.2.2.2.2.1,z6.2.1.2.2.2)) ((a2m (a01 z6.2.1.2.2.1 z6.2.2.1.2.2.2.2.1)).bind fun y8=>cond (y8.2 != 0) none ((show Option (Z3×Z32×Z30)from some (z6.1,y8.1,(z6.2.1.1,false,[],z6.2.1.2.2.2),())).bind fun z9=>some (([z9.2.1]:List Z32),z9.1,z9.2.2.1))))) none))
def a8A:FSem:=⟨[.r false (.b Q14),.v Q15],[.o Q17,.o Q3],a2b⟩
def H29:Hints:=⟨[],[(13,[Qn [.sv 30 .bool,.box pinned Q14,Qp 0 pinned,.vp 3 Q15]]),(15,[Qn [.own 8 8 Q3,.box pinned Q14,Qp 0 pinned,.vp 3 Q15]]),(63,[Qn [.own 8 8 Q3,.box pinned Q14,Qp 0 pinned,.vp 3 Q15]]),(8191,[Qn [.own 8 8 Q3,.box 9 Q17,.box pinned Q14,Qp 9 9]])],[(2,[.x,.x,.x,.x,.x,.x,.x,.v,.v,.p,.q,.q,.q,.x,.x]),(5,[.v,.v,.p,.p,.q,.q,.x]),(6,[.v,.p,.p,.q,.q,.v,.v,.v,.v,.q,.x,.x]),(14,[.p,.p,.p,.q,.q,.v,.v,.a [77,pinned],.x,.x,.x])]⟩
def a3V(s:(Z33×Int×Int×Z84)):Option ((Z33×Int×Int×Z84) ⊕ Z47):=cond (decide (s.2.2.1<s.2.1)) ((n0s s.1 s.2.2.1).bind fun x2=>(a2b (s.2.2.2.2.1,x2)).bind fun y3=>cond (lim ((a00 s.2.2.2.1)+(a00 y3.1))) (some (.inl (s.1,s.2.1,wrap .i64 (s.2.2.1+1),a01 s.2.2.2.1 y3.1,y3.2.2,()))) none) (some (.inr (s.2.2.2.1,())))
def a2H(x:(Int×Z33)):Option Z36:=(a5v x.1).bind fun y1=>(y0h a3V (x.2,(x.2.length:Int),0,[],y1,())).bind fun w4=>some w4.1
def b1d:FSem:=⟨[.v QI,.v (.list false Q15)],[.o Q17],a2H⟩
def H43:Hints:=⟨[(122,[.sv 13 (.list false Q15),14,15,.own 6 6 Q17,.box 1012 Q14,Qp 5 1012],[Qe 0 [.own 6 6 Q17]])],[],[]⟩
def a5c(x:LI):Option (Z36×Z3×Int):=(a2n x).bind fun y1=>cond (y1.2.2 != 0) (some ([],[],y1.2.2)) (cond ((decide (0≤y1.2.1))&&(decide (y1.2.1≤(x.length:Int)))) ((a2T (a05 (a02 y1.2.1) (a03 (a00 x) x))).bind fun y2=>(a2H (0,y2.1)).bind fun y3=>some (y3,y2.2,0)) none)
def b2N:FSem:=⟨[.v QB],[.o Q17,.o Q3,.v QI],a5c⟩
def a6Y(x:Int):Option Int:=cond ((a07 x 2)==0) (some (wrap .i64 (wrap .u64 (a17 x 2)))) (some (wrap .i64 ((wrap .i64 (0-(wrap .i64 (wrap .u64 (a17 x 2)))))-1)))
def b2O:FSem:=⟨[.v QU],[.v QI],a6Y⟩
def a8X(s:(Int×Int×Int×Z11×Z21)):Option ((Int×Int×Int×Z11×Z21) ⊕ ((Z11×Z21) ⊕ Z27)):=(fun(a b:Int)(c:Z11)(d:Z10)=>cond (decide (s.1 > 0)) ((a0I (d,3)).bind fun y7=>(a0I (y7.2,4611686018427387904)).bind fun y8=>(a6Y y8.1).bind fun y9=>(a0I (y8.2,4611686018427387904)).bind fun y10=>(a6Y y10.1).bind fun y11=>(a2r y10.2).bind fun y12=>cond (y12.1 != 0) (some (.inr (Sum.inr ((y12.1,[],()))))) ((a3S (wrap .i64 (a+y9),wrap .i64 (b+y11))).bind fun y13=>cond (!y13) (some (.inr (Sum.inr ((2,[],()))))) (cond (lim ((a00 c)+1)) (some (.inl (wrap .u64 (s.1-1),wrap .i64 (a+y9),wrap .i64 (b+y11),a01 c ([(wrap .i64 y7.1,wrap .i64 (a+y9),wrap .i64 (b+y11),())]:List Z5),y12.2,()))) none))) (some (.inr (Sum.inl (c,d,()))))) s.2.1 s.2.2.1 s.2.2.2.1 s.2.2.2.2.1
def a7Y(x:LI):Option (Z11×Int):=cond (decide ((x.length:Int)<4)) (some ([],3)) (cond ((decide (0≤(wrap .i64 ((x.length:Int)-4))))&&(decide ((wrap .i64 ((x.length:Int)-4))≤(x.length:Int)))) (cond ((decide (0≤((a00 (a03 (a02 (wrap .i64 ((x.length:Int)-4))) x):Nat):Int)))&&(decide (((a00 (a03 (a02 (wrap .i64 ((x.length:Int)-4))) x):Nat):Int)≤(x.length:Int)))) ((a1D (a05 (a02 ((a00 (a03 (a02 (wrap .i64 ((x.length:Int)-4))) x):Nat):Int)) (a03 (a00 x) x))).bind fun y1=>(a0M (y1,4)).bind fun y2=>(a0Z (a03 (a02 (wrap .i64 ((x.length:Int)-4))) x)).bind fun y3=>cond (y2.1 != (wrap .u64 y3)) (some ([],5)) ((a1D (a03 (a02 (wrap .i64 ((x.length:Int)-4))) x)).bind fun y4=>(a0I (y4,wrap .u64 ((a00 (a03 (a02 (wrap .i64 ((x.length:Int)-4))) x):Nat):Int))).bind fun y5=>(a2r y5.2).bind fun y6=>cond (y6.1 != 0) (some ([],y6.1)) ((y0h a8X (y5.1,0,0,[],y6.2,())).bind fun w14=>match w14 with |.inl a15=>((a1L a15.2.1).bind fun y17=>cond (decide (y17.1 > 0)) (some ([],2)) (some (a15.1,0))) |.inr b16=>some (b16.2.1,b16.1)))) none) none)
def b1s:FSem:=⟨[.v QB],[.o Q7,.v QI],a7Y⟩
def H91:Hints:=⟨[(4092,[.sv 6 QU,9,10,.own 8 8 Q7,.box 1032 Q10,Qp 5 1032],[Qe 0 [.own 8 8 Q7,.box 1032 Q10,Qp 5 1032],Qr [3,.own 2 2 Q7]])],[],[]⟩
def a8Y(s:(LI×Z10)):Option ((LI×Z10) ⊕ ((LI×Unit) ⊕ Z27)):=(fun(a:LI)(b c:Int)=>cond (decide (c<b)) ((n0s a c).bind fun x4=>(show Option (LI×(LI×Z6))from cond (decide (x4<96)) (some (s.1,a,b,c,true,())) (some (s.1,a,b,c,decide (x4 > 111),()))).bind fun z5=>cond z5.2.2.2.2.1 (some (.inr (Sum.inr ((2,[],()))))) (some (.inl (z5.1,z5.2.1,z5.2.2.1,wrap .i64 (z5.2.2.2.1+1),())))) (some (.inr (Sum.inl (s.1,()))))) s.2.1 s.2.2.1 s.2.2.2.1
def a8Z(s:(LI×Z2)):Option ((LI×Z2) ⊕ (LI×Unit)):=cond (decide (s.2.1<(s.1.length:Int))) ((n0s s.1 s.2.1).bind fun x9=>(n0s s.1 (wrap .i64 (s.2.1+1))).bind fun x10=>cond (lim ((a00 s.2.2.1)+1)) (some (.inl (s.1,wrap .i64 (s.2.1+2),a01 s.2.2.1 [bits .u8 .or (E0i .u8 (wrap .u8 (x9-96)) 4) (wrap .u8 (x10-96))],()))) none) (some (.inr (s.2.2.1,())))
def a7Z(x:LI):Option (Z11×Int):=cond (decide ((wrap .i64 ((wrap .i64 ((x.length:Int)-4))-4))<0)) (some ([],3)) (cond ((decide (0≤(wrap .i64 ((wrap .i64 ((wrap .i64 ((x.length:Int)-4))-4))+4))))&&(decide ((wrap .i64 ((wrap .i64 ((wrap .i64 ((x.length:Int)-4))-4))+4))≤(x.length:Int)))) (cond ((b2s (a05 (a02 (wrap .i64 ((wrap .i64 ((wrap .i64 ((x.length:Int)-4))-4))+4))) (a03 (a00 x) x))) != [75,69,78,68]) (some ([],2)) (cond ((decide (0≤(wrap .i64 ((wrap .i64 ((x.length:Int)-4))-4))))&&(decide ((wrap .i64 ((wrap .i64 ((x.length:Int)-4))-4))≤(x.length:Int)))) ((a1D (a05 (a02 (wrap .i64 ((wrap .i64 ((x.length:Int)-4))-4))) (a03 (a00 x) x))).bind fun y1=>(a0M (y1,4)).bind fun y2=>(show Option (LI×Z6)from cond ((a07 y2.1 2) != 0) (some (x,wrap .i64 ((wrap .i64 ((x.length:Int)-4))-4),y2.1,true,())) (some (x,wrap .i64 ((wrap .i64 ((x.length:Int)-4))-4),y2.1,decide (y2.1 > (wrap .u64 (wrap .i64 ((wrap .i64 ((x.length:Int)-4))-4)))),()))).bind fun z3=>cond z3.2.2.2.1 (some ([],2)) (cond ((decide (0≤z3.2.1))&&(decide (z3.2.1≤(z3.1.length:Int)))) (cond ((decide (0≤(wrap .i64 (z3.2.1-(wrap .i64 z3.2.2.1)))))&&(decide ((wrap .i64 (z3.2.1-(wrap .i64 z3.2.2.1)))≤((a02 z3.2.1:Nat):Int)))) ((y0h a8Y (a05 (a02 (wrap .i64 (z3.2.1-(wrap .i64 z3.2.2.1)))) (a03 (a02 z3.2.1) z3.1),a05 (a02 (wrap .i64 (z3.2.1-(wrap .i64 z3.2.2.1)))) (a03 (a02 z3.2.1) z3.1),(a00 (a05 (a02 (wrap .i64 (z3.2.1-(wrap .i64 z3.2.2.1)))) (a03 (a02 z3.2.1) z3.1)):Int),0,())).bind fun w6=>match w6 with |.inl a7=>((y0h a8Z (a7.1,0,[],())).bind fun w11=>(a7Y w11.1).bind fun y12=>some (y12.1,y12.2)) |.inr b8=>some (b8.2.1,b8.1)) none) none)) none)) none)
def b1t:FSem:=⟨[.v QB],[.o Q7,.v QI],a7Z⟩
def H44:Hints:=⟨[(2042,[.sv 6 QB,.sv 44 QB,45,46],[Qe 0 [.sv 6 QB],Qr [3,.own 2 2 Q7]]),(8186,[.sv 6 QB,10,.own 9 9 QV],[Qe 2 [.own 9 9 QV]])],[(126,[Qn [.sv 0 QB,4,.sv 5 QU,.sv 36 .bool]]),(130713,[Qn [.sv 6 QB,.sv 44 QB,45,46,.sv 55 .bool]])],[(20,[.q,.v,.v,.v,.v,.v,.v,.v,.v,.v,.v,.v,.v,.v,.q,.x,.x])]⟩
def a9a(s:(Int×Int×Bool×Z11×Int×Int×Z42)):Option ((Int×Int×Bool×Z11×Int×Int×Z42) ⊕ (Bool×Z42)):=(fun(a b:Int)(c:Bool)(d:Z11)(e f:Int)(g h:Z5)=>cond (decide (f<e)) ((n0s d f).bind fun x1=>cond (x1.1 != a) (some (.inl (a,b,c,d,e,wrap .i64 (f+1),g,h,()))) (cond (decide (x1.2.1 > b)) (some (.inl (a,b,c,d,e,wrap .i64 (f+1),g,h,()))) ((show Option (Int×Int×Bool×Z11×Int×Int×Int×Int×Bool×Bool×Z5×Z42)from cond (!c) (some (a,b,c,d,e,f,x1.2.1,b,decide (x1.2.1 > b),true,g,h,x1,())) (some (a,b,c,d,e,f,x1.2.1,b,decide (x1.2.1 > b),decide (x1.2.1≥h.2.1),g,h,x1,()))).bind fun z2=>cond z2.2.2.2.2.2.2.2.2.2.1 (some (.inl (z2.1,z2.2.1,true,z2.2.2.2.1,z2.2.2.2.2.1,wrap .i64 (z2.2.2.2.2.2.1+1),z2.2.2.2.2.2.2.2.2.2.2.1,z2.2.2.2.2.2.2.2.2.2.2.2.2.1,()))) (some (.inl (z2.1,z2.2.1,z2.2.2.1,z2.2.2.2.1,z2.2.2.2.2.1,wrap .i64 (z2.2.2.2.2.2.1+1),z2.2.2.2.2.2.2.2.2.2.2.1,z2.2.2.2.2.2.2.2.2.2.2.2.1,())))))) (some (.inr (c,g,h,())))) s.1 s.2.1 s.2.2.1 s.2.2.2.1 s.2.2.2.2.1 s.2.2.2.2.2.1 s.2.2.2.2.2.2.1 s.2.2.2.2.2.2.2.1
def a8a(x:(Z11×Int×Int)):Option (Z5×Bool):=(y0h a9a (x.2.1,x.2.2,false,x.1,(x.1.length:Int),0,(0,0,0,()),(0,0,0,()),())).bind fun w3=>some (w3.2.2.1,w3.1)
def b1u:FSem:=⟨[.v (.list false Q7),.v QI,.v QI],[.v Q7,.v .bool],a8a⟩
def H45:Hints:=⟨[(122,[1,2,.sv 9 .bool,.sv 12 (.list false Q7),13,14,.box 6 Q7,.box 8 Q7,Qp 6 6,Qp 8 8],[Qe 0 [.sv 9 .bool,.box 6 Q7,.box 8 Q7,Qp 6 6,Qp 8 8]])],[(15667,[Qn [1,2,.sv 9 .bool,.sv 12 (.list false Q7),13,14,24,25,.sv 26 .bool,.sv 36 .bool,.box 6 Q7,.box 8 Q7,.box 11 Q7,Qp 6 6,Qp 8 8,Qp 11 11,.ptr 23 11 [.snd,.fst]]])],[]⟩
def a6Z(x:(LI×(Int×Int))):Option Z46:=(fun(a:LI)(b:Int)=>(a2n a).bind fun y1=>cond (y1.2.2 != 0) (some ([],y1.2.2)) ((show Option (LI×(Int×Z6))from cond (decide (b<0)) (some (a,b,x.2.2,y1.2.1,true,())) (cond (decide (b≥(y1.1.length:Int))) (some (a,b,x.2.2,y1.2.1,true,())) (cond (decide (x.2.2<0)) (some (a,b,x.2.2,y1.2.1,true,())) (some (a,b,x.2.2,y1.2.1,decide (x.2.2 > 1125899906842624),()))))).bind fun z2=>cond z2.2.2.2.2.1 (some ([],6)) (cond ((decide (0≤z2.2.2.2.1))&&(decide (z2.2.2.2.1≤(z2.1.length:Int)))) ((a7Z (a05 (a02 z2.2.2.2.1) (a03 (a00 z2.1) z2.1))).bind fun y3=>cond (y3.2 != 0) (some ([],y3.2)) ((a8a (y3.1,z2.2.1,z2.2.2.1)).bind fun y4=>cond (!y4.2) (some ([],7)) (cond ((decide (0≤z2.2.2.2.1))&&(decide (z2.2.2.2.1≤(z2.1.length:Int)))) ((a2T (a05 (a02 z2.2.2.2.1) (a03 (a00 z2.1) z2.1))).bind fun y5=>(a2H (y4.1.2.2.1,y5.1)).bind fun y6=>some (y6,0)) none))) none))) x.1 x.2.1
def b2P:FSem:=⟨[.v QB,.v QI,.v QI],[.o Q17,.v QI],a6Z⟩
def H13:Hints:=⟨[],[(30,[Qn [.sv 0 QB,1,2,9,.sv 40 .bool]])],[]⟩
def a3W(x:(Z32×Z32)):Option Bool:=cond (x.1.1==x.2.1) (cond (x.1.2.1==x.2.2.1) (cond (x.1.2.2.1==x.2.2.2.1) (cond (x.1.2.2.2.1==x.2.2.2.2.1) (cond (x.1.2.2.2.2.1==x.2.2.2.2.2.1) (some ((b2s x.1.2.2.2.2.2.1)==(b2s x.2.2.2.2.2.2.1))) (some false)) (some false)) (some false)) (some false)) (some false)
def a8P:FSem:=⟨[.v Q17,.v Q17],[.v .bool],a3W⟩
def a2P(s:(Z36×Z36×Int×Unit)):Option ((Z36×Z36×Int×Unit) ⊕ (Unit ⊕ (Bool×Unit))):=cond (decide (s.2.2.1<(s.1.length:Int))) ((n0s s.1 s.2.2.1).bind fun x1=>(n0s s.2.1 s.2.2.1).bind fun x2=>(a3W (x1,x2)).bind fun y3=>cond (!y3) (some (.inr (Sum.inr ((false,()))))) (some (.inl (s.1,s.2.1,wrap .i64 (s.2.2.1+1),())))) (some (.inr (Sum.inl ())))
def a2c(x:(Z36×Z36)):Option Bool:=cond ((x.1.length:Int) != (x.2.length:Int)) (some false) ((y0h a2P (x.1,x.2,0,())).bind fun w4=>match w4 with |.inl a5=>some true |.inr b6=>some b6.1)
def a8B:FSem:=⟨[.v (.list false Q17),.v (.list false Q17)],[.v .bool],a2c⟩
def H15:Hints:=⟨[(58,[.sv 0 (.list false Q17),.sv 1 (.list false Q17),5],[Qe 0 [],Qr [.sv 4 .bool]])],[],[(6,[.v,.v,.v,.v,.v,.v,.v,.v,.x,.x])]⟩
def a5w(x:Unit):Option Z70:=some (2,(1,1,()),(0,0,0,()),1,1,1,1,())
def b3K:FSem:=⟨[],[.v Q21],a5w⟩
def a5Z(x:Unit):Option Bool:=(a5w ()).bind fun y1=>(a2q (([y1]:List Z70),([[]]:List Z36))).bind fun y2=>(a2n y2.1).bind fun y3=>(a5w ()).bind fun y4=>(a2q (([y4]:List Z70),([([(0,5,0,true,false,[120],())]:List Z32)]:List Z36))).bind fun y5=>(a5c y5.1).bind fun y6=>(a6Z (y5.1,0,9)).bind fun y7=>(a6Z (y5.1,0,4)).bind fun y8=>cond (y2.2==0) (cond ((y2.1.length:Int)==36) (cond (y3.2.2==0) (cond (y3.2.1==18) (cond ((y3.1.length:Int)==1) (cond (decide (0<(y3.1.length:Int))) ((a5w ()).bind fun y9=>cond (eqT Q21 (a04 y3.1 0 ((0: Int),((0: Int),(0: Int),()),((0: Int),(0: Int),(0: Int),()),(0: Int),(0: Int),(0: Int),(0: Int),())) y9) (cond (y5.2==0) (cond (y6.2.2==0) (cond ((y6.2.1.length:Int)==0) ((a2c (y6.1,([(0,5,0,true,false,[120],())]:List Z32))).bind fun y10=>cond y10 (cond (y7.2==0) ((a2c (y7.1,y6.1)).bind fun y11=>cond y11 (some (y8.2==7)) (some false)) (some false)) (some false)) (some false)) (some false)) (some false)) (some false)) none) (some false)) (some false)) (some false)) (some false)) (some false)
def b2Q:FSem:=⟨[],[.v .bool],a5Z⟩
def H14:Hints:=⟨[],[],[(4,[.v,.v,.q,.v,.v,.x,.x,.q,.q,.q,.x]),(8,[.x,.x,.x,.x,.x,.x,.x,.x,.x,.x,.x,.x,.x,.x,.x,.x,.x,.x,.x,.x,.x,.q,.q,.q,.v,.x,.x,.x,.x,.x,.x,.x,.x,.x,.x,.x,.x,.x,.x,.x,.x,.q,.q,.q,.x,.x,.x,.x,.x,.x,.x,.q,.q,.x,.x,.x,.x,.x,.x,.x])]⟩
def a5x(x:Int):Option Bool:=cond (decide (x≥0)) (some (decide (x<4))) (some false)
def b1v:FSem:=⟨[.v QI],[.v .bool],a5x⟩
def a3u(x:Int):Option Bool:=cond (decide (x≥0)) (some (decide (x≤1125899906842624))) (some false)
def b2R:FSem:=⟨[.v QI],[.v .bool],a3u⟩
def a6a(s:Z9):Option (Z9 ⊕ (LI×Unit)):=cond (decide (s.2.1≥0)) (cond (decide ((wrap .u64 (wrap .i64 (8*s.2.1)))<0)) none (cond (lim ((a00 s.2.2.1)+1)) (some (.inl (s.1,wrap .i64 (s.2.1-1),a01 s.2.2.1 [wrap .u8 (E0j .u64 s.1 (wrap .u64 (wrap .i64 (8*s.2.1))))],()))) none)) (some (.inr (s.2.2.1,())))
def a2Z(x:(Int×Int)):Option LI:=(y0h a6a (x.1,wrap .i64 ((y0d (y0e x.2 8) 0)-1),[],())).bind fun w1=>some w1.1
def b5l:FSem:=⟨[.v QU,.v QI],[.o QV],a2Z⟩
def b8m:Hints:=⟨[(58,[.sv 0 QU,6,.own 5 5 QV],[Qe 0 [.own 5 5 QV]])],[],[]⟩
def a4b(x:Z32):Option (LI×Int):=(show Option (Bool×Z40)from(a5x x.1).bind fun y1=>cond (!y1) (some (true,x,())) ((a3u x.2.1).bind fun y2=>cond (!y2) (some (true,x,())) ((a3u x.2.2.1).bind fun y3=>some (!y3,x,())))).bind fun z4=>cond z4.1 (some ([],1)) (cond (decide ((z4.2.1.2.2.2.2.2.1.length:Int) > 65536)) (some ([],4)) ((show Option (Int×Z40)from cond z4.2.1.2.2.2.1 (some (1,z4.2.1,())) (some (0,z4.2.1,()))).bind fun z5=>(show Option (Int×Z40)from cond z5.2.1.2.2.2.2.1 (some (wrap .i64 (z5.1+2),z5.2.1,())) (some (z5.1,z5.2.1,()))).bind fun z6=>(a2Z (wrap .u64 z6.2.1.2.1,8)).bind fun y7=>cond (lim (2+(a00 y7))) ((a2Z (wrap .u64 z6.2.1.2.2.1,8)).bind fun y8=>cond (lim ((a00 (a01 [wrap .u8 z6.2.1.1,wrap .u8 z6.1] y7))+(a00 y8))) (cond (lim ((a00 (a01 (a01 [wrap .u8 z6.2.1.1,wrap .u8 z6.1] y7) y8))+(a00 z6.2.1.2.2.2.2.2.1))) (some (a01 (a01 (a01 [wrap .u8 z6.2.1.1,wrap .u8 z6.1] y7) y8) z6.2.1.2.2.2.2.2.1,0)) none) none) none))
def b1e:FSem:=⟨[.v Q17],[.o QV,.v QI],a4b⟩
def H74:Hints:=⟨[],[(6,[Qn [.sv 21 .bool,.vp 1 Q17]]),(31,[Qn [4,.vp 1 Q17]]),(63,[Qn [4,.vp 1 Q17]])],[(11,[.q,.v,.v,.v,.q,.w [5,43,1042],.v,.v,.v,.x,.x,.x])]⟩
def a5M(s:(Z69×Int×Int×Unit)):Option ((Z69×Int×Int×Unit) ⊕ (Int×Unit)):=cond (decide (s.2.2.1<(s.1.length:Int))) ((show Option (Z69×Z6)from(n0s s.1 s.2.2.1).bind fun x1=>cond (decide ((x1.1.length:Int) > 0)) (cond (decide (s.2.1<0)) (some (s.1,s.2.1,s.2.2.1,true,())) ((n0s s.1 s.2.2.1).bind fun x2=>(n0s x2.1 0).bind fun x3=>(n0s s.1 s.2.1).bind fun x4=>(n0s x4.1 0).bind fun x5=>some (s.1,s.2.1,s.2.2.1,decide (x3.2.1<x5.2.1),()))) (some (s.1,s.2.1,s.2.2.1,false,()))).bind fun z6=>cond z6.2.2.2.1 (some (.inl (z6.1,z6.2.2.1,wrap .i64 (z6.2.2.1+1),()))) (some (.inl (z6.1,z6.2.1,wrap .i64 (z6.2.2.1+1),())))) (some (.inr (s.2.1,())))
def a4l(x:Z69):Option Int:=(y0h a5M (x,(-1),0,())).bind fun w7=>some w7.1
def b2S:FSem:=⟨[.v (.list false Q19)],[.v QI],a4l⟩
def H75:Hints:=⟨[(58,[.sv 0 (.list false Q19),3,4],[Qe 0 [3]])],[(932,[Qn [.sv 0 (.list false Q19),3,4,.sv 40 .bool]])],[(5,[.v,.v,.x,.x,.x,.x,.x,.x,.x,.x,.x,.v,.v,.v,.v,.v,.v,.v,.v,.v,.v,.v,.v,.v,.v,.v,.v,.x,.x,.x])]⟩
def a2J(s:Z99):Option (Z99 ⊕ (Z98 ⊕ Z53)):=(n0s s.1 s.2.1).bind fun x2=>cond (decide (s.2.2.1<(x2.length:Int))) ((n0s s.1 s.2.1).bind fun x3=>(n0s x3 s.2.2.1).bind fun x4=>(a4b x4).bind fun y5=>(show Option (Z45×Int×Int×Bool×Z79)from cond (y5.2 != 0) (some (s.1,s.2.1,s.2.2.1,true,s.2.2.2.1,())) ((n0s s.1 s.2.1).bind fun x6=>(n0s x6 s.2.2.1).bind fun x7=>some (s.1,s.2.1,s.2.2.1,x7.1 != s.2.1,s.2.2.2.1,()))).bind fun z8=>cond z8.2.2.2.1 (some (.inr (Sum.inr ((1,[],()))))) (some (.inl (z8.1,z8.2.1,wrap .i64 (z8.2.2.1+1),z8.2.2.2.2.1,())))) (some (.inr (Sum.inl (s.1,s.2.1,s.2.2.2.1,()))))
def a2K(s:Z98):Option (Z98 ⊕ ((Z45×Z79) ⊕ Z53)):=cond (decide (s.2.1<(s.1.length:Int))) ((y0h a2J (s.1,s.2.1,0,s.2.2.1,())).bind fun w9=>match w9 with |.inl a10=>((n0s a10.1 a10.2.1).bind fun x12=>cond (lim (0+(a00 x12))) (cond ((decide (0≤a10.2.1))&&(decide (a10.2.1<(a10.2.2.1.length:Int)))) (some (.inl (a10.1,wrap .i64 (a10.2.1+1),a06 a10.2.2.1 (a02 a10.2.1) (a01 ([]:List Z32) x12,(a04 a10.2.2.1 (a02 a10.2.1) ([],0,false,())).2),()))) none) none) |.inr b11=>some (.inr (Sum.inr ((b11.1,b11.2.1,()))))) (some (.inr (Sum.inl (s.1,s.2.2.1,()))))
def a2L(s:Z99):Option (Z99 ⊕ (Z98 ⊕ Z53)):=(n0s s.1 s.2.1).bind fun x16=>cond (decide (s.2.2.1<(x16.length:Int))) ((n0s s.1 s.2.1).bind fun x17=>(n0s x17 s.2.2.1).bind fun x18=>(n0s s.1 s.2.1).bind fun x19=>(n0s x19 (wrap .i64 (s.2.2.1-1))).bind fun x20=>cond (decide (x18.2.1<x20.2.1)) (some (.inr (Sum.inr ((12,[],()))))) (some (.inl (s.1,s.2.1,wrap .i64 (s.2.2.1+1),s.2.2.2.1,())))) (some (.inr (Sum.inl (s.1,s.2.1,s.2.2.2.1,()))))
def a2M(s:Z98):Option (Z98 ⊕ (Z79 ⊕ Z53)):=cond (decide (s.2.1<(s.1.length:Int))) ((y0h a2L (s.1,s.2.1,1,s.2.2.1,())).bind fun w21=>match w21 with |.inl a22=>some (.inl (a22.1,wrap .i64 (a22.2.1+1),a22.2.2.1,())) |.inr b23=>some (.inr (Sum.inr ((b23.1,b23.2.1,()))))) (some (.inr (Sum.inl (s.2.2.1,()))))
def a3z(s:(Int×Z69×Z47)):Option ((Int×Z69×Z47) ⊕ Z47):=cond (decide (s.1≥0)) (cond ((decide (0≤s.1))&&(decide (s.1<(s.2.1.length:Int)))) ((n0s ((a04 s.2.1 (a02 s.1) ([],0,false,())).1) 0).bind fun x28=>cond (lim ((a00 s.2.2.1)+1)) (cond ((decide (0≤s.1))&&(decide (s.1<(s.2.1.length:Int)))) (cond (decide (1≤((a00 ((a04 s.2.1 (a02 s.1) ([],0,false,())).1):Nat):Int))) (cond ((decide (0≤s.1))&&(decide (s.1<(s.2.1.length:Int)))) ((a4l (a06 s.2.1 (a02 s.1) (a05 1 (a03 (a00 ((a04 s.2.1 (a02 s.1) ([],0,false,())).1)) ((a04 s.2.1 (a02 s.1) ([],0,false,())).1)),(a04 s.2.1 (a02 s.1) ([],0,false,())).2))).bind fun y29=>some (.inl (y29,a06 s.2.1 (a02 s.1) (a05 1 (a03 (a00 ((a04 s.2.1 (a02 s.1) ([],0,false,())).1)) ((a04 s.2.1 (a02 s.1) ([],0,false,())).1)),(a04 s.2.1 (a02 s.1) ([],0,false,())).2),a01 s.2.2.1 ([x28]:List Z32),()))) none) none) none) none) none) (some (.inr (s.2.2.1,())))
def a4N(x:Z45):Option Z46:=(show Option (Z45×Bool×Unit)from cond (decide ((x.length:Int)<1)) (some (x,true,())) (some (x,decide ((x.length:Int) > 4),()))).bind fun z1=>cond z1.2.1 (some ([],1)) (cond ((decide (0≤(z1.1.length:Int)))&&((decide ((z1.1.length:Int)≤(z1.1.length:Int)))&&(lim (a02 (z1.1.length:Int))))) ((y0h a2K (z1.1,0,a20 (a02 (z1.1.length:Int)) ([],0,false,()),())).bind fun w13=>match w13 with |.inl a14=>((y0h a2M (a14.1,0,a14.2.1,())).bind fun w24=>match w24 with |.inl a25=>((a4l a25.1).bind fun y27=>(y0h a3z (y27,a25.1,[],())).bind fun w30=>some (w30.1,0)) |.inr b26=>some (b26.2.1,b26.1)) |.inr b15=>some (b15.2.1,b15.1)) none)
def a9K:FSem:=⟨[.v (.list false (.list false Q17))],[.o Q17,.v QI],a4N⟩
def H23:Hints:=⟨[(122,[.sv 0 (.list false (.list false Q17)),5,.own 4 4 Q19],[Qe 0 [.sv 0 (.list false (.list false Q17)),.own 4 4 Q19],Qr [3,.own 2 2 Q17]]),(250,[.sv 0 (.list false (.list false Q17)),9,.own 4 4 Q19],[Qe 4 [.own 4 4 Q19],Qr [3,.own 2 2 Q17]]),(1018,[12,.own 4 4 Q19,.own 11 11 Q17],[Qe 8 [.own 11 11 Q17]]),(15650,[.sv 0 (.list false (.list false Q17)),5,6,.own 4 4 Q19],[Qe 2 [.sv 0 (.list false (.list false Q17)),5,.own 4 4 Q19],Qr [3,.own 2 2 Q17]]),(16018,[.sv 0 (.list false (.list false Q17)),9,10,.own 4 4 Q19],[Qe 6 [.sv 0 (.list false (.list false Q17)),9,.own 4 4 Q19],Qr [3,.own 2 2 Q17]])],[(6,[Qn [.sv 0 (.list false (.list false Q17)),.sv 20 .bool]]),(500809,[Qn [.sv 0 (.list false (.list false Q17)),5,6,.sv 63 .bool,.own 4 4 Q19]])],[(20,[.v,.v,.v,.v,.v,.v,.v,.v,.v,.v,.v,.v,.v,.v,.v,.v,.v,.x])]⟩
def a3m(s:(Z36×(Int×(Int×(Int×(Z33×(LI×Unit))))))):Option ((Z36×(Int×(Int×(Int×(Z33×(LI×Unit)))))) ⊕ (Z36×Z56)):=cond (decide (s.2.2.2.1<(s.2.2.2.2.2.1.length:Int))) (cond ((decide (0≤(y0e (wrap .i64 (s.2.2.2.1+252)) (s.2.2.2.2.2.1.length:Int))))&&(decide ((y0e (wrap .i64 (s.2.2.2.1+252)) (s.2.2.2.2.2.1.length:Int))≤(s.2.2.2.2.2.1.length:Int)))) (cond ((decide (0≤s.2.2.2.1))&&(decide (s.2.2.2.1≤((a02 (y0e (wrap .i64 (s.2.2.2.1+252)) (s.2.2.2.2.2.1.length:Int)):Nat):Int)))) (cond (lim (0+(a00 (a03 ((a02 (y0e (wrap .i64 (s.2.2.2.1+252)) (s.2.2.2.2.2.1.length:Int)))-(a02 s.2.2.2.1)) (a05 (a02 s.2.2.2.1) s.2.2.2.2.2.1))))) (cond (lim ((a00 s.2.2.2.2.1)+1)) (some (.inl (s.1,s.2.1,s.2.2.1,wrap .i64 (s.2.2.2.1+252),a01 s.2.2.2.2.1 ([(wrap .i64 (s.2.1+(s.2.2.2.2.1.length:Int)),s.2.2.2.1==0,(y0e (wrap .i64 (s.2.2.2.1+252)) (s.2.2.2.2.2.1.length:Int))==(s.2.2.2.2.2.1.length:Int),false,a01 [] (a03 ((a02 (y0e (wrap .i64 (s.2.2.2.1+252)) (s.2.2.2.2.2.1.length:Int)))-(a02 s.2.2.2.1)) (a05 (a02 s.2.2.2.1) s.2.2.2.2.2.1)),())]:List Z31),s.2.2.2.2.2.1,()))) none) none) none) none) (some (.inr (s.1,s.2.1,s.2.2.1,s.2.2.2.2.1,())))
def a3n(s:(Z36×Z56)):Option ((Z36×Z56) ⊕ (Z49 ⊕ Z49)):=cond (decide (s.2.2.1<(s.1.length:Int))) ((n0s s.1 s.2.2.1).bind fun x2=>(a4b x2).bind fun y3=>cond (y3.2 != 0) (some (.inr (Sum.inr ((y3.2,[],()))))) ((y0h a3m (s.1,s.2.1,s.2.2.1,0,s.2.2.2.1,y3.1,())).bind fun w4=>some (.inl (w4.1,w4.2.1,wrap .i64 (w4.2.2.1+1),w4.2.2.2.1,())))) (some (.inr (Sum.inl (s.2.1,s.2.2.2.1,()))))
def a4u(x:Z46):Option Z38:=(show Option Z63 from cond (decide (x.2<0)) (some (x.1,x.2,true,())) (some (x.1,x.2,decide (x.2 > 2147483647),()))).bind fun z1=>cond z1.2.2.1 (some ([],1)) ((y0h a3n (z1.1,z1.2.1,0,[],())).bind fun w5=>match w5 with |.inl a6=>((show Option (Bool×Z41)from cond (decide ((a6.2.1.length:Int) > 0)) (some (decide ((wrap .i64 ((wrap .i64 (a6.1+(a6.2.1.length:Int)))-1)) > 2147483647),a6.2.1,())) (some (false,a6.2.1,()))).bind fun z8=>cond z8.1 (some ([],4)) (some (z8.2.1,0))) |.inr b7=>some (b7.2.1,b7.1))
def a9b:FSem:=⟨[.v (.list false Q17),.v QI],[.o Q15,.v QI],a4u⟩
def H24:Hints:=⟨[(122,[.sv 0 (.list false Q17),1,7,.own 6 6 Q15],[Qe 0 [1,.own 6 6 Q15],Qr [5,.own 4 4 Q15]]),(31310,[.sv 0 (.list false Q17),1,7,10,.own 6 6 Q15,.own 8 8 QV],[Qe 2 [.sv 0 (.list false Q17),1,7,.own 6 6 Q15]])],[(6,[Qn [.sv 0 (.list false Q17),1,.sv 17 .bool]]),(62,[Qn [.sv 76 .bool,.own 6 6 Q15]])],[]⟩
def a5y(x:(Int×Bool)):Option Bool:=cond (decide (x.1≥1)) (cond (decide (x.1≤252)) (some true) (cond x.2 (some (decide (x.1≤255))) (some false))) (some false)
def b1w:FSem:=⟨[.v QI,.v .bool],[.v .bool],a5y⟩
def a6b(x:Z31):Option Int:=(show Option Z43 from cond x.2.1 (some (1,x,())) (some (0,x,()))).bind fun z1=>(show Option (Int×Unit)from cond z1.2.1.2.2.1 (some (wrap .i64 (z1.1+2),())) (some (z1.1,()))).bind fun z2=>some z2.1
def b2T:FSem:=⟨[.v Q15],[.v QI],a6b⟩
def b8n:Hints:=⟨[],[(7,[Qn [3,.vp 1 Q15]]),(15,[Qn [3]])],[]⟩
def a3A(s:Z19):Option (Z19 ⊕ Z10):=cond (decide (s.2.2.2.1<8)) (cond ((bits .u32 .and s.2.1 1)==1) (some (.inl (s.1,bits .u32 .xor (E0j .u32 s.2.1 1) 3988292384,s.2.2.1,wrap .i64 (s.2.2.2.1+1),()))) (some (.inl (s.1,E0j .u32 s.2.1 1,s.2.2.1,wrap .i64 (s.2.2.2.1+1),())))) (some (.inr (s.1,s.2.1,s.2.2.1,())))
def a3B(s:Z10):Option (Z10 ⊕ (Int×Unit)):=cond (decide (s.2.2.1<(s.1.length:Int))) ((n0s s.1 s.2.2.1).bind fun x1=>(y0h a3A (s.1,bits .u32 .xor s.2.1 (wrap .u32 x1),s.2.2.1,0,())).bind fun w2=>some (.inl (w2.1,w2.2.1,wrap .i64 (w2.2.2.1+1),()))) (some (.inr (s.2.1,())))
def a3K(x:LI):Option Int:=(y0h a3B (x,4294967295,0,())).bind fun w3=>some (bits .u32 .xor (IntKind.max .u32) w3.1)
def a9L:FSem:=⟨[.v QB],[.v (.int .u32)],a3K⟩
def b8o:Hints:=⟨[(58,[.sv 0 QB,.sv 3 (.int .u32),4],[Qe 0 [.sv 3 (.int .u32)]]),(7462,[.sv 0 QB,.sv 3 (.int .u32),4,5],[Qe 2 [.sv 0 QB,.sv 3 (.int .u32),4]])],[],[]⟩
def a1Y(x:Z31):Option (LI×Int):=(show Option Z44 from cond (decide (x.1<0)) (some (true,x,())) (cond (decide (x.1 > 2147483647)) (some (true,x,())) ((a5y ((x.2.2.2.2.1.length:Int),x.2.2.2.1)).bind fun y1=>some (!y1,x,())))).bind fun z2=>cond z2.1 (some ([],1)) ((a6b z2.2.1).bind fun y3=>(show Option Z43 from cond z2.2.1.2.2.2.1 (some (wrap .i64 (y3+4),z2.2.1,())) (some (y3,z2.2.1,()))).bind fun z4=>(a2Z (wrap .u64 z4.2.1.1,4)).bind fun y5=>cond (lim (3+(a00 y5))) (cond (lim ((a00 (a01 [75,80,wrap .u8 z4.1] y5))+1)) (cond (lim ((a00 (a01 (a01 [75,80,wrap .u8 z4.1] y5) ([wrap .u8 (z4.2.1.2.2.2.2.1.length:Int)]:List Int)))+(a00 z4.2.1.2.2.2.2.1))) ((a3K (a01 (a01 (a01 [75,80,wrap .u8 z4.1] y5) ([wrap .u8 (z4.2.1.2.2.2.2.1.length:Int)]:List Int)) z4.2.1.2.2.2.2.1)).bind fun y6=>(a2Z (wrap .u64 y6,4)).bind fun y7=>cond (lim ((a00 (a01 (a01 (a01 [75,80,wrap .u8 z4.1] y5) ([wrap .u8 (z4.2.1.2.2.2.2.1.length:Int)]:List Int)) z4.2.1.2.2.2.2.1))+(a00 y7))) (some (a01 (a01 (a01 (a01 [75,80,wrap .u8 z4.1] y5) ([wrap .u8 (z4.2.1.2.2.2.2.1.length:Int)]:List Int)) z4.2.1.2.2.2.2.1) y7,0)) none) none) none) none)
def a9c:FSem:=⟨[.v Q15],[.o QV,.v QI],a1Y⟩
def H76:Hints:=⟨[],[(6,[Qn [.sv 22 .bool,.vp 1 Q15]]),(15,[Qn [4,.vp 1 Q15]])],[(7,[.q,.v,.v,.v,.v,.q,.w [5,42,43],.v,.v,.x,.x])]⟩
def a3L(s:Z68):Option (Z68 ⊕ Z60):=(n0s s.1 s.2.1).bind fun x4=>cond (decide (s.2.2.1<(x4.2.2.2.2.1.length:Int))) ((show Option Z68 from cond (decide ((s.2.2.2.1.length:Int)≤(wrap .i64 (s.2.2.1+2)))) (cond (lim ((a00 s.2.2.2.1)+1)) (some (s.1,s.2.1,s.2.2.1,a01 s.2.2.2.1 [0],())) none) (some (s.1,s.2.1,s.2.2.1,s.2.2.2.1,()))).bind fun z5=>cond ((decide (0≤(wrap .i64 (z5.2.2.1+2))))&&(decide ((wrap .i64 (z5.2.2.1+2))<(z5.2.2.2.1.length:Int)))) ((n0s z5.1 z5.2.1).bind fun x6=>(n0s x6.2.2.2.2.1 z5.2.2.1).bind fun x7=>cond ((decide (0≤(wrap .i64 (z5.2.2.1+2))))&&(decide ((wrap .i64 (z5.2.2.1+2))<(z5.2.2.2.1.length:Int)))) (some (.inl (z5.1,z5.2.1,wrap .i64 (z5.2.2.1+1),a06 z5.2.2.2.1 (a02 (wrap .i64 (z5.2.2.1+2))) (bits .u8 .xor (a04 z5.2.2.2.1 (a02 (wrap .i64 (z5.2.2.1+2))) 0) x7),()))) none) none) (some (.inr (s.1,s.2.1,s.2.2.2.1,())))
def a4O(s:Z60):Option (Z60 ⊕ (LI×Unit)):=cond (decide (s.2.1<(s.1.length:Int))) (cond (decide (0<(s.2.2.1.length:Int))) ((n0s s.1 s.2.1).bind fun x1=>(a6b x1).bind fun y2=>cond (decide (1<(s.2.2.1.length:Int))) ((n0s s.1 s.2.1).bind fun x3=>cond (decide (0<(s.2.2.1.length:Int))) (cond (decide (1<((a00 (a06 s.2.2.1 0 (bits .u8 .xor (a04 s.2.2.1 0 0) (wrap .u8 y2))):Nat):Int))) ((y0h a3L (s.1,s.2.1,0,a06 (a06 s.2.2.1 0 (bits .u8 .xor (a04 s.2.2.1 0 0) (wrap .u8 y2))) 1 (bits .u8 .xor (a04 s.2.2.1 1 0) (wrap .u8 (x3.2.2.2.2.1.length:Int))),())).bind fun w8=>some (.inl (w8.1,wrap .i64 (w8.2.1+1),w8.2.2.1,()))) none) none) none) none) (some (.inr (s.2.2.1,())))
def a4m(x:Z33):Option LI:=(y0h a4O (x,0,[0,0],())).bind fun w9=>some w9.1
def b2U:FSem:=⟨[.v (.list false Q15)],[.o QV],a4m⟩
def H77:Hints:=⟨[(58,[.sv 0 (.list false Q15),4,.own 3 3 QV],[Qe 0 [.own 3 3 QV]]),(7462,[.sv 0 (.list false Q15),4,5,.own 3 3 QV],[Qe 2 [.sv 0 (.list false Q15),4,.own 3 3 QV]])],[(119396,[Qn [.sv 0 (.list false Q15),4,5,.own 3 3 QV]])],[(5,[.q,.h,.q,.q,.q,.v,.v,.v,.v,.v,.v,.v,.q,.q,.q,.v,.v,.v,.v,.v,.v,.v,.v,.q,.k [0,3],.x,.x]),(11,[.q,.v,.v,.q,.v,.v,.q,.q,.v,.v,.v,.v,.v,.v,.v,.v,.v,.x,.x])]⟩
def a2u(s:Z51):Option (Z51 ⊕ (Z41 ⊕ Z49)):=cond (decide (s.2.1<(s.1.length:Int))) ((n0s s.1 s.2.1).bind fun x1=>(a1Y x1).bind fun y2=>(show Option (Z33×Int×Bool×Unit)from cond (y2.2 != 0) (some (s.1,s.2.1,true,())) ((n0s s.1 s.2.1).bind fun x3=>cond x3.2.2.2.1 (some (s.1,s.2.1,true,())) (cond (decide (s.2.1 > 0)) ((n0s s.1 s.2.1).bind fun x4=>(n0s s.1 (wrap .i64 (s.2.1-1))).bind fun x5=>some (s.1,s.2.1,x4.1 != (wrap .i64 (x5.1+1)),())) (some (s.1,s.2.1,false,()))))).bind fun z6=>cond z6.2.2.1 (some (.inr (Sum.inr ((1,[],()))))) (some (.inl (z6.1,wrap .i64 (z6.2.1+1),())))) (some (.inr (Sum.inl (s.1,()))))
def a2v(s:(Z33×Int×Z89)):Option ((Z33×Int×Z89) ⊕ (Z33×Z88)):=cond (decide (s.2.2.2.1<(s.2.2.1.length:Int))) ((n0s s.2.2.1 s.2.2.2.1).bind fun x10=>cond (lim (0+(a00 x10.2.2.2.2.1))) (cond (lim ((a00 s.2.2.2.2.1)+1)) (some (.inl (s.1,s.2.1,s.2.2.1,wrap .i64 (s.2.2.2.1+1),a01 s.2.2.2.2.1 ([(x10.1,x10.2.1,x10.2.2.1,x10.2.2.2.1,a01 [] x10.2.2.2.2.1,x10.2.2.2.2.2)]:List Z31),()))) none) none) (some (.inr (s.1,s.2.1,s.2.2.1,s.2.2.2.2.1,())))
def a4A(s:Z89):Option (Z89 ⊕ Z41):=cond (decide (s.2.1<(s.1.length:Int))) (cond ((decide (0≤(y0e (wrap .i64 (s.2.1+8)) (s.1.length:Int))))&&(decide ((y0e (wrap .i64 (s.2.1+8)) (s.1.length:Int))≤(s.1.length:Int)))) (cond ((decide (0≤s.2.1))&&(decide (s.2.1≤((a02 (y0e (wrap .i64 (s.2.1+8)) (s.1.length:Int)):Nat):Int)))) ((y0h a2v (s.1,s.2.1,a05 (a02 s.2.1) (a03 (a02 (y0e (wrap .i64 (s.2.1+8)) (s.1.length:Int))) s.1),0,s.2.2.1,())).bind fun w11=>(n0s w11.2.2.1 0).bind fun x12=>(a4m w11.2.2.1).bind fun y13=>cond (lim (1+(a00 y13))) (cond (lim ((a00 w11.2.2.2.1)+1)) (some (.inl (w11.1,wrap .i64 (w11.2.1+8),a01 w11.2.2.2.1 ([(x12.1,false,false,true,a01 ([wrap .u8 (w11.2.2.1.length:Int)]:List Int) y13,())]:List Z31),()))) none) none) none) none) (some (.inr (s.2.2.1,())))
def a4v(x:Z33):Option Z38:=(y0h a2u (x,0,())).bind fun w7=>match w7 with |.inl a8=>((y0h a4A (a8.1,0,[],())).bind fun w14=>some (w14.1,0)) |.inr b9=>some (b9.2.1,b9.1)
def a9d:FSem:=⟨[.v (.list false Q15)],[.o Q15,.v QI],a4v⟩
def H25:Hints:=⟨[(26,[.sv 0 (.list false Q15),4],[Qe 0 [.sv 0 (.list false Q15)],Qr [3,.own 2 2 Q15]]),(122,[.sv 0 (.list false Q15),8,.own 7 7 Q15],[Qe 2 [.own 7 7 Q15]]),(31306,[.sv 0 (.list false Q15),8,.sv 9 (.list false Q15),10,.own 7 7 Q15],[Qe 4 [.sv 0 (.list false Q15),8,.sv 9 (.list false Q15),.own 7 7 Q15]])],[(841,[Qn [.sv 0 (.list false Q15),4,.sv 53 .bool]])],[(5,[.x,.x,.x,.v,.v,.x,.x,.x,.x,.x,.x,.x,.x,.v,.v,.v,.v,.v,.v,.v,.v,.v,.v,.v,.v,.x,.x,.x]),(18,[.h,.v,.v,.v,.v,.v,.v,.v,.q,.v,.q,.w [95,98,1097],.f,.q,.x,.x])]⟩
def a3o(s:Z60):Option (Z60 ⊕ ((LI×Unit) ⊕ Z2)):=cond (decide (s.2.1<(s.1.length:Int))) ((n0s s.1 s.2.1).bind fun x1=>(a1Y x1).bind fun y2=>cond (y2.2 != 0) (some (.inr (Sum.inr ((y2.2,[],()))))) (cond (lim ((a00 s.2.2.1)+(a00 y2.1))) (some (.inl (s.1,wrap .i64 (s.2.1+1),a01 s.2.2.1 y2.1,()))) none)) (some (.inr (Sum.inl (s.2.2.1,()))))
def a3p(x:Z33):Option (LI×Int):=(y0h a3o (x,0,[],())).bind fun w3=>match w3 with |.inl a4=>some (a4.1,0) |.inr b5=>some (b5.2.1,b5.1)
def a9e:FSem:=⟨[.v (.list false Q15)],[.o QV,.v QI],a3p⟩
def H26:Hints:=⟨[(58,[.sv 0 (.list false Q15),5,.own 4 4 QV],[Qe 0 [.own 4 4 QV],Qr [3,.own 2 2 QV]])],[],[]⟩
def a4w(s:(Z33×Z43)):Option ((Z33×Z43) ⊕ (Z33×Z43)):=cond (decide (s.2.1<(s.1.length:Int))) ((n0s s.1 s.2.1).bind fun x1=>cond (decide (x1.1<s.2.2.1.1)) (some (.inl (s.1,wrap .i64 (s.2.1+1),s.2.2.1,()))) (some (.inr (s.1,s.2.1,s.2.2.1,())))) (some (.inr (s.1,s.2.1,s.2.2.1,())))
def a4B(x:(Z33×Z31)):Option (Z33×Bool):=(y0h a4w (x.1,0,x.2,())).bind fun w2=>(show Option (Z33×Int×Z44)from cond (decide (w2.2.1<(w2.1.length:Int))) ((n0s w2.1 w2.2.1).bind fun x3=>some (w2.1,w2.2.1,x3.1==w2.2.2.1.1,w2.2.2.1,())) (some (w2.1,w2.2.1,false,w2.2.2.1,()))).bind fun z4=>cond z4.2.2.1 (some (z4.1,false)) (cond ((decide (0≤z4.2.1))&&(decide (z4.2.1≤(z4.1.length:Int)))) (cond (lim (0+(a00 (a03 (a02 z4.2.1) z4.1)))) (cond (lim ((a00 (a01 ([]:List Z31) (a03 (a02 z4.2.1) z4.1)))+1)) (cond ((decide (0≤z4.2.1))&&(decide (z4.2.1≤(z4.1.length:Int)))) (cond (lim ((a00 (a01 (a01 ([]:List Z31) (a03 (a02 z4.2.1) z4.1)) ([z4.2.2.2.1]:List Z31)))+(a00 (a05 (a02 z4.2.1) (a03 (a00 z4.1) z4.1))))) (some (a01 (a01 (a01 ([]:List Z31) (a03 (a02 z4.2.1) z4.1)) ([z4.2.2.2.1]:List Z31)) (a05 (a02 z4.2.1) (a03 (a00 z4.1) z4.1)),true)) none) none) none) none) none)
def b1x:FSem:=⟨[.v (.list false Q15),.v Q15],[.v (.list false Q15),.v .bool],a4B⟩
def H78:Hints:=⟨[(28,[.sv 0 (.list false Q15),6,.vp 3 Q15],[Qe 0 [.sv 0 (.list false Q15),6,.vp 3 Q15]])],[(30,[Qn [.sv 0 (.list false Q15),6,.sv 36 .bool,.vp 3 Q15]])],[(2,[.v,.v,.v,.x,.x,.v,.v,.v,.v,.v,.v,.v,.x,.x]),(4,[.v,.v,.v,.x,.x,.v,.v,.v,.v,.v,.v,.v,.x,.x]),(6,[.q,.v,.v,.v,.w [38,42],.v,.r [44],.w [38,44,45],.v,.v,.v,.x,.x,.x])]⟩
def a3M(x:Z31):Option Bool:=cond x.2.2.2.1 (cond (decide ((x.2.2.2.2.1.length:Int)≥4)) ((n0s x.2.2.2.2.1 0).bind fun x1=>cond (decide (x1≥1)) ((n0s x.2.2.2.2.1 0).bind fun x2=>some (decide (x2≤8))) (some false)) (some false)) (some false)
def b1y:FSem:=⟨[.v Q15],[.v .bool],a3M⟩
def a4P(s:(Z33×Int×Z56)):Option ((Z33×Int×Z56) ⊕ Z41):=cond (decide (s.2.2.2.1<(s.1.length:Int))) ((show Option (Z33×Int×Int×Int×Bool×Z41)from(n0s s.1 s.2.2.2.1).bind fun x1=>cond (decide (x1.1≥s.2.1)) ((n0s s.1 s.2.2.2.1).bind fun x2=>some (s.1,s.2.1,s.2.2.1,s.2.2.2.1,decide (x2.1<(wrap .i64 (s.2.1+s.2.2.1))),s.2.2.2.2.1,())) (some (s.1,s.2.1,s.2.2.1,s.2.2.2.1,false,s.2.2.2.2.1,()))).bind fun z3=>cond z3.2.2.2.2.1 ((n0s z3.1 z3.2.2.2.1).bind fun x4=>cond (lim ((a00 z3.2.2.2.2.2.1)+1)) (some (.inl (z3.1,z3.2.1,z3.2.2.1,wrap .i64 (z3.2.2.2.1+1),a01 z3.2.2.2.2.2.1 ([x4]:List Z31),()))) none) (some (.inl (z3.1,z3.2.1,z3.2.2.1,wrap .i64 (z3.2.2.2.1+1),z3.2.2.2.2.2.1,())))) (some (.inr (s.2.2.2.2.1,())))
def a5d(x:(Z33×Int×Int)):Option Z33:=(y0h a4P (x.1,x.2.1,x.2.2,0,[],())).bind fun w5=>some w5.1
def b2V:FSem:=⟨[.v (.list false Q15),.v QI,.v QI],[.o Q15],a5d⟩
def b8p:Hints:=⟨[(58,[.sv 0 (.list false Q15),1,2,8,.own 7 7 Q15],[Qe 0 [.own 7 7 Q15]])],[(932,[Qn [.sv 0 (.list false Q15),1,2,8,.sv 32 .bool,.own 7 7 Q15]])],[]⟩
def a4c(s:(Int×Int×Z33×Z83)):Option ((Int×Int×Z33×Z83) ⊕ (Int×Z33×Z83)):=cond (decide (s.2.1<(s.2.2.1.length:Int))) (cond ((decide (0≤s.2.1))&&(decide (s.2.1<(s.2.2.1.length:Int)))) (cond (((a04 s.2.2.1 (a02 s.2.1) (0,false,false,false,[],())).1)==s.1) (some (.inl (wrap .i64 (s.1+1),wrap .i64 (s.2.1+1),s.2.2.1,s.2.2.2.1,s.2.2.2.2.1,()))) (some (.inl (s.1,wrap .i64 (s.2.1+1),s.2.2.1,s.2.2.2.1,s.2.2.2.2.1,())))) none) (some (.inr (s.1,s.2.2.1,s.2.2.2.1,s.2.2.2.2.1,())))
def a4d(s:Z90):Option (Z90 ⊕ Z90):=cond (decide ((s.2.1.length:Int)<(wrap .i64 ((s.2.2.2.1.2.2.2.2.1.length:Int)-1)))) (cond (lim ((a00 s.2.1)+1)) (some (.inl (s.1,a01 s.2.1 [0],s.2.2.1,s.2.2.2.1,()))) none) (some (.inr (s.1,s.2.1,s.2.2.1,s.2.2.2.1,())))
def a4e(s:(Int×Z90)):Option ((Int×Z90) ⊕ Z54):=cond (decide (s.2.1<(wrap .i64 ((s.2.2.2.2.1.2.2.2.2.1.length:Int)-1)))) (cond ((decide (0≤s.2.1))&&(decide (s.2.1<(s.2.2.1.length:Int)))) ((n0s s.2.2.2.2.1.2.2.2.2.1 (wrap .i64 (s.2.1+1))).bind fun x6=>cond ((decide (0≤s.2.1))&&(decide (s.2.1<(s.2.2.1.length:Int)))) (some (.inl (s.1,wrap .i64 (s.2.1+1),a06 s.2.2.1 (a02 s.2.1) (bits .u8 .xor (a04 s.2.2.1 (a02 s.2.1) 0) x6),s.2.2.2.1,s.2.2.2.2.1,()))) none) none) (some (.inr (s.1,s.2.2.1,s.2.2.2.1,())))
def a4f(s:Z73):Option (Z73 ⊕ ((Int×(LI×Z43)) ⊕ Z44)):=cond (decide (s.2.2.2.1<(s.2.1.length:Int))) ((n0s s.2.1 s.2.2.2.1).bind fun x9=>cond (x9 != 0) (some (.inr (Sum.inr ((false,(0,false,false,false,[],()),()))))) (some (.inl (s.1,s.2.1,s.2.2.1,wrap .i64 (s.2.2.2.1+1),s.2.2.2.2.1,())))) (some (.inr (Sum.inl (s.1,s.2.1,s.2.2.1,s.2.2.2.2.1,()))))
def a6n(x:(Z33×Z31)):Option (Z31×Bool):=(n0s x.2.2.2.2.2.1 0).bind fun x1=>(a5d (x.1,x.2.1,wrap .i64 x1)).bind fun y2=>cond ((y2.length:Int) != (wrap .i64 ((wrap .i64 x1)-1))) (some ((0,false,false,false,[],()),false)) ((y0h a4c (x.2.1,0,y2,(0,false,false,false,[],()),x.2,())).bind fun w3=>(a4m w3.2.1).bind fun y4=>(y0h a4d (w3.1,y4,w3.2.2.1,w3.2.2.2.1,())).bind fun w5=>(y0h a4e (w5.1,0,w5.2.1,w5.2.2.1,w5.2.2.2.1,())).bind fun w7=>cond (decide (1<(w7.2.1.length:Int))) ((show Option (Int×Int×Bool×Z50)from cond (decide (0<(w7.2.1.length:Int))) (cond (decide ((a04 w7.2.1 0 0) > 3)) (some (w7.1,wrap .i64 (a04 w7.2.1 1 0),true,w7.2.1,w7.2.2.1,())) (cond (decide ((wrap .i64 (a04 w7.2.1 1 0))<1)) (some (w7.1,wrap .i64 (a04 w7.2.1 1 0),true,w7.2.1,w7.2.2.1,())) (cond (decide ((wrap .i64 (a04 w7.2.1 1 0)) > 252)) (some (w7.1,wrap .i64 (a04 w7.2.1 1 0),true,w7.2.1,w7.2.2.1,())) (cond (decide ((wrap .i64 (a04 w7.2.1 1 0)) > (wrap .i64 ((w7.2.1.length:Int)-2)))) (some (w7.1,wrap .i64 (a04 w7.2.1 1 0),true,w7.2.1,w7.2.2.1,())) (some (w7.1,wrap .i64 (a04 w7.2.1 1 0),decide (w7.1 > 2147483647),w7.2.1,w7.2.2.1,())))))) none).bind fun z8=>cond z8.2.2.1 (some ((0,false,false,false,[],()),false)) ((y0h a4f (z8.1,z8.2.2.2.1,z8.2.1,wrap .i64 (z8.2.1+2),z8.2.2.2.2.1,())).bind fun w10=>match w10 with |.inl a11=>((n0s a11.2.1 0).bind fun x13=>(n0s a11.2.1 0).bind fun x14=>cond ((decide (0≤(wrap .i64 (a11.2.2.1+2))))&&(decide ((wrap .i64 (a11.2.2.1+2))≤(a11.2.1.length:Int)))) (cond (decide (2≤((a02 (wrap .i64 (a11.2.2.1+2)):Nat):Int))) (cond (lim (0+(a00 (a05 2 (a03 (a02 (wrap .i64 (a11.2.2.1+2))) a11.2.1))))) (some ((a11.1,(bits .u8 .and x13 1)==1,(bits .u8 .and x14 2)==2,false,a01 [] (a05 2 (a03 (a02 (wrap .i64 (a11.2.2.1+2))) a11.2.1)),()),true)) none) none) none) |.inr b12=>some (b12.2.1,b12.1))) none)
def b3L:FSem:=⟨[.v (.list false Q15),.v Q15],[.v Q15,.v .bool],a6n⟩
def H80:Hints:=⟨[(506,[8,9,.own 7 7 Q15,.box 4 Q15,.vp 3 Q15,Qp 4 4],[Qe 0 [8,.own 7 7 Q15,.box 4 Q15,.vp 3 Q15,Qp 4 4]]),(1020,[8,.own 10 10 QV,.box 4 Q15,.vp 3 Q15,Qp 4 4],[Qe 2 [8,.own 10 10 QV,.box 4 Q15,.vp 3 Q15,Qp 4 4]]),(4090,[8,11,.own 10 10 QV,.box 4 Q15,.vp 3 Q15,Qp 4 4],[Qe 4 [8,.own 10 10 QV,.box 4 Q15,Qp 4 4]]),(32762,[8,.sv 10 QB,12,13,.box 4 Q15,Qp 4 4],[Qe 6 [8,.sv 10 QB,12,.box 4 Q15,Qp 4 4],Qr [.sv 5 .bool,.box 4 Q15,Qp 4 4]])],[(4094,[Qn [8,12,.sv 107 .bool,.own 10 10 QV,.box 4 Q15,Qp 4 4]])],[(17,[.q,.v,.q,.v,.q,.q,.v,.v,.v,.v,.v,.v,.v,.x,.x]),(26,[.v,.v,.v,.v,.v,.v,.v,.v,.v,.v,.v,.q,.v,.v,.v,.v,.w [134,139],.x,.x,.x])]⟩
def a3X(s:(Z33×Int×Z28)):Option ((Z33×Int×Z28) ⊕ Z28):=cond (decide (s.2.2.2.1<(s.1.length:Int))) ((show Option (Z33×Z28)from(n0s s.1 s.2.2.2.1).bind fun x1=>cond (decide (x1.1 > s.2.2.1)) ((n0s s.1 s.2.2.2.1).bind fun x2=>cond (lim ((a00 s.2.2.2.2.1)+1)) (some (s.1,s.2.1,s.2.2.2.1,a01 s.2.2.2.2.1 ([(s.2.2.1,wrap .i64 (x2.1-1),())]:List (Int×Int×Unit)),())) none) (some (s.1,s.2.1,s.2.2.2.1,s.2.2.2.2.1,()))).bind fun z3=>(n0s z3.1 z3.2.2.1).bind fun x4=>some (.inl (z3.1,z3.2.1,wrap .i64 (x4.1+1),wrap .i64 (z3.2.2.1+1),z3.2.2.2.1,()))) (some (.inr (s.2.1,s.2.2.1,s.2.2.2.2.1,())))
def a5j(x:Z38):Option Z3:=(y0h a3X (x.1,x.2,0,0,[],())).bind fun w5=>(show Option Z14 from cond (decide (w5.1 > w5.2.1)) (cond (lim ((a00 w5.2.2.1)+1)) (some (a01 w5.2.2.1 ([(w5.2.1,wrap .i64 (w5.1-1),())]:List (Int×Int×Unit)),())) none) (some (w5.2.2.1,()))).bind fun z6=>some z6.1
def b1f:FSem:=⟨[.v (.list false Q15),.v QI],[.o Q3],a5j⟩
def H81:Hints:=⟨[(122,[.sv 0 (.list false Q15),1,6,7,.own 5 5 Q3],[Qe 0 [1,6,.own 5 5 Q3]])],[(31,[Qn [.own 5 5 Q3]]),(1956,[Qn [.sv 0 (.list false Q15),1,7,.own 5 5 Q3]])],[]⟩
def a4g(s:Z91):Option (Z91 ⊕ (Z33×Z51)):=cond (decide (s.2.2.2.1<(s.1.length:Int))) ((n0s s.1 s.2.2.2.1).bind fun x1=>(a1Y x1).bind fun y2=>(show Option (Z33×Z33×Z6)from cond (y2.2==0) ((n0s s.1 s.2.2.2.1).bind fun x3=>some (s.1,s.2.1,s.2.2.1,s.2.2.2.1,!x3.2.2.2.1,())) (some (s.1,s.2.1,s.2.2.1,s.2.2.2.1,false,()))).bind fun z4=>cond z4.2.2.2.2.1 ((n0s z4.1 z4.2.2.2.1).bind fun x5=>cond (lim (0+(a00 x5.2.2.2.2.1))) ((a4B (z4.2.1,x5.1,x5.2.1,x5.2.2.1,x5.2.2.2.1,a01 [] x5.2.2.2.2.1,x5.2.2.2.2.2)).bind fun y6=>some (.inl (z4.1,y6.1,y0d z4.2.2.1 (wrap .i64 (x5.1+1)),wrap .i64 (z4.2.2.2.1+1),()))) none) (some (.inl (z4.1,z4.2.1,z4.2.2.1,wrap .i64 (z4.2.2.2.1+1),())))) (some (.inr (s.1,s.2.1,s.2.2.1,())))
def a4h(s:Z91):Option (Z91 ⊕ Z51):=cond (decide (s.2.2.2.1<(s.1.length:Int))) ((n0s s.1 s.2.2.2.1).bind fun x8=>(a1Y x8).bind fun y9=>cond (y9.2 != 0) (some (.inl (s.1,s.2.1,s.2.2.1,wrap .i64 (s.2.2.2.1+1),()))) ((n0s s.1 s.2.2.2.1).bind fun x10=>(a3M x10).bind fun y11=>cond (!y11) (some (.inl (s.1,s.2.1,s.2.2.1,wrap .i64 (s.2.2.2.1+1),()))) ((n0s s.1 s.2.2.2.1).bind fun x12=>(n0s s.1 s.2.2.2.1).bind fun x13=>(n0s x13.2.2.2.2.1 0).bind fun x14=>(n0s s.1 s.2.2.2.1).bind fun x15=>(a6n (s.2.1,x15)).bind fun y16=>cond y16.2 ((a4B (s.2.1,y16.1)).bind fun y17=>some (.inl (s.1,y17.1,y0d s.2.2.1 (wrap .i64 (x12.1+(wrap .i64 x14))),wrap .i64 (s.2.2.2.1+1),()))) (some (.inl (s.1,s.2.1,y0d s.2.2.1 (wrap .i64 (x12.1+(wrap .i64 x14))),wrap .i64 (s.2.2.2.1+1),())))))) (some (.inr (s.2.1,s.2.2.1,())))
def a6o(x:Z33):Option Z59:=(y0h a4g (x,[],0,0,())).bind fun w7=>(y0h a4h (w7.1,w7.2.1,w7.2.2.1,0,())).bind fun w18=>(a5j (w18.1,w18.2.1)).bind fun y19=>some (w18.1,y19)
def b3M:FSem:=⟨[.v (.list false Q15)],[.v (.list false Q15),.o Q3],a6o⟩
def H27:Hints:=⟨[(122,[.sv 0 (.list false Q15),.sv 4 (.list false Q15),5,6],[Qe 0 [.sv 0 (.list false Q15),.sv 4 (.list false Q15),5]]),(250,[.sv 0 (.list false Q15),.sv 4 (.list false Q15),5,10],[Qe 2 [.sv 4 (.list false Q15),5]])],[(3913,[Qn [.sv 0 (.list false Q15),.sv 4 (.list false Q15),5,6,.sv 38 .bool]])],[(17,[.v,.v,.v,.v,.v,.v,.v,.v,.v,.v,.v,.v,.v,.v,.v,.x,.x])]⟩
def a3q(s:(Z3×Z3×Int×Unit)):Option ((Z3×Z3×Int×Unit) ⊕ (Unit ⊕ (Bool×Unit))):=cond (decide (s.2.2.1<(s.1.length:Int))) ((n0s s.1 s.2.2.1).bind fun x1=>(n0s s.2.1 s.2.2.1).bind fun x2=>cond (!(eqT Q3 x1 x2)) (some (.inr (Sum.inr ((false,()))))) (some (.inl (s.1,s.2.1,wrap .i64 (s.2.2.1+1),())))) (some (.inr (Sum.inl ())))
def a4x(x:(Z3×Z3)):Option Bool:=cond ((x.1.length:Int) != (x.2.length:Int)) (some false) ((y0h a3q (x.1,x.2,0,())).bind fun w3=>match w3 with |.inl a4=>some true |.inr b5=>some b5.1)
def a9f:FSem:=⟨[.v (.list false Q3),.v (.list false Q3)],[.v .bool],a4x⟩
def H30:Hints:=⟨[(58,[.sv 0 (.list false Q3),.sv 1 (.list false Q3),5],[Qe 0 [],Qr [.sv 4 .bool]])],[],[(6,[.v,.v,.v,.v,.v,.v,.v,.v,.x])]⟩
def a2w(s:((List Bool)×(LI×Z92))):Option (((List Bool)×(LI×Z92)) ⊕ (LI×Z88)):=cond (decide (s.2.2.2.1<(s.2.2.2.2.1.length:Int))) ((show Option ((List Bool)×(LI×(Int×Int×Bool×Z86)))from cond (decide (s.2.2.2.1≥(s.1.length:Int))) (some (s.1,s.2.1,s.2.2.1,s.2.2.2.1,true,s.2.2.2.2.1,s.2.2.2.2.2.1,())) ((n0s s.1 s.2.2.2.1).bind fun x9=>some (s.1,s.2.1,s.2.2.1,s.2.2.2.1,!x9,s.2.2.2.2.1,s.2.2.2.2.2.1,()))).bind fun z10=>cond z10.2.2.2.2.1 (cond ((decide (0≤z10.2.2.2.1))&&(decide (z10.2.2.2.1<(z10.2.2.2.2.2.1.length:Int)))) (cond (lim ((a00 z10.2.2.2.2.2.2.1)+1)) (some (.inl (z10.1,z10.2.1,z10.2.2.1,wrap .i64 (z10.2.2.2.1+1),z10.2.2.2.2.2.1,a01 z10.2.2.2.2.2.2.1 ([a04 z10.2.2.2.2.2.1 (a02 z10.2.2.2.1) (0,false,false,false,[],())]:List Z31),()))) none) none) (some (.inl (z10.1,z10.2.1,z10.2.2.1,wrap .i64 (z10.2.2.2.1+1),z10.2.2.2.2.2.1,z10.2.2.2.2.2.2.1,())))) (some (.inr (s.2.1,s.2.2.1,s.2.2.2.2.1,s.2.2.2.2.2.1,())))
def a3r(s:(Z33×(Int×(LI×(Z3×Z84))))):Option ((Z33×(Int×(LI×(Z3×Z84)))) ⊕ (LI×(Z3×Z47))):=cond (decide (s.2.1<(s.1.length:Int))) ((n0s s.1 s.2.1).bind fun x16=>(a2b (s.2.2.2.2.2.1,x16)).bind fun y17=>cond (lim ((a00 s.2.2.2.2.1)+(a00 y17.1))) (some (.inl (s.1,wrap .i64 (s.2.1+1),s.2.2.1,s.2.2.2.1,a01 s.2.2.2.2.1 y17.1,y17.2.2,()))) none) (some (.inr (s.2.2.1,s.2.2.2.1,s.2.2.2.2.1,())))
def a5z(x:(LI×(List Bool))):Option Bool:=(a4W x.1).bind fun y1=>(a5X (y1,7)).bind fun y2=>(a2q (y2.1,y2.2.1)).bind fun y3=>(a2n y3.1).bind fun y4=>(show Option ((List Bool)×(Int×(Bool×(Z45×(LI×Unit)))))from cond (y3.2 != 0) (some (x.2,y4.2.1,true,y2.2.1,y3.1,())) (some (x.2,y4.2.1,y4.2.2 != 0,y2.2.1,y3.1,()))).bind fun z5=>cond z5.2.2.1 (some false) ((a4N z5.2.2.2.1).bind fun y6=>(a4u (y6.1,0)).bind fun y7=>(a4v y7.1).bind fun y8=>(y0h a2w (z5.1,z5.2.2.2.2.1,z5.2.1,0,y8.1,[],())).bind fun w11=>(a3p w11.2.2.2.1).bind fun y12=>(a3p w11.2.2.1).bind fun y13=>cond (decide ((y13.1.length:Int) > (wrap .i64 ((w11.1.length:Int)-w11.2.1)))) (some false) (cond ((decide (0≤w11.2.1))&&(decide (w11.2.1≤(w11.1.length:Int)))) (cond (lim (0+(a00 (a03 (a02 w11.2.1) w11.1)))) (cond (lim ((a00 (a01 [] (a03 (a02 w11.2.1) w11.1)))+(a00 y12.1))) (cond ((decide (0≤(wrap .i64 (w11.2.1+(y13.1.length:Int)))))&&(decide ((wrap .i64 (w11.2.1+(y13.1.length:Int)))≤(w11.1.length:Int)))) (cond (lim ((a00 (a01 (a01 [] (a03 (a02 w11.2.1) w11.1)) y12.1))+(a00 (a05 (a02 (wrap .i64 (w11.2.1+(y13.1.length:Int)))) (a03 (a00 w11.1) w11.1))))) ((a6o w11.2.2.2.1).bind fun y14=>(a5v 0).bind fun y15=>(y0h a3r (y14.1,0,a01 (a01 (a01 [] (a03 (a02 w11.2.1) w11.1)) y12.1) (a05 (a02 (wrap .i64 (w11.2.1+(y13.1.length:Int)))) (a03 (a00 w11.1) w11.1)),y14.2,[],y15,())).bind fun w18=>(a5c w18.1).bind fun y19=>cond (y19.2.2==0) ((a4x (y19.2.1,w18.2.1)).bind fun y20=>cond y20 ((a2c (y19.1,w18.2.2.1)).bind fun y21=>cond y21 ((a5Z ()).bind fun y22=>some y22) (some false)) (some false)) (some false)) none) none) none) none) none))
def a5A:FSem:=⟨[.v QL,.v (.list false .bool)],[.v .bool],a5z⟩
def H5:Hints:=⟨[(16378,[.sv 1 (.list false .bool),.sv 8 QB,11,20,.own 17 17 Q15,.own 19 19 Q15],[Qe 0 [.sv 8 QB,11,.own 17 17 Q15,.own 19 19 Q15]]),(8388602,[.sv 26 (.list false Q15),30,.own 25 25 QV,.own 27 27 Q3,.own 29 29 Q17,.box 1136 Q14,Qp 28 1136],[Qe 2 [.own 25 25 QV,.own 27 27 Q3,.own 29 29 Q17]])],[(126,[Qn [.sv 1 (.list false .bool),11,.sv 60 .bool,.own 7 7 (.list false Q17),.own 8 8 QV]]),(262052,[Qn [.sv 1 (.list false .bool),.sv 8 QB,11,20,.sv 92 .bool,.own 17 17 Q15,.own 19 19 Q15]])],[(20,[.q,.v,.v,.v,.w [117,121],.r [21,122],.w [21,117,123],.v,.v,.r [23,126],.r [23,127],.v,.v,.x,.x])]⟩
end Go.Ab
namespace Go.Ab
open IntKind(wrap)
section
variable {σ β:Type} {f:σ→Option (σ ⊕ β)}
theorem a7t:∀(n m:Nat)(s:σ){b:β},g0u f n s=some b→g0u f (n+m) s=some b
 |0,_,s,b,h=>by simp[g0u]at h
 |n+1,m,s,b,h=>by
  rw[show n+1+m=n+m+1 from by omega];simp only[g0u]at h⊢
  split at h
  cases h;rename_i s' hs;exact a7t n m s' h;exact h
theorem a9Y{n m:Nat}{s:σ}{b b':β}(h:g0u f n s=some b)(a:g0u f m s=some b'):b=b':=by
 have c:=a7t n m s h;have g:=a7t m n s a;rw[Nat.add_comm,c]at g;exact Option.some.inj g
theorem b5m{n:Nat}{s:σ}{b:β}(h:g0u f n s=some b):y0i f s=some b:=by
 unfold y0i;have g:∃n b,g0u f n s=some b:=⟨n,b,h⟩;rw[dif_pos g];exact congrArg some (a9Y g.choose_spec.choose_spec h)
theorem a7e{n:Nat}{s:σ}{b:β}(h:g0u f n s=some b):y0h f s=some b:=by
 unfold y0h;split;rename_i a g;rw[a9Y g h];exact b5m h
theorem a8b{s:σ}(h:∀n,g0u f n s=none):y0h f s=none:=by
 unfold y0h;rw[h 400];show y0i f s=none;unfold y0i;rw[dif_neg]
 rintro⟨n,b,g⟩
 rw[h n]at g;cases g
theorem a1g{s:σ}{b:β}(h:f s=some (.inr b)):y0h f s=some b:=a7e (n:=1) (by simp[g0u,h])
theorem a1A{s s':σ}(h:f s=some (.inl s')):y0h f s=y0h f s':=by
 by_cases hx:∃n b,g0u f n s'=some b
 obtain⟨n,b,a⟩:=hx;rw[a7e a];exact a7e (n:=n+1) (by simp[g0u,h,a])
 ·have g:∀n,g0u f n s'=none:=fun n=>by
   cases hn:g0u f n s' with
   |none=>rfl
   |some b=>exact absurd ⟨n,b,hn⟩ hx
  rw[a8b g];refine a8b fun n=>?_
  cases n with
  |zero=>rfl
  |succ n=>simp[g0u,h,g n]
theorem b3d(S:Nat→σ)(n:Nat){b:β}(g:∀i,i<n→f (S i)=some (.inl (S (i+1))))(h:f (S n)=some (.inr b)):∀(k:Nat),k≤n→y0h f (S (n-k))=some b
 |0,_=>a1g h
 |k+1,hk=>by
  rw[a1A (g (n-(k+1)) (by omega)),show n-(k+1)+1=n-k from by omega];exact b3d S n g h k (by omega)
theorem a0D(S:Nat→σ)(n:Nat){b:β}(g:∀i,i<n→f (S i)=some (.inl (S (i+1))))(h:f (S n)=some (.inr b)):y0h f (S 0)=some b:=by
 have:=b3d S n g h n (Nat.le_refl _)
 rwa [Nat.sub_self]at this
end
theorem wrap64{n:Int}(h:-9223372036854775808≤n∧n≤9223372036854775807):wrap .i64 n=n:=by
 simp only[wrap,IntKind.bits,IntKind.signed]
 simp
 split<;>omega
theorem a4Q{n:Int}(h:0≤n∧n<18446744073709551616):wrap .u64 n=n:=by
 simp only[wrap,IntKind.bits,IntKind.signed]
 simp
 omega
theorem b1z(n:Int):wrap .u8 n=n%256:=by
 simp[wrap,IntKind.bits,IntKind.signed]
theorem a8s(x y:Int):y0d x y=max x y:=by
 simp only[y0d,cond_eq_ite,dT]
 split<;>omega
theorem b4s{n:Nat}(h:n<2147483648):lim n=true:=by simp[lim,h]
theorem a9Z{σ τ β γ:Type}{f:σ→Option (σ ⊕ β)}{g:τ→Option (τ ⊕ γ)}(φ:σ→τ)(ψ:β→γ)(I:σ→Prop)
  (h:∀s,I s→g (φ s)=(f s).map (Sum.map φ ψ)∧∀s',f s=some (.inl s')→I s'):∀n s,I s→g0u g n (φ s)=(g0u f n s).map ψ
 |0,_,_=>rfl
 |n+1,s,hs=>by
  obtain⟨a,b⟩:=h s hs;simp only[g0u,a];cases hf:f s with
  |none=>rfl
  |some z=>
   cases z with
   |inl s'=>exact a9Z φ ψ I h n s' (b s' hf)
   |inr r=>rfl
theorem a9M{α β:Type}{f:α→β}{c:Bool}{a b:Option α}:a19 f (bif c then a else b)=bif c then a19 f a else a19 f b:=by cases c<;>rfl
theorem a6y{σ τ β γ:Type}{f:σ→Option (σ ⊕ β)}{g:τ→Option (τ ⊕ γ)}(φ:σ→τ)(ψ:β→γ)(I:σ→Prop)
  (h:∀s,I s→g (φ s)=(f s).map (Sum.map φ ψ)∧∀s',f s=some (.inl s')→I s'){s:σ}(hs:I s):y0h g (φ s)=(y0h f s).map ψ:=by
 have key:=fun n=>a9Z φ ψ I h n s hs;cases hr:y0h f s with
 |some r=>
  obtain⟨n,a⟩:=s0t hr;have c:=key n;rw[a]at c;exact a7e c
 |none=>
  refine a8b fun n=>?_
  rw[key n];cases a:g0u f n s with
  |none=>rfl
  |some b=>rw[a7e a]at hr;cases hr
theorem a9g(b m:Int)(s)(L):a1y b L (b,s)=(a1y m L (m,s)).map (Sum.map (fun s=>(b,s.2)) id):=by
 simp only[a1y,beq_self_eq_true,cT,a16,a9M,a09,Function.comp_def,a08,a13,Sum.map_inl,Sum.map_inr,id]
theorem b1A{σ β:Type}{e:Option (σ ⊕ β)}{φ:σ→σ}{ψ:β→β}(h:e=e.map (Sum.map φ ψ)){s':σ}(g:e=some (.inl s')):s'=φ s':=by
 rw[g]at h;exact Sum.inl.inj (Option.some.inj h)
theorem b2W(b m:Int)(L)(g):a2j b L (g,b)=a2j m L (g,m):=by
 unfold a2j
 have:=a6y (f:=a1y m L) (g:=a1y b L) (fun s=>(b,s.2)) id (fun s=>s=(m,s.2)) (fun s hs=>⟨?_,fun s' h=>?_⟩) (s:=(m,(0,(0,(g.1,([],(g,()))))))) rfl
 rw[Option.map_id,id]at this;exact congrArg (fun z=>Option.bind z _) this;have a:=a9g b m s.2 L;rw[←hs]at a;exact a;rw[hs]at h;exact b1A (a9g m m s.2 L) h
theorem b3e(b m:Int)(s)(L):a1j ((b,s),(b,L))=(a1j ((m,s),(m,L))).map (Sum.map (fun s=>((b,s.1.2),(b,s.2.2))) (fun r=>((b,r.1.2),(b,r.2.2)))):=by
 simp only[a1j,beq_self_eq_true,cT,a16,a9M,a09,Function.comp_def,a08,a13,Sum.map_inl,Sum.map_inr]
theorem b3f(b m:Int)(s)(L):a1k ((b,s),(b,L))=(a1k ((m,s),(m,L))).map (Sum.map (fun s=>((b,s.1.2),(b,s.2.2))) (fun r=>(r.1,(b,r.2.2)))):=by
 simp only[a1k,b2W b m,beq_self_eq_true,cT,a16,a9M,a09,Function.comp_def,a08,a13,Sum.map_inl,Sum.map_inr]
theorem b3g(b:Int)(s)(L):y0h a1j ((b,s),(b,L))=(y0h a1j ((0,s),(0,L))).map (fun r=>((b,r.1.2),(b,r.2.2))):=
 a6y (f:=a1j) (g:=a1j) (fun s=>((b,s.1.2),(b,s.2.2))) (fun r=>((b,r.1.2),(b,r.2.2))) (fun s=>s=((0,s.1.2),(0,s.2.2))) (fun s hs=>⟨by
  have a:=b3e b 0 s.1.2 s.2.2;rw[←hs]at a;exact a,fun s' h=>by
  rw[hs]at h;exact b1A (b3e 0 0 s.1.2 s.2.2) h⟩) (s:=((0,s),(0,L))) rfl
theorem b6a(b:Int)(s)(L):y0h a1k ((b,s),(b,L))=(y0h a1k ((0,s),(0,L))).map (fun r=>(r.1,(b,r.2.2))):=
 a6y (f:=a1k) (g:=a1k) (fun s=>((b,s.1.2),(b,s.2.2))) (fun r=>(r.1,(b,r.2.2))) (fun s=>s=((0,s.1.2),(0,s.2.2))) (fun s hs=>⟨by
  have a:=b3f b 0 s.1.2 s.2.2;rw[←hs]at a;exact a,fun s' h=>by
  rw[hs]at h;exact b1A (b3f 0 0 s.1.2 s.2.2) h⟩) (s:=((0,s),(0,L))) rfl
theorem b4t(b:Int)(x):a2G b x=a2G 0 x:=by
 unfold a2G;rw[b3g b];have g:=b3g 0 ((-1:Int),(x,(((a00 x:Nat):Int),((0:Int),([],([],())))))) [];cases h:y0h a1j ((0,((-1:Int),(x,(((a00 x:Nat):Int),((0:Int),([],([],()))))))),(0,[]))with
 |none=>rfl
 |some w=>
  rw[h]at g;have f:w=((0,w.1.2),(0,w.2.2)):=Option.some.inj g;simp only[a08,oB];rw[b6a b];rw[f];simp only;cases y0h a1k ((0,(w.1.2.1,(((a00 w.1.2.2.1:Nat):Int),((0:Int),(w.1.2.2.2.1,(w.1.2.2.1,())))))),(0,w.2.2))with
  |none=>rfl
  |some r=>rfl
theorem b6b(x)(y)(h:a4k x=some y)(b:Int):a2G b x=some y:=(b4t b x).trans h
end Go.Ab
