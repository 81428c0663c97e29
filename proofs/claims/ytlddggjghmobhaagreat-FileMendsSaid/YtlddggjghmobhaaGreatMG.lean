/- Part of the proof: It. Conditions: as each statement tells. -/
import Derived.Test.YtlddggjghmobhaaGreatProg
import Derived.KernelRfl
import Derived.Test.YtlddggjghmobhaaGreatMF
noncomputable section
set_option linter.unusedSimpArgs false
set_option linter.unusedVariables false
open Bool renaming true_and→a16
open Int renaming toNat→a01,tmod→a07,tdiv→a17
open List renaming length→a00,append→a02,take→a03,getD→a04,drop→a05,set→a06,replicate→a13
open Option renaming map_some→a08,map_bind→a09,map_none→a11,map→a19,isSome→a20,isNone→a23
namespace Go.Ab
open IntKind(wrap)
open Go.Proofs
set_option maxRecDepth 100000
set_option linter.unusedVariables false
abbrev QI:Ty:=.int .i64
abbrev QL:Ty:=.list false QI
abbrev QU:Ty:=.int .u64
abbrev QV:Ty:=.int .u8
abbrev QB:Ty:=.list false QV
abbrev LI:Type:=List Int
instance (n:Nat):OfNat Ent n:=⟨.sv n QI⟩
@[reducible] def Qp(i n:Nat):Ent:=.ptr i n []
@[reducible] def Qn(l:a0c):Ex×a0c:=(.normal,l)
@[reducible] def Qe(n:Nat)(l:a0c):Ex×a0c:=(.exit n,l)
@[reducible] def Qr(l:a0c):Ex×a0c:=(.ret,l)
def QH:Hints:=⟨[],[],[]⟩
abbrev Z0:Type:=(Unit ⊕ (Bool×Unit))
abbrev Z1:Type:=((List LI)×Unit)
abbrev Z2:Type:=(LI×(Int×Unit))
abbrev Z3:Type:=(Int×(LI×Unit))
abbrev Z4:Type:=(List (Int×(Int×Unit)))
abbrev Z5:Type:=(Bool×(LI×Unit))
abbrev Z6:Type:=(Int×(Int×(Int×Unit)))
abbrev Z7:Type:=(Int×(Int×(Bool×Unit)))
abbrev Z8:Type:=(LI×(LI×Unit))
abbrev Z9:Type:=(Z2×Int)
abbrev Z10:Type:=(Int×Z3)
abbrev Z11:Type:=(LI×(Int×(Int×Unit)))
abbrev Z12:Type:=(List Z6)
abbrev Z13:Type:=(Z2×Unit)
abbrev Z14:Type:=(Int×Z6)
abbrev Z15:Type:=(Z4×Unit)
abbrev Z16:Type:=(Bool×Z2)
abbrev Z17:Type:=(Bool×Z5)
abbrev Z18:Type:=(Z6×Unit)
abbrev Z19:Type:=(Int×Z10)
abbrev Z20:Type:=(Int×Z11)
abbrev Z21:Type:=(LI×Z6)
abbrev Z22:Type:=(Z12×Unit)
abbrev Z23:Type:=(Z11×Unit)
abbrev Z24:Type:=(Int×Z16)
abbrev Z25:Type:=(Int×Z17)
abbrev Z26:Type:=(Bool×Z17)
abbrev Z27:Type:=(LI×Z10)
abbrev Z28:Type:=(Int×Z22)
abbrev Z29:Type:=(Int×Z25)
abbrev Z30:Type:=(Int×Z26)
abbrev Z31:Type:=(Int×Z29)
abbrev Z32:Type:=(List Z30)
abbrev Z33:Type:=(Int×Z30)
abbrev Z34:Type:=(Z30×Unit)
abbrev Z35:Type:=(List Z31)
abbrev Z36:Type:=(Z6×Z14)
abbrev Z37:Type:=(Z32×Int)
abbrev Z38:Type:=(List Z33)
abbrev Z39:Type:=(Z31×Unit)
abbrev Z40:Type:=(Z32×Unit)
abbrev Z41:Type:=(Z6×Z18)
abbrev Z42:Type:=(Int×Z34)
abbrev Z43:Type:=(Bool×Z34)
abbrev Z44:Type:=(List Z35)
abbrev Z45:Type:=(Z35×Int)
abbrev Z46:Type:=(Z35×Unit)
abbrev Z47:Type:=(Int×Z38)
abbrev Z48:Type:=(Int×Z40)
abbrev Z49:Type:=(LI×Z34)
abbrev Z50:Type:=(Z32×(Int×Unit))
abbrev Z51:Type:=(Int×Z46)
abbrev Z52:Type:=(Int×Z49)
abbrev Z53:Type:=(Int×Z48)
abbrev Z54:Type:=(Z32×Z1)
abbrev Z55:Type:=(Int×Z51)
abbrev Z56:Type:=((Int×(Int×Unit))×Z36)
abbrev Z57:Type:=(Unit×Z51)
abbrev Z58:Type:=(Z35×(Int×(Bool×Unit)))
abbrev Z59:Type:=(Int×Z52)
abbrev Z60:Type:=(Int×Z54)
abbrev Z61:Type:=(Int×Z55)
abbrev Z62:Type:=(Z32×Z10)
abbrev Z63:Type:=(LI×Z53)
abbrev Z64:Type:=(List Z58)
abbrev Z65:Type:=(Int×Z56)
abbrev Z66:Type:=(Unit×Z55)
abbrev Z67:Type:=(Int×Z57)
abbrev Z68:Type:=(Int×Z60)
abbrev Z69:Type:=(List Z65)
abbrev Z70:Type:=(Int×Z61)
abbrev Z71:Type:=(Int×Z66)
abbrev Z72:Type:=(Unit×Z61)
abbrev Z73:Type:=(Z64×Unit)
abbrev Z74:Type:=(Int×Z68)
abbrev Z75:Type:=(Int×Z72)
abbrev Z76:Type:=(Int×Z73)
abbrev Z77:Type:=(Int×Z76)
abbrev Z78:Type:=(Z32×Z40)
abbrev Z79:Type:=(Int×Z78)
abbrev Z80:Type:=(Z32×Z48)
abbrev Z81:Type:=(Int×Z79)
abbrev Z82:Type:=(Z69×Z23)
abbrev Z83:Type:=(Z32×Z59)
abbrev Z84:Type:=(Int×Z82)
abbrev Z85:Type:=(Int×Z83)
abbrev Z86:Type:=(Int×Z85)
abbrev Z87:Type:=(Z44×Z76)
abbrev Z88:Type:=(Z44×Z77)
abbrev Q0:Ty:=(.pair QI .unit)
abbrev Q1:Ty:=(.pair QB .unit)
abbrev Q2:Ty:=(.pair QI (.pair .bool .unit))
abbrev Q3:Ty:=(.pair QI Q0)
abbrev Q4:Ty:=(.pair .bool Q1)
abbrev Q5:Ty:=(.pair (.list true QV) Q0)
abbrev Q6:Ty:=(.pair QL Q0)
abbrev Q7:Ty:=(.pair QI Q3)
abbrev Q8:Ty:=(.pair .bool Q4)
abbrev Q9:Ty:=(.pair .bool Q5)
abbrev Q10:Ty:=(.pair QB Q3)
abbrev Q11:Ty:=(.pair .bool Q8)
abbrev Q12:Ty:=(.pair QI Q7)
abbrev Q13:Ty:=(.pair QI Q8)
abbrev Q14:Ty:=(.pair QI Q9)
abbrev Q15:Ty:=(.pair QI Q11)
abbrev Q16:Ty:=(.pair QI Q13)
abbrev Q17:Ty:=(.pair QI Q16)
abbrev Q18:Ty:=(.pair Q7 Q12)
abbrev Q19:Ty:=(.pair (.list false Q17) Q2)
abbrev Q20:Ty:=(.pair Q3 Q18)
abbrev Q21:Ty:=(.pair QI Q20)
def a6y:List (Nat×Ty):=[(2,.int .i64),(3,.int .i64),(4,.bool),(5,.int .u8),(9,.str),(22,.list false QI),(23,.list false Q21),(24,.list false (.list false Q17)),(29,.list false QV),(30,.int .i64),(34,.list false Q17),(35,.list false Q3),(41,.pair QI Q16),(48,.list false Q15),(54,.list false Q7),(56,.int .u64),(60,.pair QI Q11),(78,.pair QI Q0),(81,.pair QI Q3),(84,.pair QI Q20),(86,.pair QL Q0),(94,.pair QI Q3),(102,.int .u64),(107,.int .u32),(117,.list false QB),(129,.list false Q19),(131,.pair (.list false Q17) Q2),(140,.pair QI (.pair .bool (.pair QB Q0))),(142,.pair QI Q0),(147,.list false Q3),(152,.pair QB Q3),(162,.list false QU),(182,.pair QI .unit),(195,.int .u64)]
def T0:Nat→Option Ty:=fun t=>find a6y t
def a6V:List Nat:=[81,84]
def b4I:Nat→Bool:=fun t=>a6V.contains t
def a6j:List Nat:=[]
def b4J:Nat→Bool:=fun t=>a6j.contains t
def b3P:List (Nat×Ty):=[(170,.pair QI Q11)]
def G0:GTab:={ g:=fun g=>find ([]:List (Nat×((t:Ty)×t.den))) g,w:=fun t=>find b3P t }
@[reducible] def b4K(a:List (Nat×FSem))(b:List (Nat×Ty))(c d:Nat):Cx:=⟨b4J,b4I,T0,fun f=>find a f,fun n=>find b n,c.testBit,d.testBit,G0⟩
def a1C(x:(Int×Int×Int)):Option Int:=(show Option (Int×Z7)from cond (decide (x.1≥x.2.1)) (some (x.1,x.2.1,x.2.2,decide (x.1≤x.2.2),())) (some (x.1,x.2.1,x.2.2,false,()))).bind fun z1=>cond z1.2.2.2.1 (some z1.1) (cond ((wrap .i64 ((wrap .i64 (z1.2.2.1-z1.2.1))+1))==0) none ((show Option (Int×Int×Unit)from cond (decide ((a07 z1.1 (wrap .i64 ((wrap .i64 (z1.2.2.1-z1.2.1))+1)))<0)) (some (wrap .i64 ((wrap .i64 ((wrap .i64 ((a07 z1.1 (wrap .i64 ((wrap .i64 (z1.2.2.1-z1.2.1))+1)))+z1.2.2.1))-z1.2.1))+1),z1.2.1,())) (some (a07 z1.1 (wrap .i64 ((wrap .i64 (z1.2.2.1-z1.2.1))+1)),z1.2.1,()))).bind fun z2=>some (wrap .i64 (z2.2.1+z2.1))))
def a6W:FSem:=⟨[.v QI,.v QI,.v QI],[.v QI],a1C⟩
def H11:Hints:=⟨[],[(6,[Qn [0,1,2,.sv 14 .bool]]),(15,[Qn [0,1]])],[]⟩
def a0A(x:Z9):Option (Int×Z2):=(show Option (Int×Bool×Z13)from cond (decide (x.1.2.1≥(x.1.1.length:Int))) (some (x.2,true,x.1,())) (some (x.2,decide (x.2<1),x.1,()))).bind fun z1=>cond z1.2.1 (some (0,z1.2.2.1)) ((n0s z1.2.2.1.1 (wrap .i64 ((wrap .i64 (z1.2.2.1.2.1+1))-1))).bind fun x2=>(a1C (x2,0,1073741824)).bind fun y3=>cond (z1.1==0) none (some (a07 y3 z1.1,z1.2.2.1.1,wrap .i64 (z1.2.2.1.2.1+1),z1.2.2.1.2.2)))
def a6w:FSem:=⟨[.r false (.b Q6),.v QI],[.v QI],a0A⟩
def H36:Hints:=⟨[],[(6,[Qn [1,.sv 18 .bool,.box pinned Q6,Qp 0 pinned]])],[(1,[.p,.p,.q,.q,.p,.p,.q,.q,.v,.x,.x,.x,.x,.x]),(4,[.p,.p,.q,.q,.p,.p,.q,.q,.v,.v,.v,.v,.v,.x,.x])]⟩
def a3s(x:((Int×Unit)×Int)):Option (Int×Int×Unit):=cond (x.2==0) none (some (a07 (E0j .i64 (bits .i64 .and (wrap .i64 ((wrap .i64 (x.1.1*1103515245))+12345)) 2147483647) 8) x.2,bits .i64 .and (wrap .i64 ((wrap .i64 (x.1.1*1103515245))+12345)) 2147483647,x.1.2))
def a6F:FSem:=⟨[.r false (.b Q0),.v QI],[.v QI],a3s⟩
def a2m(s:(Int×(LI×((Int×Unit)×Z13)))):Option ((Int×(LI×((Int×Unit)×Z13))) ⊕ (LI×Z13)):=cond (decide (s.1 > 0)) ((a3s (s.2.2.1,256)).bind fun y3=>cond (lim ((a00 s.2.1)+1)) (some (.inl (wrap .i64 (s.1-1),a02 s.2.1 [wrap .u8 y3.1],y3.2,s.2.2.2.1,()))) none) (some (.inr (s.2.1,s.2.2.2.1,())))
def a1X(x:Z9):Option (LI×Z2):=(a0A (x.1,1048576)).bind fun y1=>(a0A (y1.2,wrap .i64 (x.2+1))).bind fun y2=>(y0h a2m (y2.1,[],(y1.1,()),y2.2,())).bind fun w4=>some (w4.1,w4.2.1)
def a6k:FSem:=⟨[.r false (.b Q6),.v QI],[.o QV],a1X⟩
def b7u:Hints:=⟨[(122,[7,.own 6 6 QV,.box 11 Q0,.box pinned Q6,Qp 5 11],[Qe 0 [.own 6 6 QV,.box pinned Q6]])],[],[]⟩
def a2d(s:(Int×Int×Int×Z35×Z13)):Option ((Int×Int×Int×Z35×Z13) ⊕ (Z35×Z13)):=cond (decide (s.2.2.1 > 0)) ((a0A (s.2.2.2.2.1,50)).bind fun y3=>(a0A (y3.2,3)).bind fun y4=>(a0A (y4.2,8)).bind fun y5=>(a0A (y5.2,3)).bind fun y6=>cond ((decide (0≤y6.1))&&(decide (y6.1<3))) ((a1X (y6.2,a04 [20,300,900] (a01 y6.1) 0)).bind fun y7=>cond (lim ((a00 s.2.2.2.1)+1)) ((a0A (y7.2,60)).bind fun y8=>some (.inl (s.1,wrap .i64 (s.2.1+y8.1),wrap .i64 (s.2.2.1-1),a02 s.2.2.2.1 ([(s.1,s.2.1,y3.1,decide (y4.1 > 0),y5.1==7,y7.1,())]:List Z31),y8.2,()))) none) none) (some (.inr (s.2.2.2.1,s.2.2.2.2.1,())))
def a1Q(x:(Z2×Int×Int)):Option (Z35×Z2):=(a0A (x.1,40)).bind fun y1=>(a0A (y1.2,wrap .i64 (x.2.2+1))).bind fun y2=>(y0h a2d (x.2.1,y1.1,y2.1,[],y2.2,())).bind fun w9=>some (w9.1,w9.2.1)
def a5T:FSem:=⟨[.r false (.b Q6),.v QI,.v QI],[.o Q17],a1Q⟩
def H85:Hints:=⟨[(122,[1,7,9,.own 8 8 Q17,.box pinned Q6,Qp 0 pinned],[Qe 0 [.own 8 8 Q17,.box pinned Q6]])],[],[]⟩
def a2e(s:(Int×Int×Z44×Z13)):Option ((Int×Int×Z44×Z13) ⊕ (Z44×Z13)):=cond (decide (s.2.1 > 0)) ((a1Q (s.2.2.2.1,(s.2.2.1.length:Int),s.1)).bind fun y2=>cond (lim ((a00 s.2.2.1)+1)) (some (.inl (s.1,wrap .i64 (s.2.1-1),a02 s.2.2.1 ([y2.1]:List Z35),y2.2,()))) none) (some (.inr (s.2.2.1,s.2.2.2.1,())))
def a1R(x:Z9):Option (Z44×Z2):=(a0A (x.1,4)).bind fun y1=>(y0h a2e (x.2,wrap .i64 (1+y1.1),[],y1.2,())).bind fun w3=>some (w3.1,w3.2.1)
def a5U:FSem:=⟨[.r false (.b Q6),.v QI],[.o (.list false Q17)],a1R⟩
def H35:Hints:=⟨[(58,[1,6,.own 5 5 (.list false Q17),.box pinned Q6,Qp 0 pinned],[Qe 0 [.own 5 5 (.list false Q17),.box pinned Q6]])],[],[]⟩
def a1M(x:Z2):Option ((Int×Int×Unit)×Z2):=(a0A (x,6)).bind fun y1=>cond ((decide (0≤y1.1))&&(decide (y1.1<6))) (some (a04 ([(1,1,()),(30000,1001,()),(3,7,()),(7,3,()),(1,100,()),(44100,90000,())]:List (Int×Int×Unit)) (a01 y1.1) (0,0,()),y1.2)) none
def a6x:FSem:=⟨[.r false (.b Q6)],[.v Q3],a1M⟩
def a1U(x:Z2):Option (Z6×Z2):=(a0A (x,50000)).bind fun y1=>(a0A (y1.2,3)).bind fun y2=>(a0A (y2.2,4)).bind fun y3=>cond ((decide (0≤y3.1))&&(decide (y3.1<4))) (some ((wrap .i64 (1+y1.1),wrap .i64 (1+y2.1),a04 [16,8,4,24] (a01 y3.1) 0,()),y3.2)) none
def a6a:FSem:=⟨[.r false (.b Q6)],[.v Q7],a1U⟩
def a5y(s:(Int×Z44×Z69×Z13)):Option ((Int×Z44×Z69×Z13) ⊕ (Z44×Z69×Z13)):=cond (decide (s.1<(s.2.1.length:Int))) ((a0A (s.2.2.2.1,2)).bind fun y2=>cond (y2.1==0) ((a1M y2.2).bind fun y3=>(a1U y3.2).bind fun y4=>cond (lim ((a00 s.2.2.1)+1)) (some (.inl (wrap .i64 (s.1+1),s.2.1,a02 s.2.2.1 ([(1,y3.1,y4.1,0,0,0,0,())]:List Z65),y4.2,()))) none) ((a1M y2.2).bind fun y5=>(a0A (y5.2,64)).bind fun y6=>(a0A (y6.2,64)).bind fun y7=>(a0A (y7.2,16)).bind fun y8=>(a0A (y8.2,4)).bind fun y9=>cond (lim ((a00 s.2.2.1)+1)) (some (.inl (wrap .i64 (s.1+1),s.2.1,a02 s.2.2.1 ([(2,y5.1,(0,0,0,()),wrap .i64 (1+y6.1),wrap .i64 (1+y7.1),wrap .i64 (1+y8.1),wrap .i64 (1+y9.1),())]:List Z65),y9.2,()))) none)) (some (.inr (s.2.1,s.2.2.1,s.2.2.2.1,())))
def a5K(x:Z9):Option (Z69×Z44×Z2):=(a1R (x.1,x.2)).bind fun y1=>(y0h a5y (0,y1.1,[],y1.2,())).bind fun w10=>some (w10.2.1,w10.1,w10.2.2.1)
def b1Z:FSem:=⟨[.r false (.b Q6),.v QI],[.o Q21,.o (.list false Q17)],a5K⟩
def H8:Hints:=⟨[(122,[8,.own 6 6 (.list false Q17),.own 7 7 Q21,.box pinned Q6,Qp 0 pinned],[Qe 0 [.own 6 6 (.list false Q17),.own 7 7 Q21,.box pinned Q6]])],[],[]⟩
def a4S(x:LI):Option Z2:=some (x,0,())
def a7Z:FSem:=⟨[.v QL],[.b Q6],a4S⟩
def a2C(x:Int):Option Int:=some (y0e (y0d x 0) 8)
def b0A:FSem:=⟨[.v QI],[.v QI],a2C⟩
def a3P(s:Z19):Option (Z19 ⊕ (LI×Unit)):=cond (decide (s.2.2.1<s.2.1)) (cond (lim ((a00 s.2.2.2.1)+1)) (some (.inl (wrap .u64 (a17 s.1 256),s.2.1,wrap .i64 (s.2.2.1+1),a02 s.2.2.2.1 [wrap .u8 (a07 s.1 256)],()))) none) (some (.inr (s.2.2.2.1,())))
def a4Z(x:(Int×Int)):Option LI:=(a2C x.2).bind fun y1=>(y0h a3P (x.1,y1,0,[],())).bind fun w2=>some w2.1
def b0B:FSem:=⟨[.v QU,.v QI],[.o QV],a4Z⟩
def b7v:Hints:=⟨[(58,[.sv 0 QU,7,8,.own 5 5 QV],[Qe 0 [.own 5 5 QV]])],[],[]⟩
def a2f(x:LI):Option LI:=cond (decide (a00 x<2147483648)) (some (List.reverse x)) none
def a5x:FSem:=⟨[.r false (.o QV)],[],a2f⟩
def a1V(x:(Int×Int)):Option LI:=(a4Z (x.1,x.2)).bind fun y1=>(a2f y1).bind fun y2=>some y2
def b2a:FSem:=⟨[.v QU,.v QI],[.o QV],a1V⟩
def a1P(x:(Bool×Int)):Option Int:=cond x.1 (some x.2) (some 0)
def b2b:FSem:=⟨[.v .bool,.v QV],[.v QV],a1P⟩
def a5h(x:Z31):Option (LI×Int):=(show Option (Bool×Z39)from cond (decide (x.1<0)) (some (true,x,())) (cond (decide (x.1≥4)) (some (true,x,())) (cond (decide (x.2.1<0)) (some (true,x,())) (cond (decide (x.2.1 > 1125899906842624)) (some (true,x,())) (cond (decide (x.2.2.1<0)) (some (true,x,())) (some (decide (x.2.2.1 > 1125899906842624),x,()))))))).bind fun z1=>cond z1.1 (some ([],1)) (cond (decide ((z1.2.1.2.2.2.2.2.1.length:Int) > 65536)) (some ([],4)) ((a1P (z1.2.1.2.2.2.1,1)).bind fun y2=>(a1P (z1.2.1.2.2.2.2.1,2)).bind fun y3=>(a1V (wrap .u64 z1.2.1.2.1,8)).bind fun y4=>cond (lim (2+(a00 y4))) ((a1V (wrap .u64 z1.2.1.2.2.1,8)).bind fun y5=>cond (lim ((a00 (a02 [wrap .u8 z1.2.1.1,bits .u8 .or y2 y3] y4))+(a00 y5))) (cond (lim ((a00 (a02 (a02 [wrap .u8 z1.2.1.1,bits .u8 .or y2 y3] y4) y5))+(a00 z1.2.1.2.2.2.2.2.1))) (some (a02 (a02 (a02 [wrap .u8 z1.2.1.1,bits .u8 .or y2 y3] y4) y5) z1.2.1.2.2.2.2.2.1,0)) none) none) none))
def b3d:FSem:=⟨[.v Q17],[.o QV,.v QI],a5h⟩
def H57:Hints:=⟨[],[(6,[Qn [.sv 32 .bool,.vp 1 Q17]])],[(5,[.v,.v,.v,.v,.v,.v,.v,.v,.v,.v,.x,.x])]⟩
def a2D(x:LI):Option LI:=cond (List.isEmpty x) (m0f (some []) (cond (lim (0+(a00 x))) (some (a02 [] x)) none)) (cond (lim (0+(a00 x))) (some (a02 [] x)) none)
def b0C:FSem:=⟨[.v QB],[.o QV],a2D⟩
def a5a(x:Z31):Option Z31:=(a2D x.2.2.2.2.2.1).bind fun y1=>some (x.1,x.2.1,x.2.2.1,x.2.2.2.1,x.2.2.2.2.1,y1,x.2.2.2.2.2.2)
def b0D:FSem:=⟨[.v Q17],[.v Q17],a5a⟩
def a8n(s:Z20):Option (Z20 ⊕ ((Int×Unit) ⊕ (Int×Unit))):=(fun(a b:Int)=>cond (decide (b<a)) ((n0s s.2.1 b).bind fun x1=>cond (x1 != s.1) (some (.inr (Sum.inr ((x1,()))))) (some (.inl (s.1,s.2.1,a,wrap .i64 (b+1),())))) (some (.inr (Sum.inl (s.1,()))))) s.2.2.1 s.2.2.2.1
def a5V(x:LI):Option Int:=(y0h a8n (0,x,(x.length:Int),0,())).bind fun w2=>match w2 with |.inl a3=>some a3.1 |.inr b4=>some b4.1
def b0E:FSem:=⟨[.v QL],[.v QI],a5V⟩
def H61:Hints:=⟨[(58,[3,.sv 6 QL,7,8],[Qe 0 [3],Qr [2]])],[],[]⟩
def a3i(x:Int):Option Bool:=some (x != x)
def a7z:FSem:=⟨[.v QI],[.v .bool],a3i⟩
def a2N(x:(Int×Int)):Option Int:=(a3i x.1).bind fun y1=>(a3i x.2).bind fun y2=>cond y1 (cond y2 (some 0) (some (-1))) (cond y2 (some 1) (cond (decide (x.1<x.2)) (some (-1)) (cond (decide (x.1 > x.2)) (some 1) (some 0))))
def a6X:FSem:=⟨[.v QI,.v QI],[.v QI],a2N⟩
def a3Q(x:Int):Option Bool:=some (x != x)
def a8o:FSem:=⟨[.v QI],[.v .bool],a3Q⟩
def a3j(x:(Int×Int)):Option Int:=(a3Q x.1).bind fun y1=>(a3Q x.2).bind fun y2=>cond y1 (cond y2 (some 0) (some (-1))) (cond y2 (some 1) (cond (decide (x.1<x.2)) (some (-1)) (cond (decide (x.1 > x.2)) (some 1) (some 0))))
def a7A:FSem:=⟨[.v QI,.v QI],[.v QI],a3j⟩
def a2E(x:(Z31×Z31)):Option Int:=(a2N (x.1.2.1,x.2.2.1)).bind fun y1=>(a3j (x.1.1,x.2.1)).bind fun y2=>(a5V [y1,y2]).bind fun y3=>some y3
def a7t:FSem:=⟨[.v Q17,.v Q17],[.v QI],a2E⟩
def H60:Hints:=⟨[],[],[(1,[.v,.v,.v,.v,.v,.v,.v,.v,.v,.x,.x,.x,.x])]⟩
def a1a(s:(Int×Z71)):Option ((Int×Z71) ⊕ (Int×Z67)):=cond (decide (s.2.2.2.2.1 > s.1)) (cond ((decide (0≤s.2.2.2.2.1))&&(decide (s.2.2.2.2.1<(s.2.2.2.2.2.1.length:Int)))) (cond ((decide (0≤(wrap .i64 (s.2.2.2.2.1-1))))&&(decide ((wrap .i64 (s.2.2.2.2.1-1))<(s.2.2.2.2.2.1.length:Int)))) ((a2E (a04 s.2.2.2.2.2.1 (a01 s.2.2.2.2.1) (0,0,0,false,false,[],()),a04 s.2.2.2.2.2.1 (a01 (wrap .i64 (s.2.2.2.2.1-1))) (0,0,0,false,false,[],()))).bind fun y2=>cond (decide (y2<0)) (cond ((decide (0≤(wrap .i64 (s.2.2.2.2.1-1))))&&(decide ((wrap .i64 (s.2.2.2.2.1-1))<(s.2.2.2.2.2.1.length:Int)))) (cond ((decide (0≤s.2.2.2.2.1))&&(decide (s.2.2.2.2.1<(s.2.2.2.2.2.1.length:Int)))) (cond ((decide (0≤s.2.2.2.2.1))&&(decide (s.2.2.2.2.1<(s.2.2.2.2.2.1.length:Int)))) (cond ((decide (0≤(wrap .i64 (s.2.2.2.2.1-1))))&&(decide ((wrap .i64 (s.2.2.2.2.1-1))<((a00 (a06 s.2.2.2.2.2.1 (a01 s.2.2.2.2.1) (a04 s.2.2.2.2.2.1 (a01 (wrap .i64 (s.2.2.2.2.1-1))) (0,0,0,false,false,[],()))):Nat):Int)))) (some (.inl (s.1,s.2.1,s.2.2.1,s.2.2.2.1,wrap .i64 (s.2.2.2.2.1-1),a06 (a06 s.2.2.2.2.2.1 (a01 s.2.2.2.2.1) (a04 s.2.2.2.2.2.1 (a01 (wrap .i64 (s.2.2.2.2.1-1))) (0,0,0,false,false,[],()))) (a01 (wrap .i64 (s.2.2.2.2.1-1))) (a04 s.2.2.2.2.2.1 (a01 s.2.2.2.2.1) (0,0,0,false,false,[],())),()))) none) none) none) none) (some (.inr (s.1,s.2.1,s.2.2.1,s.2.2.2.1,s.2.2.2.2.2.1,())))) none) none) (some (.inr (s.1,s.2.1,s.2.2.1,s.2.2.2.1,s.2.2.2.2.2.1,())))
def a1b(s:(Int×Z67)):Option ((Int×Z67) ⊕ Z46):=cond (decide (s.2.2.2.1<s.2.1)) ((y0h a1a (s.1,s.2.1,s.2.2.1,s.2.2.2.1,s.2.2.2.1,s.2.2.2.2.1,())).bind fun w3=>some (.inl (w3.1,w3.2.1,w3.2.2.1,wrap .i64 (w3.2.2.2.1+1),w3.2.2.2.2.1,()))) (some (.inr (s.2.2.2.2.1,())))
def a0M(x:(Z35×Int×Int×Unit)):Option Z35:=(y0h a1b (x.2.1,x.2.2.1,x.2.2.2,wrap .i64 (x.2.1+1),x.1,())).bind fun w4=>some w4.1
def a3N:FSem:=⟨[.r false (.o Q17),.v QI,.v QI,.v (.fn 60)],[],a0M⟩
def b7w:Hints:=⟨[(6,[1,2,.sv 3 (.fn 60),8,.own 0 pinned Q17],[Qe 0 [.own 0 pinned Q17]]),(402,[1,2,.sv 3 (.fn 60),8,9,.own 0 pinned Q17],[Qe 2 [1,2,.sv 3 (.fn 60),8,.own 0 pinned Q17]])],[],[(4,[.v,.v,.x,.x,.v,.q,.v,.q,.q,.q,.v,.v,.q,.q,.x,.x,.x]),(6,[.q,.v,.h,.v,.v,.q,.v,.v,.q,.q,.q,.v,.q,.q,.q,.k [0,pinned],.x,.x])]⟩
def a1i(s:Z70):Option (Z70 ⊕ Z46):=cond (decide (s.2.2.2.1<s.2.2.1)) (cond ((decide (0≤(wrap .i64 (s.2.1+s.2.2.2.1))))&&(decide ((wrap .i64 (s.2.1+s.2.2.2.1))<(s.2.2.2.2.1.length:Int)))) (cond ((decide (0≤(wrap .i64 (s.1+s.2.2.2.1))))&&(decide ((wrap .i64 (s.1+s.2.2.2.1))<(s.2.2.2.2.1.length:Int)))) (cond ((decide (0≤(wrap .i64 (s.1+s.2.2.2.1))))&&(decide ((wrap .i64 (s.1+s.2.2.2.1))<(s.2.2.2.2.1.length:Int)))) (cond ((decide (0≤(wrap .i64 (s.2.1+s.2.2.2.1))))&&(decide ((wrap .i64 (s.2.1+s.2.2.2.1))<((a00 (a06 s.2.2.2.2.1 (a01 (wrap .i64 (s.1+s.2.2.2.1))) (a04 s.2.2.2.2.1 (a01 (wrap .i64 (s.2.1+s.2.2.2.1))) (0,0,0,false,false,[],()))):Nat):Int)))) (some (.inl (s.1,s.2.1,s.2.2.1,wrap .i64 (s.2.2.2.1+1),a06 (a06 s.2.2.2.2.1 (a01 (wrap .i64 (s.1+s.2.2.2.1))) (a04 s.2.2.2.2.1 (a01 (wrap .i64 (s.2.1+s.2.2.2.1))) (0,0,0,false,false,[],()))) (a01 (wrap .i64 (s.2.1+s.2.2.2.1))) (a04 s.2.2.2.2.1 (a01 (wrap .i64 (s.1+s.2.2.2.1))) (0,0,0,false,false,[],())),()))) none) none) none) none) (some (.inr (s.2.2.2.2.1,())))
def a0P(x:(Z35×Z6)):Option Z35:=(y0h a1i (x.2.1,x.2.2.1,x.2.2.2.1,0,x.1,())).bind fun w2=>some w2.1
def a4s:FSem:=⟨[.r false (.o Q17),.v QI,.v QI,.v QI,.v (.fn 60)],[],a0P⟩
def b7x:Hints:=⟨[(6,[1,2,3,10,.own 0 pinned Q17],[Qe 0 [.own 0 pinned Q17]])],[],[(3,[.q,.v,.v,.v,.h,.v,.v,.v,.q,.v,.v,.v,.q,.q,.q,.v,.v,.v,.q,.q,.q,.k [0,pinned],.x,.x])]⟩
def a1I(s:Z71):Option (Z71 ⊕ Z67):=cond (s.2.2.1 != s.2.2.2.1) (cond (decide (s.2.2.1 > s.2.2.2.1)) ((a0P (s.2.2.2.2.1,wrap .i64 (s.1-s.2.2.1),s.1,s.2.2.2.1,s.2.1)).bind fun y1=>some (.inl (s.1,s.2.1,wrap .i64 (s.2.2.1-s.2.2.2.1),s.2.2.2.1,y1,()))) ((a0P (s.2.2.2.2.1,wrap .i64 (s.1-s.2.2.1),wrap .i64 ((wrap .i64 (s.1+s.2.2.2.1))-s.2.2.1),s.2.2.1,s.2.1)).bind fun y2=>some (.inl (s.1,s.2.1,s.2.2.1,wrap .i64 (s.2.2.2.1-s.2.2.1),y2,())))) (some (.inr (s.1,s.2.1,s.2.2.1,s.2.2.2.2.1,())))
def a1v(x:(Z35×Z6)):Option Z35:=(y0h a1I (x.2.2.1,x.2.2.2.2,wrap .i64 (x.2.2.1-x.2.1),wrap .i64 (x.2.2.2.1-x.2.2.1),x.1,())).bind fun w3=>(a0P (w3.2.2.2.1,wrap .i64 (w3.1-w3.2.2.1),w3.1,w3.2.2.1,w3.2.1)).bind fun y4=>some y4
def a2H:FSem:=⟨[.r false (.o Q17),.v QI,.v QI,.v QI,.v (.fn 60)],[],a1v⟩
def b7y:Hints:=⟨[(28,[2,.sv 4 (.fn 60),10,11,.own 0 pinned Q17],[Qe 0 [2,.sv 4 (.fn 60),10,.own 0 pinned Q17]])],[],[]⟩
def a1m(s:Z71):Option (Z71 ⊕ Z55):=cond (decide (s.2.2.1<s.2.2.2.1)) (cond ((decide (0≤(wrap .i64 (E0j .u64 (wrap .u64 (wrap .i64 (s.2.2.1+s.2.2.2.1))) 1))))&&(decide ((wrap .i64 (E0j .u64 (wrap .u64 (wrap .i64 (s.2.2.1+s.2.2.2.1))) 1))<(s.2.2.2.2.1.length:Int)))) (cond ((decide (0≤s.1))&&(decide (s.1<(s.2.2.2.2.1.length:Int)))) ((a2E (a04 s.2.2.2.2.1 (a01 (wrap .i64 (E0j .u64 (wrap .u64 (wrap .i64 (s.2.2.1+s.2.2.2.1))) 1))) (0,0,0,false,false,[],()),a04 s.2.2.2.2.1 (a01 s.1) (0,0,0,false,false,[],()))).bind fun y1=>cond (decide (y1<0)) (some (.inl (s.1,s.2.1,wrap .i64 ((wrap .i64 (E0j .u64 (wrap .u64 (wrap .i64 (s.2.2.1+s.2.2.2.1))) 1))+1),s.2.2.2.1,s.2.2.2.2.1,()))) (some (.inl (s.1,s.2.1,s.2.2.1,wrap .i64 (E0j .u64 (wrap .u64 (wrap .i64 (s.2.2.1+s.2.2.2.1))) 1),s.2.2.2.2.1,())))) none) none) (some (.inr (s.1,s.2.2.1,s.2.2.2.2.1,())))
def a1n(s:Z55):Option (Z55 ⊕ Z46):=cond (decide (s.2.1<(wrap .i64 (s.1-1)))) (cond ((decide (0≤(wrap .i64 (s.2.1+1))))&&(decide ((wrap .i64 (s.2.1+1))<(s.2.2.1.length:Int)))) (cond ((decide (0≤s.2.1))&&(decide (s.2.1<(s.2.2.1.length:Int)))) (cond ((decide (0≤s.2.1))&&(decide (s.2.1<(s.2.2.1.length:Int)))) (cond ((decide (0≤(wrap .i64 (s.2.1+1))))&&(decide ((wrap .i64 (s.2.1+1))<((a00 (a06 s.2.2.1 (a01 s.2.1) (a04 s.2.2.1 (a01 (wrap .i64 (s.2.1+1))) (0,0,0,false,false,[],()))):Nat):Int)))) (some (.inl (s.1,wrap .i64 (s.2.1+1),a06 (a06 s.2.2.1 (a01 s.2.1) (a04 s.2.2.1 (a01 (wrap .i64 (s.2.1+1))) (0,0,0,false,false,[],()))) (a01 (wrap .i64 (s.2.1+1))) (a04 s.2.2.1 (a01 s.2.1) (0,0,0,false,false,[],())),()))) none) none) none) none) (some (.inr (s.2.2.1,())))
def a1o(s:Z71):Option (Z71 ⊕ Z55):=cond (decide (s.2.2.1<s.2.2.2.1)) (cond ((decide (0≤s.1))&&(decide (s.1<(s.2.2.2.2.1.length:Int)))) (cond ((decide (0≤(wrap .i64 (E0j .u64 (wrap .u64 (wrap .i64 (s.2.2.1+s.2.2.2.1))) 1))))&&(decide ((wrap .i64 (E0j .u64 (wrap .u64 (wrap .i64 (s.2.2.1+s.2.2.2.1))) 1))<(s.2.2.2.2.1.length:Int)))) ((a2E (a04 s.2.2.2.2.1 (a01 s.1) (0,0,0,false,false,[],()),a04 s.2.2.2.2.1 (a01 (wrap .i64 (E0j .u64 (wrap .u64 (wrap .i64 (s.2.2.1+s.2.2.2.1))) 1))) (0,0,0,false,false,[],()))).bind fun y4=>cond (!(decide (y4<0))) (some (.inl (s.1,s.2.1,wrap .i64 ((wrap .i64 (E0j .u64 (wrap .u64 (wrap .i64 (s.2.2.1+s.2.2.2.1))) 1))+1),s.2.2.2.1,s.2.2.2.2.1,()))) (some (.inl (s.1,s.2.1,s.2.2.1,wrap .i64 (E0j .u64 (wrap .u64 (wrap .i64 (s.2.2.1+s.2.2.2.1))) 1),s.2.2.2.2.1,())))) none) none) (some (.inr (s.1,s.2.2.1,s.2.2.2.2.1,())))
def a1p(s:Z55):Option (Z55 ⊕ Z46):=cond (decide (s.2.1 > s.1)) (cond ((decide (0≤(wrap .i64 (s.2.1-1))))&&(decide ((wrap .i64 (s.2.1-1))<(s.2.2.1.length:Int)))) (cond ((decide (0≤s.2.1))&&(decide (s.2.1<(s.2.2.1.length:Int)))) (cond ((decide (0≤s.2.1))&&(decide (s.2.1<(s.2.2.1.length:Int)))) (cond ((decide (0≤(wrap .i64 (s.2.1-1))))&&(decide ((wrap .i64 (s.2.1-1))<((a00 (a06 s.2.2.1 (a01 s.2.1) (a04 s.2.2.1 (a01 (wrap .i64 (s.2.1-1))) (0,0,0,false,false,[],()))):Nat):Int)))) (some (.inl (s.1,wrap .i64 (s.2.1-1),a06 (a06 s.2.2.1 (a01 s.2.1) (a04 s.2.2.1 (a01 (wrap .i64 (s.2.1-1))) (0,0,0,false,false,[],()))) (a01 (wrap .i64 (s.2.1-1))) (a04 s.2.2.1 (a01 s.2.1) (0,0,0,false,false,[],())),()))) none) none) none) none) (some (.inr (s.2.2.1,())))
def a0U(s:(Int×Int×Int×Unit×Int×Z70)):Option ((Int×Int×Int×Unit×Int×Z70) ⊕ (Int×Int×Z75)):=cond (decide (s.2.2.2.2.2.2.1<s.2.2.2.2.2.2.2.1)) (cond ((decide (0≤(wrap .i64 (s.2.2.2.2.2.2.2.2.1-(wrap .i64 (E0j .u64 (wrap .u64 (wrap .i64 (s.2.2.2.2.2.2.1+s.2.2.2.2.2.2.2.1))) 1))))))&&(decide ((wrap .i64 (s.2.2.2.2.2.2.2.2.1-(wrap .i64 (E0j .u64 (wrap .u64 (wrap .i64 (s.2.2.2.2.2.2.1+s.2.2.2.2.2.2.2.1))) 1))))<(s.2.2.2.2.2.2.2.2.2.1.length:Int)))) (cond ((decide (0≤(wrap .i64 (E0j .u64 (wrap .u64 (wrap .i64 (s.2.2.2.2.2.2.1+s.2.2.2.2.2.2.2.1))) 1))))&&(decide ((wrap .i64 (E0j .u64 (wrap .u64 (wrap .i64 (s.2.2.2.2.2.2.1+s.2.2.2.2.2.2.2.1))) 1))<(s.2.2.2.2.2.2.2.2.2.1.length:Int)))) ((a2E (a04 s.2.2.2.2.2.2.2.2.2.1 (a01 (wrap .i64 (s.2.2.2.2.2.2.2.2.1-(wrap .i64 (E0j .u64 (wrap .u64 (wrap .i64 (s.2.2.2.2.2.2.1+s.2.2.2.2.2.2.2.1))) 1))))) (0,0,0,false,false,[],()),a04 s.2.2.2.2.2.2.2.2.2.1 (a01 (wrap .i64 (E0j .u64 (wrap .u64 (wrap .i64 (s.2.2.2.2.2.2.1+s.2.2.2.2.2.2.2.1))) 1))) (0,0,0,false,false,[],()))).bind fun y8=>cond (!(decide (y8<0))) (some (.inl (s.1,s.2.1,s.2.2.1,s.2.2.2.1,s.2.2.2.2.1,s.2.2.2.2.2.1,wrap .i64 ((wrap .i64 (E0j .u64 (wrap .u64 (wrap .i64 (s.2.2.2.2.2.2.1+s.2.2.2.2.2.2.2.1))) 1))+1),s.2.2.2.2.2.2.2.1,s.2.2.2.2.2.2.2.2.1,s.2.2.2.2.2.2.2.2.2.1,()))) (some (.inl (s.1,s.2.1,s.2.2.1,s.2.2.2.1,s.2.2.2.2.1,s.2.2.2.2.2.1,s.2.2.2.2.2.2.1,wrap .i64 (E0j .u64 (wrap .u64 (wrap .i64 (s.2.2.2.2.2.2.1+s.2.2.2.2.2.2.2.1))) 1),s.2.2.2.2.2.2.2.2.1,s.2.2.2.2.2.2.2.2.2.1,())))) none) none) (some (.inr (s.1,s.2.1,s.2.2.1,s.2.2.2.1,s.2.2.2.2.1,s.2.2.2.2.2.1,s.2.2.2.2.2.2.1,s.2.2.2.2.2.2.2.2.2.1,())))
def a0B:Nat→(Z35×Z6)→Option Z35 |0,_=>none |fu+1,x=>cond ((wrap .i64 (x.2.2.1-x.2.1))==(1:Int)) ((y0h a1m (x.2.1,x.2.2.2.2,x.2.2.1,x.2.2.2.1,x.1,())).bind fun w2=>(y0h a1n (w2.2.1,w2.1,w2.2.2.1,())).bind fun w3=>some w3.1) (cond ((wrap .i64 (x.2.2.2.1-x.2.2.1))==(1:Int)) ((y0h a1o (x.2.2.1,x.2.2.2.2,x.2.1,x.2.2.1,x.1,())).bind fun w5=>(y0h a1p (w5.2.1,w5.1,w5.2.2.1,())).bind fun w6=>some w6.1) ((show Option (Int×Int×Int×Unit×Z70)from cond (decide (x.2.2.1 > (wrap .i64 (E0j .u64 (wrap .u64 (wrap .i64 (x.2.1+x.2.2.2.1))) (1:Int))))) (some (x.2.1,x.2.2.1,x.2.2.2.1,x.2.2.2.2,wrap .i64 (E0j .u64 (wrap .u64 (wrap .i64 (x.2.1+x.2.2.2.1))) (1:Int)),wrap .i64 ((wrap .i64 (E0j .u64 (wrap .u64 (wrap .i64 (x.2.1+x.2.2.2.1))) (1:Int)))+x.2.2.1),wrap .i64 ((wrap .i64 ((wrap .i64 (E0j .u64 (wrap .u64 (wrap .i64 (x.2.1+x.2.2.2.1))) (1:Int)))+x.2.2.1))-x.2.2.2.1),wrap .i64 (E0j .u64 (wrap .u64 (wrap .i64 (x.2.1+x.2.2.2.1))) (1:Int)),x.1,())) (some (x.2.1,x.2.2.1,x.2.2.2.1,x.2.2.2.2,wrap .i64 (E0j .u64 (wrap .u64 (wrap .i64 (x.2.1+x.2.2.2.1))) (1:Int)),wrap .i64 ((wrap .i64 (E0j .u64 (wrap .u64 (wrap .i64 (x.2.1+x.2.2.2.1))) (1:Int)))+x.2.2.1),x.2.1,x.2.2.1,x.1,()))).bind fun z7=>(y0h a0U (z7.1,z7.2.1,z7.2.2.1,z7.2.2.2.1,z7.2.2.2.2.1,z7.2.2.2.2.2.1,z7.2.2.2.2.2.2.1,z7.2.2.2.2.2.2.2.1,wrap .i64 (z7.2.2.2.2.2.1-(1:Int)),z7.2.2.2.2.2.2.2.2.1,())).bind fun w9=>(show Option (Int×Z75)from(show Option (Int×Int×Int×Unit×Int×Int×Int×Bool×Z46)from cond (decide (w9.2.2.2.2.2.2.1<w9.2.1)) (some (w9.1,w9.2.1,w9.2.2.1,w9.2.2.2.1,w9.2.2.2.2.1,w9.2.2.2.2.2.2.1,wrap .i64 (w9.2.2.2.2.2.1-w9.2.2.2.2.2.2.1),decide (w9.2.1<(wrap .i64 (w9.2.2.2.2.2.1-w9.2.2.2.2.2.2.1))),w9.2.2.2.2.2.2.2.1,())) (some (w9.1,w9.2.1,w9.2.2.1,w9.2.2.2.1,w9.2.2.2.2.1,w9.2.2.2.2.2.2.1,wrap .i64 (w9.2.2.2.2.2.1-w9.2.2.2.2.2.2.1),false,w9.2.2.2.2.2.2.2.1,()))).bind fun z10=>cond z10.2.2.2.2.2.2.2.1 ((a1v (z10.2.2.2.2.2.2.2.2.1,z10.2.2.2.2.2.1,z10.2.1,z10.2.2.2.2.2.2.1,z10.2.2.2.1)).bind fun y11=>some (z10.1,z10.2.2.1,z10.2.2.2.1,z10.2.2.2.2.1,z10.2.2.2.2.2.1,z10.2.2.2.2.2.2.1,y11,())) (some (z10.1,z10.2.2.1,z10.2.2.2.1,z10.2.2.2.2.1,z10.2.2.2.2.2.1,z10.2.2.2.2.2.2.1,z10.2.2.2.2.2.2.2.2.1,()))).bind fun z12=>(show Option Z71 from(show Option (Int×Int×Unit×Int×Int×Int×Bool×Z46)from cond (decide (z12.1<z12.2.2.2.2.1)) (some (z12.1,z12.2.1,z12.2.2.1,z12.2.2.2.1,z12.2.2.2.2.1,z12.2.2.2.2.2.1,decide (z12.2.2.2.2.1<z12.2.2.2.1),z12.2.2.2.2.2.2.1,())) (some (z12.1,z12.2.1,z12.2.2.1,z12.2.2.2.1,z12.2.2.2.2.1,z12.2.2.2.2.2.1,false,z12.2.2.2.2.2.2.1,()))).bind fun z13=>cond z13.2.2.2.2.2.2.1 ((a0B fu (z13.2.2.2.2.2.2.2.1,z13.1,z13.2.2.2.2.1,z13.2.2.2.1,z13.2.2.1)).bind fun y14=>some (z13.2.1,z13.2.2.1,z13.2.2.2.1,z13.2.2.2.2.2.1,y14,())) (some (z13.2.1,z13.2.2.1,z13.2.2.2.1,z13.2.2.2.2.2.1,z13.2.2.2.2.2.2.2.1,()))).bind fun z15=>(show Option (Int×Unit×Int×Int×Bool×Z46)from cond (decide (z15.2.2.1<z15.2.2.2.1)) (some (z15.1,z15.2.1,z15.2.2.1,z15.2.2.2.1,decide (z15.2.2.2.1<z15.1),z15.2.2.2.2.1,())) (some (z15.1,z15.2.1,z15.2.2.1,z15.2.2.2.1,false,z15.2.2.2.2.1,()))).bind fun z16=>cond z16.2.2.2.2.1 ((a0B fu (z16.2.2.2.2.2.1,z16.2.2.1,z16.2.2.2.1,z16.1,z16.2.1)).bind fun y17=>some y17) (some z16.2.2.2.2.2.1)))
def a1c(fu:Nat):FSem:=⟨[.r false (.o Q17),.v QI,.v QI,.v QI,.v (.fn 60)],[],a0B fu⟩
def b7z:Hints:=⟨[(172,[1,.sv 4 (.fn 60),10,11,.own 0 pinned Q17],[Qe 0 [1,10,.own 0 pinned Q17]]),(428,[2,.sv 4 (.fn 60),14,15,.own 0 pinned Q17],[Qe 4 [2,14,.own 0 pinned Q17]]),(698,[10,13,.own 0 pinned Q17],[Qe 2 [.own 0 pinned Q17]]),(1020,[1,2,3,.sv 4 (.fn 60),18,19,20,21,22,.own 0 pinned Q17],[Qe 8 [1,2,3,.sv 4 (.fn 60),18,19,20,.own 0 pinned Q17]]),(1722,[14,17,.own 0 pinned Q17],[Qe 6 [.own 0 pinned Q17]])],[(63,[Qn [1,2,3,.sv 4 (.fn 60),18,19,20,21,.own 0 pinned Q17]]),(1023,[Qn [1,3,.sv 4 (.fn 60),18,20,24,.own 0 pinned Q17]]),(2046,[Qn [1,2,3,.sv 4 (.fn 60),18,20,24,.sv 185 .bool,.own 0 pinned Q17]]),(2047,[Qn [3,.sv 4 (.fn 60),18,24,.own 0 pinned Q17]]),(4094,[Qn [1,3,.sv 4 (.fn 60),18,20,24,.sv 199 .bool,.own 0 pinned Q17]]),(4095,[Qn [3,.sv 4 (.fn 60),18,24,.sv 213 .bool,.own 0 pinned Q17]])],[(5,[.v,.q,.v,.q,.q,.q,.v,.q,.q,.x,.x]),(11,[.q,.v,.h,.v,.v,.q,.v,.v,.q,.q,.q,.v,.q,.q,.q,.k [0,pinned],.x,.x]),(17,[.v,.q,.v,.q,.q,.q,.v,.q,.q,.x,.x,.x]),(23,[.q,.v,.h,.v,.v,.q,.v,.v,.q,.q,.q,.v,.q,.q,.q,.k [0,pinned],.x,.x]),(35,[.v,.q,.v,.v,.v,.q,.q,.q,.v,.q,.q,.x,.x,.x])]⟩
def b5t(fu:Nat):Cx:=b4K [(60,a7t),(123,a1c fu),(128,a2H)] [] 33553439 0
theorem b6L(h:Nat)(x):E0e (b5t h) b7z Tryz.f123 (a1c (h+1)).ps (a1c (h+1)).rs x=(a1c (h+1)).F x:=by kernel_rfl
def a0Z(s:Z75):Option (Z75 ⊕ Z71):=cond (decide (s.2.2.2.2.1≤s.1)) ((a0M (s.2.2.2.2.2.1,s.2.2.2.1,s.2.2.2.2.1,s.2.1)).bind fun y1=>some (.inl (s.1,s.2.1,s.2.2.1,s.2.2.2.2.1,wrap .i64 (s.2.2.2.2.1+s.2.2.1),y1,()))) (some (.inr (s.1,s.2.1,s.2.2.1,s.2.2.2.1,s.2.2.2.2.2.1,())))
def a2l(s:Z75):Option (Z75 ⊕ Z71):=cond (decide (s.2.2.2.2.1≤s.1)) ((a0B 64 (s.2.2.2.2.2.1,s.2.2.2.1,wrap .i64 (s.2.2.2.1+s.2.2.1),s.2.2.2.2.1,s.2.1)).bind fun y5=>some (.inl (s.1,s.2.1,s.2.2.1,s.2.2.2.2.1,wrap .i64 (s.2.2.2.2.1+(wrap .i64 (2*s.2.2.1))),y5,()))) (some (.inr (s.1,s.2.1,s.2.2.1,s.2.2.2.1,s.2.2.2.2.2.1,())))
def a0Q(s:Z67):Option (Z67 ⊕ Z46):=cond (decide (s.2.2.1<s.1)) ((y0h a2l (s.1,s.2.1,s.2.2.1,0,wrap .i64 (2*s.2.2.1),s.2.2.2.1,())).bind fun w6=>cond (decide ((wrap .i64 (w6.2.2.2.1+w6.2.2.1))<w6.1)) ((a0B 64 (w6.2.2.2.2.1,w6.2.2.2.1,wrap .i64 (w6.2.2.2.1+w6.2.2.1),w6.1,w6.2.1)).bind fun y7=>some (.inl (w6.1,w6.2.1,wrap .i64 (w6.2.2.1*2),y7,()))) (some (.inl (w6.1,w6.2.1,wrap .i64 (w6.2.2.1*2),w6.2.2.2.2.1,())))) (some (.inr (s.2.2.2.1,())))
def a1w(x:(Z35×Int×Unit)):Option Z35:=(y0h a0Z (x.2.1,x.2.2,20,0,20,x.1,())).bind fun w2=>(a0M (w2.2.2.2.2.1,w2.2.2.2.1,w2.1,w2.2.1)).bind fun y3=>(y0h a0Q (w2.1,w2.2.1,w2.2.2.1,y3,())).bind fun w8=>some w8.1
def a4T:FSem:=⟨[.r false (.o Q17),.v QI,.v (.fn 60)],[],a1w⟩
def H95:Hints:=⟨[(28,[1,.sv 2 (.fn 60),6,7,8,.own 0 pinned Q17],[Qe 0 [1,.sv 2 (.fn 60),6,7,.own 0 pinned Q17]]),(62,[1,.sv 2 (.fn 60),6,.own 0 pinned Q17],[Qe 2 [.own 0 pinned Q17]]),(3988,[1,.sv 2 (.fn 60),6,7,8,.own 0 pinned Q17],[Qe 4 [1,.sv 2 (.fn 60),6,7,.own 0 pinned Q17]])],[],[]⟩
def a0S(x:Z46):Option Z35:=(a1w (x.1,(x.1.length:Int),x.2)).bind fun y1=>some y1
def a2T:FSem:=⟨[.r false (.o Q17),.v (.fn 60)],[],a0S⟩
def a3C(s:(Z44×Int×Z44×Int×Int×Z35×Int×Int×Unit)):Option ((Z44×Int×Z44×Int×Int×Z35×Int×Int×Unit) ⊕ ((Z44×Z44×Int×Int×Unit) ⊕ Z51)):=cond (decide (s.2.2.2.2.2.2.2.1<s.2.2.2.2.2.2.1)) ((n0s s.2.2.2.2.2.1 s.2.2.2.2.2.2.2.1).bind fun x3=>(a5h x3).bind fun y4=>(show Option (Z44×Int×Z44×Int×Int×Z35×Z7)from cond (y4.2 != 0) (some (s.1,s.2.1,s.2.2.1,s.2.2.2.1,s.2.2.2.2.1,s.2.2.2.2.2.1,s.2.2.2.2.2.2.1,s.2.2.2.2.2.2.2.1,true,())) (some (s.1,s.2.1,s.2.2.1,s.2.2.2.1,s.2.2.2.2.1,s.2.2.2.2.2.1,s.2.2.2.2.2.2.1,s.2.2.2.2.2.2.2.1,x3.1 != s.2.1,()))).bind fun z5=>cond z5.2.2.2.2.2.2.2.2.1 (some (.inr (Sum.inr ((1,[],()))))) (some (.inl (z5.1,z5.2.1,z5.2.2.1,z5.2.2.2.1,z5.2.2.2.2.1,z5.2.2.2.2.2.1,z5.2.2.2.2.2.2.1,wrap .i64 (z5.2.2.2.2.2.2.2.1+1),())))) (some (.inr (Sum.inl (s.1,s.2.2.1,s.2.2.2.1,s.2.2.2.2.1,()))))
def a4A(s:(Z44×Z44×Int×Int×Unit)):Option ((Z44×Z44×Int×Int×Unit) ⊕ ((Z44×Unit) ⊕ Z51)):=cond (decide (s.2.2.2.1<s.2.2.1)) ((n0s s.2.1 s.2.2.2.1).bind fun x2=>(y0h a3C (s.1,s.2.2.2.1,s.2.1,s.2.2.1,s.2.2.2.1,x2,(x2.length:Int),0,())).bind fun w6=>match w6 with |.inl a7=>some (.inl (a7.1,a7.2.1,a7.2.2.1,wrap .i64 (a7.2.2.2.1+1),())) |.inr b8=>some (.inr (Sum.inr ((b8.1,b8.2.1,()))))) (some (.inr (Sum.inl (s.1,()))))
def a3D(s:(Z35×Z44×Int×Int×Z35×Z55)):Option ((Z35×Z44×Int×Int×Z35×Z55) ⊕ ((Z44×Z55) ⊕ Z51)):=cond (decide (s.2.2.2.2.2.2.1<s.2.2.2.2.2.1)) ((n0s s.2.2.2.2.1 s.2.2.2.2.2.2.1).bind fun x13=>(show Option (Z35×Z44×Int×Int×Z35×Int×Int×Bool×Z35×Z39)from cond (decide (s.2.2.2.2.2.2.1 > 0)) ((n0s s.1 (wrap .i64 (s.2.2.2.2.2.2.1-1))).bind fun x14=>some (s.1,s.2.1,s.2.2.1,s.2.2.2.1,s.2.2.2.2.1,s.2.2.2.2.2.1,s.2.2.2.2.2.2.1,decide (x13.2.1<x14.2.1),s.2.2.2.2.2.2.2.1,x13,())) (some (s.1,s.2.1,s.2.2.1,s.2.2.2.1,s.2.2.2.2.1,s.2.2.2.2.2.1,s.2.2.2.2.2.2.1,false,s.2.2.2.2.2.2.2.1,x13,()))).bind fun z15=>cond z15.2.2.2.2.2.2.2.1 (some (.inr (Sum.inr ((12,[],()))))) ((a5a z15.2.2.2.2.2.2.2.2.2.1).bind fun y16=>cond (lim ((a00 z15.2.2.2.2.2.2.2.2.1)+1)) (some (.inl (z15.1,z15.2.1,z15.2.2.1,z15.2.2.2.1,z15.2.2.2.2.1,z15.2.2.2.2.2.1,wrap .i64 (z15.2.2.2.2.2.2.1+1),a02 z15.2.2.2.2.2.2.2.2.1 ([y16]:List Z31),()))) none)) (some (.inr (Sum.inl (s.2.1,s.2.2.1,s.2.2.2.1,s.2.2.2.2.2.2.2.1,()))))
def a4B(s:(Z44×Z55)):Option ((Z44×Z55) ⊕ (Z46 ⊕ Z51)):=cond (decide (s.2.2.1<s.2.1)) ((n0s s.1 s.2.2.1).bind fun x12=>(y0h a3D (x12,s.1,s.2.1,s.2.2.1,x12,(x12.length:Int),0,s.2.2.2.1,())).bind fun w17=>match w17 with |.inl a18=>some (.inl (a18.1,a18.2.1,wrap .i64 (a18.2.2.1+1),a18.2.2.2.1,())) |.inr b19=>some (.inr (Sum.inr ((b19.1,b19.2.1,()))))) (some (.inr (Sum.inl (s.2.2.2.1,()))))
def a3t(x:Z44):Option Z45:=(show Option (Z44×Bool×Unit)from cond (decide ((x.length:Int)<1)) (some (x,true,())) (some (x,decide ((x.length:Int) > 4),()))).bind fun z1=>cond z1.2.1 (some ([],1)) ((y0h a4A (z1.1,z1.1,(z1.1.length:Int),0,())).bind fun w9=>match w9 with |.inl a10=>((y0h a4B (a10.1,(a10.1.length:Int),0,[],())).bind fun w20=>match w20 with |.inl a21=>((a0S (a21.1,())).bind fun y23=>some (y23,0)) |.inr b22=>some (b22.2.1,b22.1)) |.inr b11=>some (b11.2.1,b11.1))
def b2c:FSem:=⟨[.v (.list false (.list false Q17))],[.o Q17,.v QI],a3t⟩
def H17:Hints:=⟨[(58,[.sv 0 (.list false (.list false Q17)),.sv 23 (.list false (.list false Q17)),24,25],[Qe 0 [.sv 0 (.list false (.list false Q17))],Qr [3,.own 2 2 Q17]]),(250,[.sv 51 (.list false (.list false Q17)),52,53,.own 10 10 Q17],[Qe 4 [.own 10 10 Q17],Qr [3,.own 2 2 Q17]]),(14950,[.sv 0 (.list false (.list false Q17)),4,.sv 23 (.list false (.list false Q17)),24,25,.sv 30 (.list false Q17),31,32],[Qe 2 [.sv 0 (.list false (.list false Q17)),.sv 23 (.list false (.list false Q17)),24,25],Qr [3,.own 2 2 Q17]]),(64102,[.sv 12 (.list false Q17),.sv 51 (.list false (.list false Q17)),52,53,.sv 57 (.list false Q17),58,59,.own 10 10 Q17],[Qe 6 [.sv 51 (.list false (.list false Q17)),52,53,.own 10 10 Q17],Qr [3,.own 2 2 Q17]])],[(6,[Qn [.sv 0 (.list false (.list false Q17)),.sv 22 .bool]]),(1913651,[Qn [.sv 0 (.list false (.list false Q17)),4,.sv 23 (.list false (.list false Q17)),24,25,.sv 30 (.list false Q17),31,32,.sv 48 .bool]]),(8205106,[Qn [.sv 12 (.list false Q17),.sv 51 (.list false (.list false Q17)),52,53,.sv 57 (.list false Q17),58,59,.sv 76 .bool,.own 10 10 Q17,.box 14 Q17,Qp 14 14]])],[(21,[.x,.x,.x,.q,.q,.v,.v,.v,.v,.v,.v,.x,.x])]⟩
def a4h(s:(Int×Z35×Int×Int×Z1)):Option ((Int×Z35×Int×Int×Z1) ⊕ ((Int×Z1) ⊕ Z48)):=cond (decide (s.2.2.2.1<s.2.2.1)) ((n0s s.2.1 s.2.2.2.1).bind fun x2=>(a5h x2).bind fun y3=>cond (y3.2 != 0) (some (.inr (Sum.inr ((y3.2,[],()))))) (cond ((decide (0≤s.2.2.2.1))&&(decide (s.2.2.2.1<(s.2.2.2.2.1.length:Int)))) (some (.inl (s.1,s.2.1,s.2.2.1,wrap .i64 (s.2.2.2.1+1),a06 s.2.2.2.2.1 (a01 s.2.2.2.1) y3.1,()))) none)) (some (.inr (Sum.inl (s.1,s.2.2.2.2.1,()))))
def a4i(s:(Int×(LI×Z74))):Option ((Int×(LI×Z74)) ⊕ (Z74 ⊕ Z48)):=cond (decide (s.2.2.1<(s.2.1.length:Int))) (cond (decide ((wrap .i64 (s.1+(s.2.2.2.2.2.1.length:Int))) > 2147483647)) (some (.inr (Sum.inr ((4,[],()))))) (cond ((decide (0≤(y0e (wrap .i64 (s.2.2.1+252)) (s.2.1.length:Int))))&&(decide ((y0e (wrap .i64 (s.2.2.1+252)) (s.2.1.length:Int))≤(s.2.1.length:Int)))) (cond ((decide (0≤s.2.2.1))&&(decide (s.2.2.1≤((a01 (y0e (wrap .i64 (s.2.2.1+252)) (s.2.1.length:Int)):Nat):Int)))) ((a2D (a05 (a01 s.2.2.1) (a03 (a01 (y0e (wrap .i64 (s.2.2.1+252)) (s.2.1.length:Int))) s.2.1))).bind fun y7=>cond (lim ((a00 s.2.2.2.2.2.1)+1)) (some (.inl (s.1,s.2.1,wrap .i64 (s.2.2.1+252),s.2.2.2.1,s.2.2.2.2.1,a02 s.2.2.2.2.2.1 ([(wrap .i64 (s.1+(s.2.2.2.2.2.1.length:Int)),s.2.2.1==0,(y0e (wrap .i64 (s.2.2.1+252)) (s.2.1.length:Int))==(s.2.1.length:Int),false,y7,())]:List Z30),s.2.2.2.2.2.2.1,()))) none) none) none)) (some (.inr (Sum.inl (s.1,s.2.2.2.1,s.2.2.2.2.1,s.2.2.2.2.2.1,s.2.2.2.2.2.2.1,()))))
def a3k(s:Z74):Option (Z74 ⊕ (Z40 ⊕ Z48)):=cond (decide (s.2.2.1<s.2.1)) (cond ((decide (0≤s.2.2.1))&&(decide (s.2.2.1<(s.2.2.2.2.1.length:Int)))) ((y0h a4i (s.1,a04 s.2.2.2.2.1 (a01 s.2.2.1) [],0,s.2.1,s.2.2.1,s.2.2.2.1,s.2.2.2.2.1,())).bind fun w8=>match w8 with |.inl a9=>some (.inl (a9.1,a9.2.1,wrap .i64 (a9.2.2.1+1),a9.2.2.2.1,a9.2.2.2.2.1,())) |.inr b10=>some (.inr (Sum.inr ((b10.1,b10.2.1,()))))) none) (some (.inr (Sum.inl (s.2.2.2.1,()))))
def a3E(x:Z45):Option Z37:=(show Option Z58 from cond (decide (x.2<0)) (some (x.1,x.2,true,())) (some (x.1,x.2,decide (x.2 > 2147483647),()))).bind fun z1=>cond z1.2.2.1 (some ([],1)) (cond ((decide (0≤(z1.1.length:Int)))&&((decide ((z1.1.length:Int)≤(z1.1.length:Int)))&&(lim (a01 (z1.1.length:Int))))) ((y0h a4h (z1.2.1,z1.1,(z1.1.length:Int),0,a13 (a01 (z1.1.length:Int)) [],())).bind fun w4=>match w4 with |.inl a5=>((y0h a3k (a5.1,(a5.2.1.length:Int),0,[],a5.2.1,())).bind fun w11=>match w11 with |.inl a12=>some (a12.1,0) |.inr b13=>some (b13.2.1,b13.1)) |.inr b6=>some (b6.2.1,b6.1)) none)
def b0O:FSem:=⟨[.v (.list false Q17),.v QI],[.o Q15,.v QI],a3E⟩
def H18:Hints:=⟨[(122,[1,.sv 26 (.list false Q17),27,28,.own 6 6 QB],[Qe 0 [1,.own 6 6 QB],Qr [5,.own 4 4 Q15]]),(506,[1,47,48,.own 11 11 Q15,.own 46 6 QB],[Qe 2 [.own 11 11 Q15],Qr [5,.own 4 4 Q15]]),(129638,[1,.sv 13 QB,14,47,48,.own 11 11 Q15,.own 46 6 QB],[Qe 4 [1,47,48,.own 11 11 Q15,.own 46 6 QB],Qr [5,.own 4 4 Q15]])],[(6,[Qn [.sv 0 (.list false Q17),1,.sv 22 .bool]])],[]⟩
def a0X(s:(Int×Z21)):Option ((Int×Z21) ⊕ Z20):=cond (decide (s.2.2.2.2.1<8)) (cond ((bits .u32 .and s.1 1)==1) (some (.inl (bits .u32 .xor (E0j .u32 s.1 1) 3988292384,s.2.1,s.2.2.1,s.2.2.2.1,wrap .i64 (s.2.2.2.2.1+1),()))) (some (.inl (E0j .u32 s.1 1,s.2.1,s.2.2.1,s.2.2.2.1,wrap .i64 (s.2.2.2.2.1+1),())))) (some (.inr (s.1,s.2.1,s.2.2.1,s.2.2.2.1,())))
def a1G(s:Z20):Option (Z20 ⊕ (Int×Unit)):=cond (decide (s.2.2.2.1<s.2.2.1)) ((n0s s.2.1 s.2.2.2.1).bind fun x1=>(y0h a0X (bits .u32 .xor s.1 (wrap .u32 x1),s.2.1,s.2.2.1,s.2.2.2.1,0,())).bind fun w2=>some (.inl (w2.1,w2.2.1,w2.2.2.1,wrap .i64 (w2.2.2.2.1+1),()))) (some (.inr (s.1,())))
def a0Y(x:LI):Option Int:=(y0h a1G (4294967295,x,(x.length:Int),0,())).bind fun w3=>some (bits .u32 .xor (IntKind.max .u32) w3.1)
def a8p:FSem:=⟨[.v QB],[.v (.int .u32)],a0Y⟩
def H54:Hints:=⟨[(58,[.sv 3 (.int .u32),.sv 7 QB,8,9],[Qe 0 [.sv 3 (.int .u32)]]),(29902,[.sv 3 (.int .u32),.sv 7 QB,8,9,17],[Qe 2 [.sv 3 (.int .u32),.sv 7 QB,8,9]])],[],[]⟩
def a1Y(x:Bool):Option Int:=cond x (some 255) (some 252)
def a8E:FSem:=⟨[.v .bool],[.v QI],a1Y⟩
def a2U(x:Z30):Option (LI×Int):=(show Option Z43 from cond (decide (x.1<0)) (some (true,x,())) (cond (decide (x.1 > 2147483647)) (some (true,x,())) (cond (decide ((x.2.2.2.2.1.length:Int)<1)) (some (true,x,())) ((a1Y x.2.2.2.1).bind fun y1=>some (decide ((x.2.2.2.2.1.length:Int) > y1),x,()))))).bind fun z2=>cond z2.1 (some ([],1)) ((a1P (z2.2.1.2.1,1)).bind fun y3=>(a1P (z2.2.1.2.2.1,2)).bind fun y4=>(a1P (z2.2.1.2.2.2.1,4)).bind fun y5=>(a1V (wrap .u64 z2.2.1.1,4)).bind fun y6=>cond (lim (3+(a00 y6))) (cond (lim ((a00 (a02 [75,80,bits .u8 .or (bits .u8 .or y3 y4) y5] y6))+1)) (cond (lim ((a00 (a02 (a02 [75,80,bits .u8 .or (bits .u8 .or y3 y4) y5] y6) ([wrap .u8 (z2.2.1.2.2.2.2.1.length:Int)]:List Int)))+(a00 z2.2.1.2.2.2.2.1))) ((a0Y (a02 (a02 (a02 [75,80,bits .u8 .or (bits .u8 .or y3 y4) y5] y6) ([wrap .u8 (z2.2.1.2.2.2.2.1.length:Int)]:List Int)) z2.2.1.2.2.2.2.1)).bind fun y7=>(a1V (wrap .u64 y7,4)).bind fun y8=>cond (lim ((a00 (a02 (a02 (a02 [75,80,bits .u8 .or (bits .u8 .or y3 y4) y5] y6) ([wrap .u8 (z2.2.1.2.2.2.2.1.length:Int)]:List Int)) z2.2.1.2.2.2.2.1))+(a00 y8))) (some (a02 (a02 (a02 (a02 [75,80,bits .u8 .or (bits .u8 .or y3 y4) y5] y6) ([wrap .u8 (z2.2.1.2.2.2.2.1.length:Int)]:List Int)) z2.2.1.2.2.2.2.1) y8,0)) none) none) none) none)
def b0P:FSem:=⟨[.v Q15],[.o QV,.v QI],a2U⟩
def H68:Hints:=⟨[],[(6,[Qn [.sv 28 .bool,.vp 1 Q15]])],[(1,[.x,.x,.x,.x,.x,.x,.x,.x,.x,.x,.x,.x,.x,.x,.x,.v,.v,.v,.v,.v,.v,.x,.x]),(3,[.v,.v,.v,.v,.v,.v,.v,.v,.v,.v,.x,.x])]⟩
def a2x(x:Z30):Option Bool:=(a2U x).bind fun y1=>some (y1.2==0)
def a4j:FSem:=⟨[.v Q15],[.v .bool],a2x⟩
def a3d(x:Z30):Option Z30:=cond (lim (a00 x.2.2.2.2.1)) (some (x.1,x.2.1,x.2.2.1,x.2.2.2.1,x.2.2.2.2.1,x.2.2.2.2.2)) none
def a5b:FSem:=⟨[.v Q15],[.v Q15],a3d⟩
def a3F(x:Z30):Option Int:=(show Option Z42 from cond x.2.1 (some (bits .u8 .or 0 1,x,())) (some (0,x,()))).bind fun z1=>(show Option (Int×Unit)from cond z1.2.1.2.2.1 (some (bits .u8 .or z1.1 2,())) (some (z1.1,()))).bind fun z2=>some z2.1
def b0Q:FSem:=⟨[.v Q15],[.v QV],a3F⟩
def H98:Hints:=⟨[],[(7,[Qn [.sv 3 QV,.vp 1 Q15]]),(15,[Qn [.sv 3 QV]])],[]⟩
def a2y(s:Z8):Option (Z8 ⊕ Z8):=cond (decide ((s.2.1.length:Int)<(s.1.length:Int))) (cond (lim ((a00 s.2.1)+1)) (some (.inl (s.1,a02 s.2.1 [0],()))) none) (some (.inr (s.1,s.2.1,())))
def a2z(s:Z27):Option (Z27 ⊕ (LI×Unit)):=cond (decide (s.2.2.1<s.2.1)) ((n0s s.1 s.2.2.1).bind fun x2=>cond ((decide (0≤s.2.2.1))&&(decide (s.2.2.1<(s.2.2.2.1.length:Int)))) (cond ((decide (0≤s.2.2.1))&&(decide (s.2.2.1<(s.2.2.2.1.length:Int)))) (some (.inl (s.1,s.2.1,wrap .i64 (s.2.2.1+1),a06 s.2.2.2.1 (a01 s.2.2.1) (bits .u8 .xor (a04 s.2.2.2.1 (a01 s.2.2.1) 0) x2),()))) none) none) (some (.inr (s.2.2.2.1,())))
def a2V(x:(LI×LI)):Option (LI×LI):=(y0h a2y (x.2,x.1,())).bind fun w1=>(y0h a2z (w1.1,(w1.1.length:Int),0,w1.2.1,())).bind fun w3=>some (w3.1,[])
def b0R:FSem:=⟨[.r true (.o QV),.v QB],[.o QV],a2V⟩
def H99:Hints:=⟨[(12,[.sv 1 QB,.own 0 0 QV],[Qe 0 [.sv 1 QB,.own 0 0 QV]]),(58,[.sv 15 QB,16,17,.own 0 0 QV],[Qe 2 [.own 0 0 QV]])],[],[]⟩
def a1Z(s:(Z32×Z86)):Option ((Z32×Z86) ⊕ Z83):=cond (decide (s.2.2.2.2.2.1<s.2.2.2.2.1)) ((n0s s.2.2.2.1 s.2.2.2.2.2.1).bind fun x1=>(a3F x1).bind fun y2=>(a2V (s.2.2.2.2.2.2.1,x1.2.2.2.2.1)).bind fun y3=>some (.inl (s.1,bits .u8 .xor s.2.1 y2,bits .u8 .xor s.2.2.1 (wrap .u8 (x1.2.2.2.2.1.length:Int)),s.2.2.2.1,s.2.2.2.2.1,wrap .i64 (s.2.2.2.2.2.1+1),y3.1,s.2.2.2.2.2.2.2.1,()))) (some (.inr (s.1,s.2.1,s.2.2.1,s.2.2.2.2.2.2.1,s.2.2.2.2.2.2.2.1,())))
def a2n(x:Z32):Option Z30:=(y0h a1Z (x,0,0,x,(x.length:Int),0,[],(0,false,false,false,[],()),())).bind fun w4=>cond (lim (3+(a00 w4.2.2.2.1))) ((n0s w4.1 0).bind fun x5=>some (x5.1,false,false,true,a02 ([wrap .u8 (w4.1.length:Int),w4.2.1,w4.2.2.1]:List Int) w4.2.2.2.1,())) none
def b0S:FSem:=⟨[.v (.list false Q15)],[.v Q15],a2n⟩
def H67:Hints:=⟨[(122,[.sv 0 (.list false Q15),.sv 3 QV,.sv 4 QV,.sv 9 (.list false Q15),10,11,.own 5 5 QV,.box 2 Q15,Qp 2 2],[Qe 0 [.sv 0 (.list false Q15),.sv 3 QV,.sv 4 QV,.own 5 5 QV,.box 2 Q15,Qp 2 2]])],[],[]⟩
def a3l(s:(Z32×Z32×Int×Int×Unit)):Option ((Z32×Z32×Int×Int×Unit) ⊕ (Z40 ⊕ Z48)):=cond (decide (s.2.2.2.1<s.2.2.1)) ((n0s s.2.1 s.2.2.2.1).bind fun x1=>(show Option (Z32×Int×Z32×Int×Int×Z43)from(a2x x1).bind fun y2=>cond (!y2) (some (s.1,s.2.2.2.1,s.2.1,s.2.2.1,s.2.2.2.1,true,x1,())) (some (s.1,s.2.2.2.1,s.2.1,s.2.2.1,s.2.2.2.1,x1.2.2.2.1,x1,()))).bind fun z3=>cond z3.2.2.2.2.2.1 (some (.inr (Sum.inr ((1,[],()))))) ((show Option (Z32×Z32×Z7)from cond (decide (z3.2.1 > 0)) ((n0s z3.1 (wrap .i64 (z3.2.1-1))).bind fun x4=>some (z3.1,z3.2.2.1,z3.2.2.2.1,z3.2.2.2.2.1,z3.2.2.2.2.2.2.1.1 != (wrap .i64 (x4.1+1)),())) (some (z3.1,z3.2.2.1,z3.2.2.2.1,z3.2.2.2.2.1,false,()))).bind fun z5=>cond z5.2.2.2.2.1 (some (.inr (Sum.inr ((1,[],()))))) (some (.inl (z5.1,z5.2.1,z5.2.2.1,wrap .i64 (z5.2.2.2.1+1),()))))) (some (.inr (Sum.inl (s.1,()))))
def a3m(s:(Z32×Int×Z32×Z32×Z53)):Option ((Z32×Int×Z32×Z32×Z53) ⊕ (Z32×Z79)):=cond (decide (s.2.2.2.2.2.1<s.2.2.2.2.1)) ((n0s s.2.2.2.1 s.2.2.2.2.2.1).bind fun x9=>(a3d x9).bind fun y10=>cond (lim ((a00 s.2.2.2.2.2.2.1)+1)) (some (.inl (s.1,s.2.1,s.2.2.1,s.2.2.2.1,s.2.2.2.2.1,wrap .i64 (s.2.2.2.2.2.1+1),a02 s.2.2.2.2.2.2.1 ([y10]:List Z30),()))) none) (some (.inr (s.1,s.2.1,s.2.2.1,s.2.2.2.2.2.2.1,())))
def a5i(s:Z80):Option (Z80 ⊕ Z40):=cond (decide (s.2.1<(s.1.length:Int))) (cond ((decide (0≤(y0e (wrap .i64 (s.2.1+8)) (s.1.length:Int))))&&(decide ((y0e (wrap .i64 (s.2.1+8)) (s.1.length:Int))≤(s.1.length:Int)))) (cond ((decide (0≤s.2.1))&&(decide (s.2.1≤((a01 (y0e (wrap .i64 (s.2.1+8)) (s.1.length:Int)):Nat):Int)))) ((y0h a3m (s.1,s.2.1,a05 (a01 s.2.1) (a03 (a01 (y0e (wrap .i64 (s.2.1+8)) (s.1.length:Int))) s.1),a05 (a01 s.2.1) (a03 (a01 (y0e (wrap .i64 (s.2.1+8)) (s.1.length:Int))) s.1),((a00 (a05 (a01 s.2.1) (a03 (a01 (y0e (wrap .i64 (s.2.1+8)) (s.1.length:Int))) s.1)):Nat):Int),0,s.2.2.1,())).bind fun w11=>(a2n w11.2.2.1).bind fun y12=>cond (lim ((a00 w11.2.2.2.1)+1)) (some (.inl (w11.1,wrap .i64 (w11.2.1+8),a02 w11.2.2.2.1 ([y12]:List Z30),()))) none) none) none) (some (.inr (s.2.2.1,())))
def a3G(x:Z32):Option Z37:=(y0h a3l (x,x,(x.length:Int),0,())).bind fun w6=>match w6 with |.inl a7=>((y0h a5i (a7.1,0,[],())).bind fun w13=>some (w13.1,0)) |.inr b8=>some (b8.2.1,b8.1)
def b0T:FSem:=⟨[.v (.list false Q15)],[.o Q15,.v QI],a3G⟩
def H19:Hints:=⟨[(26,[.sv 0 (.list false Q15),.sv 11 (.list false Q15),12,13],[Qe 0 [.sv 0 (.list false Q15)],Qr [3,.own 2 2 Q15]]),(122,[.sv 0 (.list false Q15),7,.own 6 6 Q15],[Qe 2 [.own 6 6 Q15]]),(31306,[.sv 0 (.list false Q15),7,.sv 8 (.list false Q15),.sv 54 (.list false Q15),55,56,.own 6 6 Q15],[Qe 4 [.sv 0 (.list false Q15),7,.sv 8 (.list false Q15),.own 6 6 Q15]])],[(3378,[Qn [.sv 0 (.list false Q15),4,.sv 11 (.list false Q15),12,13,.sv 24 .bool,.box 5 Q15,Qp 5 5]]),(3379,[Qn [.sv 0 (.list false Q15),.sv 11 (.list false Q15),12,13,.sv 38 .bool]])],[(6,[.x,.x,.x,.q,.q,.v,.v,.v,.v,.v,.v,.v,.x,.x])]⟩
def a4k(s:Z62):Option (Z62 ⊕ ((LI×Unit) ⊕ Z3)):=cond (decide (s.2.2.1<s.2.1)) ((n0s s.1 s.2.2.1).bind fun x1=>(a2U x1).bind fun y2=>cond (y2.2 != 0) (some (.inr (Sum.inr ((y2.2,[],()))))) (cond (lim ((a00 s.2.2.2.1)+(a00 y2.1))) (some (.inl (s.1,s.2.1,wrap .i64 (s.2.2.1+1),a02 s.2.2.2.1 y2.1,()))) none)) (some (.inr (Sum.inl (s.2.2.2.1,()))))
def a3H(x:Z32):Option (LI×Int):=(y0h a4k (x,(x.length:Int),0,[],())).bind fun w3=>match w3 with |.inl a4=>some (a4.1,0) |.inr b5=>some (b5.2.1,b5.1)
def b0U:FSem:=⟨[.v (.list false Q15)],[.o QV,.v QI],a3H⟩
def H20:Hints:=⟨[(58,[.sv 9 (.list false Q15),10,11,.own 4 4 QV],[Qe 0 [.own 4 4 QV],Qr [3,.own 2 2 QV]])],[],[]⟩
def a6b(x:(Int×Int×Unit)):Option Bool:=cond (decide (x.1≥1)) (cond (decide (x.1≤1048576)) (cond (decide (x.2.1≥1)) (some (decide (x.2.1≤1048576))) (some false)) (some false)) (some false)
def b3e:FSem:=⟨[.v Q3],[.v .bool],a6b⟩
def a5W(x:Int):Option Bool:=cond (decide (4≤x)) (some (decide (x≤24))) (some false)
def b0F:FSem:=⟨[.v QI],[.v .bool],a5W⟩
def a5X(x:Z6):Option Bool:=cond (decide (1≤x.1)) (cond (decide (x.1≤1048576)) (cond (decide (1≤x.2.1)) (cond (decide (x.2.1≤8)) ((a5W x.2.2.1).bind fun y1=>some y1) (some false)) (some false)) (some false)) (some false)
def b0G:FSem:=⟨[.v Q7],[.v .bool],a5X⟩
def a3e(x:(Int×Int)):Option Bool:=cond (decide (x.1≥1)) (some (decide (x.1≤x.2))) (some false)
def b0H:FSem:=⟨[.v QI,.v QI],[.v .bool],a3e⟩
def a4C(x:Z65):Option Bool:=(fun(a:Z6)(b c d e:Int)=>(a6b x.2.1).bind fun y1=>cond (!y1) (some false) (cond (x.1==1) ((a5X a).bind fun y2=>cond y2 (cond (b==0) (cond (c==0) (cond (d==0) (some (e==0)) (some false)) (some false)) (some false)) (some false)) (cond (x.1==2) ((a3e (b,64)).bind fun y3=>cond y3 ((a3e (c,64)).bind fun y4=>cond y4 ((a3e (d,16)).bind fun y5=>cond y5 ((a3e (e,4)).bind fun y6=>cond y6 (some (eqT Q7 a ((0: Int),(0: Int),(0: Int),()))) (some false)) (some false)) (some false)) (some false)) (some false)))) x.2.2.1 x.2.2.2.1 x.2.2.2.2.1 x.2.2.2.2.2.1 x.2.2.2.2.2.2.1
def b3f:FSem:=⟨[.v Q21],[.v .bool],a4C⟩
def a3R(x:(Int×Int)):Option Bool:=cond (decide (x.1≥0)) (cond (decide (x.1≤1125899906842624)) (cond (decide (x.2≥0)) (some (decide (x.2≤2147483647))) (some false)) (some false)) (some false)
def a8q:FSem:=⟨[.v QI,.v QI],[.v .bool],a3R⟩
def a4D(s:(Int×Z27)):Option ((Int×Z27) ⊕ (Int×Z27)):=(fun(a b c:Int)(d:LI)=>cond (decide (a≥128)) (cond (lim ((a00 d)+1)) (some (.inl (wrap .u64 (a17 a 128),s.2.1,b,c,a02 d [wrap .u8 ((wrap .u8 (a07 a 128))+128)],()))) none) (some (.inr (a,s.2.1,b,c,d,())))) s.1 s.2.2.1 s.2.2.2.1 s.2.2.2.2.1
def a4E(s:Z27):Option (Z27 ⊕ (LI×Unit)):=cond (decide (s.2.2.1<s.2.1)) ((n0s s.1 s.2.2.1).bind fun x1=>(y0h a4D (x1,s.1,s.2.1,s.2.2.1,s.2.2.2.1,())).bind fun w2=>cond (lim ((a00 w2.2.2.2.2.1)+1)) (some (.inl (w2.2.1,w2.2.2.1,wrap .i64 (w2.2.2.2.1+1),a02 w2.2.2.2.2.1 [wrap .u8 w2.1],()))) none) (some (.inr (s.2.2.2.1,())))
def a1E(x:LI):Option LI:=(y0h a4E (x,(x.length:Int),0,[],())).bind fun w3=>some w3.1
def b2d:FSem:=⟨[.v (.list false QU)],[.o QV],a1E⟩
def H70:Hints:=⟨[(58,[.sv 6 (.list false QU),7,8,.own 3 3 QV],[Qe 0 [.own 3 3 QV]]),(14948,[.sv 5 QU,.sv 6 (.list false QU),7,8,.own 3 3 QV],[Qe 2 [.sv 5 QU,.sv 6 (.list false QU),7,8,.own 3 3 QV]])],[],[]⟩
def a4W(x:Int):Option Int:=cond (decide (x≥0)) (some (wrap .u64 (2*(wrap .u64 x)))) (some (wrap .u64 ((wrap .u64 (2*(wrap .u64 (wrap .i64 (0-(wrap .i64 (x+1)))))))+1)))
def b2e:FSem:=⟨[.v QI],[.v QU],a4W⟩
def a3S(s:(Z12×Z12×Int×Int×Unit)):Option ((Z12×Z12×Int×Int×Unit) ⊕ (Z22 ⊕ Z3)):=cond (decide (s.2.2.2.1<s.2.2.1)) ((n0s s.2.1 s.2.2.2.1).bind fun x1=>(show Option (Z12×Z12×Z7)from cond (decide (x1.1<0)) (some (s.1,s.2.1,s.2.2.1,s.2.2.2.1,true,())) (cond (decide (x1.1≥4)) (some (s.1,s.2.1,s.2.2.1,s.2.2.2.1,true,())) ((a3R (x1.2.1,x1.2.2.1)).bind fun y2=>some (s.1,s.2.1,s.2.2.1,s.2.2.2.1,!y2,())))).bind fun z3=>cond z3.2.2.2.2.1 (some (.inr (Sum.inr ((1,[],()))))) (some (.inl (z3.1,z3.2.1,z3.2.2.1,wrap .i64 (z3.2.2.2.1+1),())))) (some (.inr (Sum.inl (s.1,()))))
def a2W(s:(Int×Int×Z12×Z10)):Option ((Int×Int×Z12×Z10) ⊕ (LI×Unit)):=cond (decide (s.2.2.2.2.1<s.2.2.2.1)) ((n0s s.2.2.1 s.2.2.2.2.1).bind fun x8=>(a4W (wrap .i64 (x8.2.1-s.1))).bind fun y9=>(a4W (wrap .i64 (x8.2.2.1-s.2.1))).bind fun y10=>(a1E [wrap .u64 x8.1,y9,y10]).bind fun y11=>cond (lim ((a00 s.2.2.2.2.2.1)+(a00 y11))) (some (.inl (x8.2.1,x8.2.2.1,s.2.2.1,s.2.2.2.1,wrap .i64 (s.2.2.2.2.1+1),a02 s.2.2.2.2.2.1 y11,()))) none) (some (.inr (s.2.2.2.2.2.1,())))
def a3X(x:Z12):Option (LI×Int):=(y0h a3S (x,x,(x.length:Int),0,())).bind fun w4=>match w4 with |.inl a5=>((a1E ([wrap .u64 (a5.1.length:Int)]:List Int)).bind fun y7=>(y0h a2W (0,0,a5.1,(a5.1.length:Int),0,y7,())).bind fun w12=>(a0Y w12.1).bind fun y13=>(a1V (wrap .u64 y13,4)).bind fun y14=>cond (lim ((a00 w12.1)+(a00 y14))) (some (a02 w12.1 y14,0)) none) |.inr b6=>some (b6.2.1,b6.1)
def b0I:FSem:=⟨[.v (.list false Q7)],[.o QV,.v QI],a3X⟩
def H21:Hints:=⟨[(26,[.sv 0 (.list false Q7),.sv 12 (.list false Q7),13,14],[Qe 0 [.sv 0 (.list false Q7)],Qr [3,.own 2 2 QV]]),(250,[7,8,.sv 40 (.list false Q7),41,42,.own 6 6 QV],[Qe 2 [.own 6 6 QV]])],[(1689,[Qn [.sv 0 (.list false Q7),.sv 12 (.list false Q7),13,14,.sv 33 .bool]])],[(13,[.q,.q,.q,.v,.q,.q,.v,.v,.v,.v,.v,.v,.v,.q,.q,.x,.x])]⟩
def a1F(x:LI):Option Z11:=cond (lim (a00 x)) (some (x,0,0,())) none
def b2f:FSem:=⟨[.v QB],[.b Q10],a1F⟩
def a1N(x:Z11):Option Z20:=some (wrap .i64 ((x.1.length:Int)-x.2.1),x)
def a7u:FSem:=⟨[.r false (.b Q10)],[.v QI],a1N⟩
def H53:Hints:=⟨[],[],[(1,[.p,.p,.q,.q,.v,.p,.p,.q,.q,.x,.x])]⟩
def a2g(x:(Z11×Int)):Option (LI×Z11):=cond (x.1.2.2.1 != 0) (some ([],x.1)) ((a1N x.1).bind fun y1=>cond (decide ((y0d x.2 0) > y1.1)) (some ([],y1.2.1,y1.2.2.1,3,y1.2.2.2.2)) (cond ((decide (0≤(wrap .i64 (y1.2.2.1+(y0d x.2 0)))))&&(decide ((wrap .i64 (y1.2.2.1+(y0d x.2 0)))≤(y1.2.1.length:Int)))) (cond ((decide (0≤y1.2.2.1))&&(decide (y1.2.2.1≤((a01 (wrap .i64 (y1.2.2.1+(y0d x.2 0))):Nat):Int)))) (cond (lim (a00 (a05 (a01 y1.2.2.1) (a03 (a01 (wrap .i64 (y1.2.2.1+(y0d x.2 0)))) y1.2.1)))) (some (a05 (a01 y1.2.2.1) (a03 (a01 (wrap .i64 (y1.2.2.1+(y0d x.2 0)))) y1.2.1),y1.2.1,wrap .i64 (y1.2.2.1+(y0d x.2 0)),y1.2.2.2)) none) none) none))
def a7v:FSem:=⟨[.r false (.b Q10),.v QI],[.o QV],a2g⟩
def H49:Hints:=⟨[],[],[(7,[.p,.p,.q,.q,.p,.p,.q,.q,.p,.p,.q,.q,.v,.v,.x,.x,.x])]⟩
def a2A(s:(Int×(Int×(Int×(LI×Z23))))):Option ((Int×(Int×(Int×(LI×Z23)))) ⊕ (Int×Z23)):=cond (decide (s.2.2.1<s.2.1)) (cond ((decide (0≤s.2.2.1))&&(decide (s.2.2.1<(s.2.2.2.1.length:Int)))) (some (.inl (wrap .u64 ((wrap .u64 (s.1*256))+(wrap .u64 (a04 s.2.2.2.1 (a01 s.2.2.1) 0))),s.2.1,wrap .i64 (s.2.2.1+1),s.2.2.2.1,s.2.2.2.2.1,()))) none) (some (.inr (s.1,s.2.2.2.2.1,())))
def a0L(x:(Z11×Int)):Option Z20:=(a2C x.2).bind fun y1=>(a2g (x.1,y1)).bind fun y2=>(y0h a2A (0,(y2.1.length:Int),0,y2.1,y2.2,())).bind fun w3=>some (w3.1,w3.2.1)
def a7B:FSem:=⟨[.r false (.b Q10),.v QI],[.v QU],a0L⟩
def H56:Hints:=⟨[(58,[.sv 5 QU,12,13,.own 11 1011 QV,.box pinned Q10],[Qe 0 [.sv 5 QU,.box pinned Q10]])],[],[]⟩
def a2Q(x:LI):Option (Z31×Int):=cond (decide ((x.length:Int)<18)) (some ((0,0,0,false,false,[],()),3)) (cond (decide ((x.length:Int) > 65554)) (some ((0,0,0,false,false,[],()),4)) ((a1F x).bind fun y1=>(a0L (y1,1)).bind fun y2=>(a0L (y2.2,1)).bind fun y3=>(a0L (y3.2,8)).bind fun y4=>(a0L (y4.2,8)).bind fun y5=>(show Option (LI×(Int×Int×Int×Int×Bool×Z39))from cond (decide (y2.1≥4)) (some (x,y2.1,y3.1,y4.1,y5.1,true,(0,0,0,false,false,[],()),())) (cond (decide (y3.1 > 3)) (some (x,y2.1,y3.1,y4.1,y5.1,true,(0,0,0,false,false,[],()),())) (cond (decide (y4.1 > 1125899906842624)) (some (x,y2.1,y3.1,y4.1,y5.1,true,(0,0,0,false,false,[],()),())) (some (x,y2.1,y3.1,y4.1,y5.1,decide (y5.1 > 1125899906842624),(0,0,0,false,false,[],()),()))))).bind fun z6=>cond z6.2.2.2.2.2.1 (some ((0,0,0,false,false,[],()),2)) (cond (decide (18≤(z6.1.length:Int))) ((a2D (a05 18 (a03 (a00 z6.1) z6.1))).bind fun y7=>some ((wrap .i64 z6.2.1,wrap .i64 z6.2.2.2.1,wrap .i64 z6.2.2.2.2.1,(bits .u64 .and z6.2.2.1 1) != 0,(bits .u64 .and z6.2.2.1 2) != 0,y7,()),0)) none)))
def b2g:FSem:=⟨[.v QB],[.v Q17,.v QI],a2Q⟩
def H73:Hints:=⟨[],[(126,[Qn [.sv 0 QB,.sv 5 QU,.sv 6 QU,.sv 7 QU,.sv 8 QU,.sv 40 .bool,.box 2 Q17,Qp 2 2]])],[]⟩
def a5c(s:(Z32×Int×Z28)):Option ((Z32×Int×Z28) ⊕ Z22):=cond (decide (s.2.2.1<s.2.1)) ((n0s s.1 s.2.2.1).bind fun x1=>cond (!x1.2.1) (some (.inl (s.1,s.2.1,wrap .i64 (s.2.2.1+1),s.2.2.2.1,()))) (cond x1.2.2.2.1 (some (.inl (s.1,s.2.1,wrap .i64 (s.2.2.1+1),s.2.2.2.1,()))) (cond (decide ((x1.2.2.2.2.1.length:Int)<18)) (some (.inl (s.1,s.2.1,wrap .i64 (s.2.2.1+1),s.2.2.2.1,()))) ((a2U x1).bind fun y2=>cond (y2.2 != 0) (some (.inl (s.1,s.2.1,wrap .i64 (s.2.2.1+1),s.2.2.2.1,()))) (cond (decide (18≤(x1.2.2.2.2.1.length:Int))) ((a2Q (a03 18 x1.2.2.2.2.1)).bind fun y3=>cond (y3.2 != 0) (some (.inl (s.1,s.2.1,wrap .i64 (s.2.2.1+1),s.2.2.2.1,()))) (cond (!y3.1.2.2.2.1) (some (.inl (s.1,s.2.1,wrap .i64 (s.2.2.1+1),s.2.2.2.1,()))) (cond (lim ((a00 s.2.2.2.1)+1)) (some (.inl (s.1,s.2.1,wrap .i64 (s.2.2.1+1),a02 s.2.2.2.1 ([(y3.1.1,y3.1.2.1,x1.1,())]:List Z6),()))) none))) none))))) (some (.inr (s.2.2.2.1,())))
def a6c(x:Z32):Option Z12:=(y0h a5c (x,(x.length:Int),0,[],())).bind fun w4=>some w4.1
def b3g:FSem:=⟨[.v (.list false Q15)],[.o Q7],a6c⟩
def H22:Hints:=⟨[(58,[.sv 10 (.list false Q15),11,12,.own 3 3 Q7],[Qe 0 [.own 3 3 Q7]])],[],[]⟩
def a3T(s:(Int×Int×Z8)):Option ((Int×Int×Z8) ⊕ (LI×Unit)):=cond (decide (s.2.1<s.1)) (cond ((decide (0≤s.2.1))&&(decide (s.2.1<(s.2.2.2.1.length:Int)))) (cond (lim ((a00 s.2.2.1)+2)) (some (.inl (s.1,wrap .i64 (s.2.1+1),a02 s.2.2.1 [wrap .u8 (96+(E0j .u8 (a04 s.2.2.2.1 (a01 s.2.1) 0) 4)),wrap .u8 (96+(bits .u8 .and (a04 s.2.2.2.1 (a01 s.2.1) 0) 15))],s.2.2.2.1,()))) none) none) (some (.inr (s.2.2.1,())))
def a3Y(x:Z32):Option (LI×Int):=(a6c x).bind fun y1=>(a3X y1).bind fun y2=>cond (y2.2 != 0) (some ([],y2.2)) ((y0h a3T ((y2.1.length:Int),0,[],y2.1,())).bind fun w3=>(a1V (wrap .u64 (w3.1.length:Int),4)).bind fun y4=>cond (lim ((a00 w3.1)+(a00 y4))) (cond (lim ((a00 (a02 w3.1 y4))+4)) (some (a02 (a02 w3.1 y4) [75,69,78,68],0)) none) none)
def b0J:FSem:=⟨[.v (.list false Q15)],[.o QV,.v QI],a3Y⟩
def H40:Hints:=⟨[(250,[19,20,.own 6 6 QV,.own 18 4 QV],[Qe 0 [.own 6 6 QV]])],[],[]⟩
def a2X(s:(Z69×Z10)):Option ((Z69×Z10) ⊕ (LI×Unit)):=cond (decide (s.2.2.1<s.2.1)) ((n0s s.1 s.2.2.1).bind fun x2=>(a1E [wrap .u64 x2.1,wrap .u64 x2.2.1.1,wrap .u64 x2.2.1.2.1]).bind fun y3=>cond (lim ((a00 s.2.2.2.1)+(a00 y3))) (cond (x2.1==1) ((a1E [wrap .u64 x2.2.2.1.1,wrap .u64 x2.2.2.1.2.1,wrap .u64 x2.2.2.1.2.2.1]).bind fun y4=>cond (lim ((a00 (a02 s.2.2.2.1 y3))+(a00 y4))) (some (.inl (s.1,s.2.1,wrap .i64 (s.2.2.1+1),a02 (a02 s.2.2.2.1 y3) y4,()))) none) ((a1E [wrap .u64 x2.2.2.2.1,wrap .u64 x2.2.2.2.2.1,wrap .u64 x2.2.2.2.2.2.1,wrap .u64 x2.2.2.2.2.2.2.1]).bind fun y5=>cond (lim ((a00 (a02 s.2.2.2.1 y3))+(a00 y5))) (some (.inl (s.1,s.2.1,wrap .i64 (s.2.2.1+1),a02 (a02 s.2.2.2.1 y3) y5,()))) none)) none) (some (.inr (s.2.2.2.1,())))
def a3f(x:Z69):Option LI:=(a1E ([wrap .u64 (x.length:Int)]:List Int)).bind fun y1=>cond (lim (6+(a00 y1))) ((y0h a2X (x,(x.length:Int),0,a02 [75,73,78,79,82,65] y1,())).bind fun w6=>(a0Y w6.1).bind fun y7=>(a1V (wrap .u64 y7,4)).bind fun y8=>cond (lim ((a00 w6.1)+(a00 y8))) (some (a02 w6.1 y8)) none) none
def b0K:FSem:=⟨[.v (.list false Q21)],[.o QV],a3f⟩
def H41:Hints:=⟨[(58,[.sv 15 (.list false Q21),16,17,.own 3 3 QV],[Qe 0 [.own 3 3 QV]])],[],[]⟩
def a3n(s:(Z69×Z44×Z69×Int×Int×Unit)):Option ((Z69×Z44×Z69×Int×Int×Unit) ⊕ ((Z69×Z44×Unit) ⊕ Z3)):=cond (decide (s.2.2.2.2.1<s.2.2.2.1)) ((n0s s.2.2.1 s.2.2.2.2.1).bind fun x2=>(a4C x2).bind fun y3=>cond (!y3) (some (.inr (Sum.inr ((1,[],()))))) (some (.inl (s.1,s.2.1,s.2.2.1,s.2.2.2.1,wrap .i64 (s.2.2.2.2.1+1),())))) (some (.inr (Sum.inl (s.1,s.2.1,()))))
def a2o(x:(Z69×Z44)):Option (LI×Int):=(show Option (Z69×Z44×Bool×Unit)from cond (decide ((x.1.length:Int)<1)) (some (x.1,x.2,true,())) (cond (decide ((x.1.length:Int) > 4)) (some (x.1,x.2,true,())) (some (x.1,x.2,(x.2.length:Int) != (x.1.length:Int),())))).bind fun z1=>cond z1.2.2.1 (some ([],1)) ((y0h a3n (z1.1,z1.2.1,z1.1,(z1.1.length:Int),0,())).bind fun w4=>match w4 with |.inl a5=>((a3t a5.2.1).bind fun y7=>cond (y7.2 != 0) (some ([],y7.2)) ((a3E (y7.1,0)).bind fun y8=>cond (y8.2 != 0) (some ([],y8.2)) ((a3G y8.1).bind fun y9=>cond (y9.2 != 0) (some ([],y9.2)) ((a3H y9.1).bind fun y10=>cond (y10.2 != 0) (some ([],y10.2)) ((a3Y y9.1).bind fun y11=>cond (y11.2 != 0) (some ([],y11.2)) ((a3f a5.1).bind fun y12=>cond (lim ((a00 y12)+(a00 y10.1))) (cond (lim ((a00 (a02 y12 y10.1))+(a00 y11.1))) (some (a02 (a02 y12 y10.1) y11.1,0)) none) none)))))) |.inr b6=>some (b6.2.1,b6.1))
def b0V:FSem:=⟨[.v (.list false Q21),.v (.list false (.list false Q17))],[.o QV,.v QI],a2o⟩
def H10:Hints:=⟨[(58,[.sv 0 (.list false Q21),.sv 1 (.list false (.list false Q17)),.sv 28 (.list false Q21),29,30],[Qe 0 [.sv 0 (.list false Q21),.sv 1 (.list false (.list false Q17))],Qr [5,.own 4 4 QV]])],[(6,[Qn [.sv 0 (.list false Q21),.sv 1 (.list false (.list false Q17)),.sv 27 .bool]])],[]⟩
def a3w(s:Z20):Option (Z20 ⊕ (Unit ⊕ Z6)):=(fun(a:Int)(b:LI)(c d:Int)=>cond (decide (d<c)) ((n0s b d).bind fun x1=>(show Option (Int×(Int×(Int×(LI×Z7))))from cond (d==9) (cond (decide (x1 > 1)) (some (a,d,x1,b,c,d,true,())) (cond (decide (d > 0)) (some (a,d,x1,b,c,d,x1==0,())) (some (a,d,x1,b,c,d,false,())))) (cond (decide (d > 0)) (some (a,d,x1,b,c,d,x1==0,())) (some (a,d,x1,b,c,d,false,())))).bind fun z2=>cond z2.2.2.2.2.2.2.1 (some (.inr (Sum.inr ((0,0,2,()))))) (cond (decide ((wrap .i64 (7*z2.2.1))<0)) none (cond (decide (z2.2.2.1<128)) (some (.inr (Sum.inr ((bits .u64 .or z2.1 (E0i .u64 (wrap .u64 (a07 z2.2.2.1 128)) (wrap .i64 (7*z2.2.1))),wrap .i64 (z2.2.1+1),0,()))))) (some (.inl (bits .u64 .or z2.1 (E0i .u64 (wrap .u64 (a07 z2.2.2.1 128)) (wrap .i64 (7*z2.2.1))),z2.2.2.2.1,z2.2.2.2.2.1,wrap .i64 (z2.2.2.2.2.2.1+1),())))))) (some (.inr (Sum.inl ())))) s.1 s.2.1 s.2.2.1 s.2.2.2.1
def a4F(x:LI):Option (Int×Int×Int):=(y0h a3w (0,x,(x.length:Int),0,())).bind fun w3=>match w3 with |.inl a4=>some (0,0,3) |.inr b5=>some (b5.1,b5.2.1,b5.2.2.1)
def a9m:FSem:=⟨[.v QB],[.v QU,.v QI,.v QI],a4F⟩
def H92:Hints:=⟨[(58,[.sv 5 QU,.sv 8 QB,9,10],[Qe 0 [],Qr [.sv 2 QU,3,4]])],[(7474,[Qn [.sv 5 QU,6,.sv 7 QV,.sv 8 QB,9,10,.sv 28 .bool]])],[]⟩
def a0I(x:(Z11×Int)):Option Z20:=cond (x.1.2.2.1 != 0) (some (0,x.1)) (cond ((decide (0≤x.1.2.1))&&(decide (x.1.2.1≤(x.1.1.length:Int)))) ((a4F (a05 (a01 x.1.2.1) (a03 (a00 x.1.1) x.1.1))).bind fun y1=>(show Option (Int×Int×Int×Z23)from cond (y1.2.2==0) (cond (decide (y1.1 > x.2)) (some (y1.1,y1.2.1,4,x.1,())) (some (y1.1,y1.2.1,y1.2.2,x.1,()))) (some (y1.1,y1.2.1,y1.2.2,x.1,()))).bind fun z2=>cond (z2.2.2.1 != 0) (some (0,z2.2.2.2.1.1,z2.2.2.2.1.2.1,z2.2.2.1,z2.2.2.2.1.2.2.2)) (some (z2.1,z2.2.2.2.1.1,wrap .i64 (z2.2.2.2.1.2.1+z2.2.1),z2.2.2.2.1.2.2))) none)
def a7C:FSem:=⟨[.r false (.b Q10),.v QU],[.v QU],a0I⟩
def H50:Hints:=⟨[],[(15,[Qn [.sv 5 QU,6,7,.box pinned Q10,Qp 0 pinned]])],[(3,[.p,.p,.q,.q,.p,.p,.q,.q,.x,.x,.x,.v,.v,.v,.v,.v,.x])]⟩
def a4X(x:Z11):Option (Z65×Z11):=(a0I (x,2)).bind fun y1=>(a0I (y1.2,1048576)).bind fun y2=>(a0I (y2.2,1048576)).bind fun y3=>cond ((wrap .i64 y1.1)==1) ((a0I (y3.2,1048576)).bind fun y4=>(a0I (y4.2,8)).bind fun y5=>(a0I (y5.2,24)).bind fun y6=>some ((wrap .i64 y1.1,(wrap .i64 y2.1,wrap .i64 y3.1,()),(wrap .i64 y4.1,wrap .i64 y5.1,wrap .i64 y6.1,()),0,0,0,0,()),y6.2)) ((a0I (y3.2,64)).bind fun y7=>(a0I (y7.2,64)).bind fun y8=>(a0I (y8.2,16)).bind fun y9=>(a0I (y9.2,4)).bind fun y10=>some ((wrap .i64 y1.1,(wrap .i64 y2.1,wrap .i64 y3.1,()),(0,0,0,()),wrap .i64 y7.1,wrap .i64 y8.1,wrap .i64 y9.1,wrap .i64 y10.1,()),y10.2))
def b2h:FSem:=⟨[.r false (.b Q10)],[.v Q21],a4X⟩
def a2p(x:Z11):Option Z20:=some (x.2.2.1,x)
def a7D:FSem:=⟨[.r false (.b Q10)],[.v QI],a2p⟩
def a3x(x:Z11):Option Z20:=some (x.2.1,x)
def a8a:FSem:=⟨[.r false (.b Q10)],[.v QI],a3x⟩
def a3I(s:(LI×Z84)):Option ((LI×Z84) ⊕ (LI×Z82)):=cond (decide (s.2.1 > 0)) ((a4X s.2.2.2.1).bind fun y4=>cond (lim ((a00 s.2.2.1)+1)) (some (.inl (s.1,wrap .u64 (s.2.1-1),a02 s.2.2.1 ([y4.1]:List Z65),y4.2,()))) none) (some (.inr (s.1,s.2.2.1,s.2.2.2.1,())))
def a3J(s:(LI×(Int×Z84))):Option ((LI×(Int×Z84)) ⊕ ((LI×Z82) ⊕ (Int×Int×Z69×Unit))):=cond (decide (s.2.2.1<s.2.1)) (cond ((decide (0≤s.2.2.1))&&(decide (s.2.2.1<(s.2.2.2.1.length:Int)))) ((a4C (a04 s.2.2.2.1 (a01 s.2.2.1) (0,(0,0,()),(0,0,0,()),0,0,0,0,()))).bind fun y7=>cond (!y7) (some (.inr (Sum.inr ((0,2,[],()))))) (some (.inl (s.1,s.2.1,wrap .i64 (s.2.2.1+1),s.2.2.2.1,s.2.2.2.2.1,())))) none) (some (.inr (Sum.inl (s.1,s.2.2.2.1,s.2.2.2.2.1,()))))
def a1W(x:LI):Option (Z69×Int×Int):=cond (decide ((x.length:Int)<6)) (some ([],0,3)) (cond (decide (6≤(x.length:Int))) (cond ((b2s (a03 6 x)) != [75,73,78,79,82,65]) (some ([],0,2)) ((a1F x).bind fun y1=>(a2g (y1,6)).bind fun y2=>(a0I (y2.2,4)).bind fun y3=>(y0h a3I (x,y3.1,[],y3.2,())).bind fun w5=>(a2p w5.2.2.1).bind fun y6=>cond (y6.1 != 0) (some ([],0,y6.1)) (cond ((w5.2.1.length:Int)==0) (some ([],0,2)) ((y0h a3J (w5.1,(w5.2.1.length:Int),0,w5.2.1,y6.2,())).bind fun w8=>match w8 with |.inl a9=>((a1N a9.2.2.1).bind fun y11=>cond (decide (y11.1<4)) (some ([],0,3)) ((a3x y11.2).bind fun y12=>cond ((decide (0≤y12.1))&&(decide (y12.1≤(a9.1.length:Int)))) ((a0Y (a03 (a01 y12.1) a9.1)).bind fun y13=>(a0L (y12.2,4)).bind fun y14=>cond (y14.1 != (wrap .u64 y13)) (some ([],0,5)) ((a3x y14.2).bind fun y15=>some (a9.2.1,y15.1,0))) none)) |.inr b10=>some (b10.2.2.1,b10.1,b10.2.1))))) none)
def b2i:FSem:=⟨[.v QB],[.o Q21,.v QI,.v QI],a1W⟩
def H16:Hints:=⟨[(1018,[.sv 0 QB,.sv 7 QU,.own 6 6 Q21,.box 1020 Q10,Qp 5 1020],[Qe 0 [.sv 0 QB,.own 6 6 Q21,.box 1020 Q10,Qp 5 1020]]),(8186,[.sv 0 QB,43,44,.own 6 6 Q21,.box 1020 Q10,Qp 5 1020,.ref 42 6 []],[Qe 2 [.sv 0 QB,.own 6 6 Q21,.box 1020 Q10,Qp 5 1020],Qr [3,4,.own 2 2 Q21]])],[],[]⟩
def a1z(x:(LI×Int)):Option (Z30×Int×Int):=(show Option (LI×(Int×Z43))from cond (decide (x.2<0)) (some (x.1,x.2,true,(0,false,false,false,[],()),())) (some (x.1,x.2,decide (x.2 > (x.1.length:Int)),(0,false,false,false,[],()),()))).bind fun z1=>cond z1.2.2.1 (some ((0,false,false,false,[],()),0,6)) (cond ((decide (0≤z1.2.1))&&(decide (z1.2.1≤(z1.1.length:Int)))) (cond (decide ((a00 (a05 (a01 z1.2.1) (a03 (a00 z1.1) z1.1)):Int)<2)) (some ((0,false,false,false,[],()),0,3)) ((show Option (LI×Z43)from(n0s (a05 (a01 z1.2.1) (a03 (a00 z1.1) z1.1)) 0).bind fun x2=>cond (x2 != 75) (some (a05 (a01 z1.2.1) (a03 (a00 z1.1) z1.1),true,z1.2.2.2.1,())) ((n0s (a05 (a01 z1.2.1) (a03 (a00 z1.1) z1.1)) 1).bind fun x3=>some (a05 (a01 z1.2.1) (a03 (a00 z1.1) z1.1),x3 != 80,z1.2.2.2.1,()))).bind fun z4=>cond z4.2.1 (some ((0,false,false,false,[],()),0,2)) (cond (decide ((z4.1.length:Int)<8)) (some ((0,false,false,false,[],()),0,3)) (cond (decide (8≤(z4.1.length:Int))) ((a1F (a05 2 (a03 8 z4.1))).bind fun y5=>(a0L (y5,1)).bind fun y6=>(a0L (y6.2,4)).bind fun y7=>(a0L (y7.2,1)).bind fun y8=>(show Option (LI×(Int×Int×Int×Bool×Z43))from cond (decide (y6.1 > 7)) (some (z4.1,y6.1,y7.1,wrap .i64 y8.1,(bits .u64 .and y6.1 4) != 0,true,z4.2.2.1,())) (cond (decide (y7.1 > 2147483647)) (some (z4.1,y6.1,y7.1,wrap .i64 y8.1,(bits .u64 .and y6.1 4) != 0,true,z4.2.2.1,())) (cond (decide ((wrap .i64 y8.1)<1)) (some (z4.1,y6.1,y7.1,wrap .i64 y8.1,(bits .u64 .and y6.1 4) != 0,true,z4.2.2.1,())) ((a1Y ((bits .u64 .and y6.1 4) != 0)).bind fun y9=>some (z4.1,y6.1,y7.1,wrap .i64 y8.1,(bits .u64 .and y6.1 4) != 0,decide ((wrap .i64 y8.1) > y9),z4.2.2.1,()))))).bind fun z10=>cond z10.2.2.2.2.2.1 (some ((0,false,false,false,[],()),0,2)) (cond (decide ((z10.1.length:Int)<(wrap .i64 ((wrap .i64 (8+z10.2.2.2.1))+4)))) (some ((0,false,false,false,[],()),0,3)) (cond ((decide (0≤(wrap .i64 ((wrap .i64 (8+z10.2.2.2.1))+4))))&&(decide ((wrap .i64 ((wrap .i64 (8+z10.2.2.2.1))+4))≤(z10.1.length:Int)))) (cond ((decide (0≤(wrap .i64 (8+z10.2.2.2.1))))&&(decide ((wrap .i64 (8+z10.2.2.2.1))≤((a01 (wrap .i64 ((wrap .i64 (8+z10.2.2.2.1))+4)):Nat):Int)))) ((a1F (a05 (a01 (wrap .i64 (8+z10.2.2.2.1))) (a03 (a01 (wrap .i64 ((wrap .i64 (8+z10.2.2.2.1))+4))) z10.1))).bind fun y11=>(a0L (y11,4)).bind fun y12=>cond ((decide (0≤(wrap .i64 (8+z10.2.2.2.1))))&&(decide ((wrap .i64 (8+z10.2.2.2.1))≤(z10.1.length:Int)))) ((a0Y (a03 (a01 (wrap .i64 (8+z10.2.2.2.1))) z10.1)).bind fun y13=>cond (y12.1 != (wrap .u64 y13)) (some ((0,false,false,false,[],()),0,5)) (cond ((decide (0≤(wrap .i64 (8+z10.2.2.2.1))))&&(decide ((wrap .i64 (8+z10.2.2.2.1))≤(z10.1.length:Int)))) (cond (decide (8≤((a01 (wrap .i64 (8+z10.2.2.2.1)):Nat):Int))) ((a2D (a05 8 (a03 (a01 (wrap .i64 (8+z10.2.2.2.1))) z10.1))).bind fun y14=>some ((wrap .i64 z10.2.2.1,(bits .u64 .and z10.2.1 1) != 0,(bits .u64 .and z10.2.1 2) != 0,z10.2.2.2.2.1,y14,()),wrap .i64 ((wrap .i64 (8+z10.2.2.2.1))+4),0)) none) none)) none) none) none))) none)))) none)
def b2j:FSem:=⟨[.v QB,.v QI],[.v Q15,.v QI,.v QI],a1z⟩
def b7A:Hints:=⟨[],[(6,[Qn [.sv 0 QB,1,.sv 20 .bool,.box 4 Q15,Qp 4 4]]),(62,[Qn [.sv 0 QB,.sv 38 .bool,.box 4 Q15,Qp 4 4]]),(2046,[Qn [.sv 0 QB,.sv 8 QU,.sv 9 QU,10,.sv 11 .bool,.sv 72 .bool,.box 4 Q15,Qp 4 4]])],[(18,[.v,.v,.v,.v,.v,.q,.w [88,1087,1088],.v,.v,.v,.x,.x,.x])]⟩
def a3K(s:Z63):Option (Z63 ⊕ Z48):=cond (decide (s.2.2.1<(s.1.length:Int))) ((a1z (s.1,s.2.2.1)).bind fun y1=>cond (y1.2.2 != 0) (some (.inl (s.1,wrap .i64 (s.2.1+1),wrap .i64 (s.2.2.1+1),s.2.2.2.1,()))) (cond (lim ((a00 s.2.2.2.1)+1)) (some (.inl (s.1,s.2.1,wrap .i64 (s.2.2.1+y1.2.1),a02 s.2.2.2.1 ([y1.1]:List Z30),()))) none)) (some (.inr (s.2.1,s.2.2.2.1,())))
def a5L(x:LI):Option Z37:=(y0h a3K (x,0,0,[],())).bind fun w2=>some (w2.2.1,w2.1)
def b2k:FSem:=⟨[.v QB],[.o Q15,.v QI],a5L⟩
def H89:Hints:=⟨[(122,[.sv 0 QB,5,6,.own 4 4 Q15],[Qe 0 [5,.own 4 4 Q15]])],[],[]⟩
def a4G(x:Z30):Option Bool:=cond x.2.2.2.1 (cond (decide ((x.2.2.2.2.1.length:Int) > 3)) ((n0s x.2.2.2.2.1 0).bind fun x1=>cond (decide (x1≥1)) ((n0s x.2.2.2.2.1 0).bind fun x2=>some (decide (x2≤8))) (some false)) (some false)) (some false)
def a4H:FSem:=⟨[.v Q15],[.v .bool],a4G⟩
def a1x(mb:Int)(mL:List Z33)(s:(Int×Int×Int×Int×Z32×Z34)):Option ((Int×Int×Int×Int×Z32×Z34) ⊕ Z53):=(n0s s.2.2.2.2.2.1.2.2.2.2.1 0).bind fun x1=>cond (decide (s.2.2.2.1<(wrap .i64 (s.2.2.2.2.2.1.1+(wrap .i64 x1))))) (cond (s.1==mb) (cond (a20 (g0l s.2.2.2.1 mL)) (cond (lim ((a00 s.2.2.2.2.1)+1)) (some (.inl (s.1,s.2.1,s.2.2.1,wrap .i64 (s.2.2.2.1+1),a02 s.2.2.2.2.1 ([Option.getD (g0l s.2.2.2.1 mL) (0,false,false,false,[],())]:List Z30),s.2.2.2.2.2.1,()))) none) (some (.inl (s.1,wrap .i64 (s.2.1+1),s.2.2.2.1,wrap .i64 (s.2.2.2.1+1),s.2.2.2.2.1,s.2.2.2.2.2.1,())))) none) (some (.inr (s.2.1,s.2.2.1,s.2.2.2.2.1,())))
def a2h(mb:Int)(mL:List Z33)(x:(Z30×Int)):Option (Int×Z32×Bool):=(y0h (a1x mb mL) (x.2,0,0,x.1.1,[],x.1,())).bind fun w2=>some (w2.2.1,w2.2.2.1,w2.1==1)
def b7B:Hints:=⟨[(122,[.sv 1 (.hd),8,9,10,.own 7 7 Q15,.vp 2 Q15],[Qe 0 [8,9,.own 7 7 Q15]])],[],[(4,[.v,.v,.v,.v,.v,.v,.v,.v,.v,.x])]⟩
def b5u:Ty:=.pair QI Q11
def a2S(mb:Int)(mL:List Z33):FSem:=⟨[.v Q15,.v (.hd)],[.v QI,.o Q15,.v .bool],a2h mb mL⟩
def b5v(mb:Int)(mL:List Z33):Cx:=⟨b4J,b4I,T0,fun f=>find [] f,fun d=>find ([]:List (Nat×Ty)) d,fun i=>([0,1,4,5,6,7,8,9,10,12]:List Nat).contains i,fun i=>([2]:List Nat).contains i,{ G0 with m:=some ⟨b5u,mb,mL⟩ }⟩
theorem b6M(g:Int)(h:List Z33)(x):E0e (b5v g h) b7B Tryz.f116 (a2S g h).ps (a2S g h).rs x=(a2S g h).F x:=by kernel_rfl
def a2q(s:(Int×Z86)):Option ((Int×Z86) ⊕ (Int×Z59)):=cond (decide (s.2.2.2.2.2.1<s.2.2.2.2.1)) ((n0s s.2.2.2.1 s.2.2.2.2.2.1).bind fun x3=>(a3F x3).bind fun y4=>(a2V (s.2.2.2.2.2.2.1,x3.2.2.2.2.1)).bind fun y5=>some (.inl (s.1,bits .u8 .xor s.2.1 y4,bits .u8 .xor s.2.2.1 (wrap .u8 (x3.2.2.2.2.1.length:Int)),s.2.2.2.1,s.2.2.2.2.1,wrap .i64 (s.2.2.2.2.2.1+1),y5.1,s.2.2.2.2.2.2.2.1,()))) (some (.inr (s.1,s.2.1,s.2.2.1,s.2.2.2.2.2.2.1,s.2.2.2.2.2.2.2.1,())))
def a2r(s:(Int×(Int×(LI×(Int×(LI×(Int×Z42))))))):Option ((Int×(Int×(LI×(Int×(LI×(Int×Z42)))))) ⊕ ((Int×(Int×(LI×Z42))) ⊕ Z43)):=cond (decide (s.2.2.2.2.2.2.1<s.2.2.2.2.2.1)) ((n0s s.2.2.2.2.1 s.2.2.2.2.2.2.1).bind fun x8=>cond (x8 != 0) (some (.inr (Sum.inr ((false,(0,false,false,false,[],()),()))))) (some (.inl (s.1,s.2.1,s.2.2.1,s.2.2.2.1,s.2.2.2.2.1,s.2.2.2.2.2.1,wrap .i64 (s.2.2.2.2.2.2.1+1),s.2.2.2.2.2.2.2.1,())))) (some (.inr (Sum.inl (s.1,s.2.1,s.2.2.1,s.2.2.2.1,s.2.2.2.2.2.2.2.1,()))))
def a3o(x:(Z30×Z37)):Option (Z30×Bool):=(n0s x.1.2.2.2.2.1 1).bind fun x1=>(n0s x.1.2.2.2.2.1 2).bind fun x2=>cond (decide (3≤(x.1.2.2.2.2.1.length:Int))) (cond (lim (a00 (a05 3 (a03 (a00 x.1.2.2.2.2.1) x.1.2.2.2.2.1)))) ((y0h a2q (x.2.2,x1,x2,x.2.1,(x.2.1.length:Int),0,a05 3 (a03 (a00 x.1.2.2.2.2.1) x.1.2.2.2.2.1),(0,false,false,false,[],()),())).bind fun w6=>(show Option (Int×Int×Int×Bool×Z49)from cond (decide (w6.2.1 > 3)) (some (w6.1,w6.2.1,wrap .i64 w6.2.2.1,true,w6.2.2.2.1,w6.2.2.2.2.1,())) (cond (decide ((wrap .i64 w6.2.2.1)<1)) (some (w6.1,w6.2.1,wrap .i64 w6.2.2.1,true,w6.2.2.2.1,w6.2.2.2.2.1,())) (cond (decide ((wrap .i64 w6.2.2.1) > 252)) (some (w6.1,w6.2.1,wrap .i64 w6.2.2.1,true,w6.2.2.2.1,w6.2.2.2.2.1,())) (some (w6.1,w6.2.1,wrap .i64 w6.2.2.1,decide ((wrap .i64 w6.2.2.1) > (w6.2.2.2.1.length:Int)),w6.2.2.2.1,w6.2.2.2.2.1,()))))).bind fun z7=>cond z7.2.2.2.1 (some ((0,false,false,false,[],()),false)) (cond ((decide (0≤z7.2.2.1))&&(decide (z7.2.2.1≤(z7.2.2.2.2.1.length:Int)))) ((y0h a2r (z7.1,z7.2.1,z7.2.2.2.2.1,z7.2.2.1,a03 ((a00 z7.2.2.2.2.1)-(a01 z7.2.2.1)) (a05 (a01 z7.2.2.1) z7.2.2.2.2.1),(((a00 z7.2.2.2.2.1)-(a01 z7.2.2.1):Nat):Int),0,z7.2.2.2.2.2.1,())).bind fun w9=>match w9 with |.inl a10=>(cond ((decide (0≤a10.2.2.2.1))&&(decide (a10.2.2.2.1≤(a10.2.2.1.length:Int)))) (cond (lim (a00 (a03 (a01 a10.2.2.2.1) a10.2.2.1))) ((a2x (a10.1,(bits .u8 .and a10.2.1 1) != 0,(bits .u8 .and a10.2.1 2) != 0,false,a03 (a01 a10.2.2.2.1) a10.2.2.1,())).bind fun y12=>some ((a10.1,(bits .u8 .and a10.2.1 1) != 0,(bits .u8 .and a10.2.1 2) != 0,false,a03 (a01 a10.2.2.2.1) a10.2.2.1,()),y12)) none) none) |.inr b11=>some (b11.2.1,b11.1)) none)) none) none
def a4l:FSem:=⟨[.v Q15,.v (.list false Q15),.v QI],[.v Q15,.v .bool],a3o⟩
def b7C:Hints:=⟨[(122,[2,.sv 8 QV,.sv 9 QV,.sv 29 (.list false Q15),30,31,.own 10 10 QV,.box 6 Q15,Qp 6 6],[Qe 0 [2,.sv 8 QV,.sv 9 QV,.own 10 10 QV,.box 6 Q15,Qp 6 6]]),(1018,[2,.sv 8 QV,.sv 10 QB,13,.sv 71 QB,72,73,.box 6 Q15,Qp 6 6],[Qe 2 [2,.sv 8 QV,.sv 10 QB,13,.box 6 Q15,Qp 6 6],Qr [.sv 7 .bool,.box 6 Q15,Qp 6 6]])],[(126,[Qn [2,.sv 8 QV,13,.sv 67 .bool,.own 10 10 QV,.box 6 Q15,Qp 6 6]])],[(1,[.v,.v,.v,.v,.v,.v,.v,.v,.v,.x]),(20,[.q,.q,.v,.x,.x])]⟩
def a1q(x:Z40):Option Z32:=cond (decide (a00 x.1<4611686018427387904)&&a3g x.1) (some (a1s x.1)) none
def a1r:FSem:=⟨[.r false (.o Q15),.v (.fn 119)],[],a1q⟩
def a4m(s:(Int×Int×Z32×Int×Int×Z15)):Option ((Int×Int×Z32×Int×Int×Z15) ⊕ (Int×Int×Z15)):=cond (decide (s.2.2.2.2.1<s.2.2.2.1)) ((n0s s.2.2.1 s.2.2.2.2.1).bind fun x1=>(show Option (Int×Z32×Int×Int×Z4×Z34)from cond (decide (x1.1 > s.2.1)) (cond (lim ((a00 s.2.2.2.2.2.1)+1)) (some (s.1,s.2.2.1,s.2.2.2.1,s.2.2.2.2.1,a02 s.2.2.2.2.2.1 ([(s.2.1,wrap .i64 (x1.1-1),())]:List (Int×Int×Unit)),x1,())) none) (some (s.1,s.2.2.1,s.2.2.2.1,s.2.2.2.2.1,s.2.2.2.2.2.1,x1,()))).bind fun z2=>some (.inl (z2.1,wrap .i64 (z2.2.2.2.2.2.1.1+1),z2.2.1,z2.2.2.1,wrap .i64 (z2.2.2.2.1+1),z2.2.2.2.2.1,()))) (some (.inr (s.1,s.2.1,s.2.2.2.2.2.1,())))
def a4t(x:Z37):Option Z4:=(y0h a4m (x.2,0,x.1,(x.1.length:Int),0,[],())).bind fun w3=>(show Option Z15 from cond (decide (w3.1≥w3.2.1)) (cond (lim ((a00 w3.2.2.1)+1)) (some (a02 w3.2.2.1 ([(w3.2.1,w3.1,())]:List (Int×Int×Unit)),())) none) (some (w3.2.2.1,()))).bind fun z4=>some z4.1
def a5j:FSem:=⟨[.v (.list false Q15),.v QI],[.o Q3],a4t⟩
def b7D:Hints:=⟨[(122,[1,6,.sv 9 (.list false Q15),10,11,.own 5 5 Q3],[Qe 0 [1,6,.own 5 5 Q3]])],[(31,[Qn [.own 5 5 Q3]]),(7833,[Qn [1,.sv 9 (.list false Q15),10,11,.own 5 5 Q3,.box 8 Q15,Qp 8 8]])],[]⟩
def a1k(s:((Int×Int×Z32×Z81)×Z47)):Option (((Int×Int×Z32×Z81)×Z47) ⊕ (Z81×Z47)):=cond (decide (s.1.2.2.2.2.1<s.1.2.2.2.1)) ((n0s s.1.2.2.1 s.1.2.2.2.2.1).bind fun x2=>(a2x x2).bind fun y3=>cond (!y3) (some (.inl ((s.1.1,s.1.2.1,s.1.2.2.1,s.1.2.2.2.1,wrap .i64 (s.1.2.2.2.2.1+1),s.1.2.2.2.2.2.1,s.1.2.2.2.2.2.2.1,()),s.2.1,s.2.2))) (cond x2.2.2.2.1 ((a4G x2).bind fun y4=>cond y4 (cond (lim ((a00 s.1.2.2.2.2.2.1)+1)) ((n0s x2.2.2.2.2.1 0).bind fun x5=>some (.inl ((s.1.1,y0d s.1.2.1 (wrap .i64 ((wrap .i64 (x2.1+(wrap .i64 x5)))-1)),s.1.2.2.1,s.1.2.2.2.1,wrap .i64 (s.1.2.2.2.2.1+1),a02 s.1.2.2.2.2.2.1 ([x2]:List Z30),s.1.2.2.2.2.2.2.1,()),s.2.1,s.2.2))) none) (some (.inl ((s.1.1,s.1.2.1,s.1.2.2.1,s.1.2.2.2.1,wrap .i64 (s.1.2.2.2.2.1+1),s.1.2.2.2.2.2.1,s.1.2.2.2.2.2.2.1,()),s.2.1,s.2.2)))) (cond (s.1.1==s.2.1) (cond (a20 (g0l x2.1 s.2.2)) (some (.inl ((s.1.1,s.1.2.1,s.1.2.2.1,s.1.2.2.2.1,wrap .i64 (s.1.2.2.2.2.1+1),s.1.2.2.2.2.2.1,s.1.2.2.2.2.2.2.1,()),s.2.1,s.2.2))) (cond ((s.1.1==s.2.1)&&a23 (g0l x2.1 s.2.2)) ((a3d x2).bind fun y6=>cond (lim ((a00 s.1.2.2.2.2.2.2.1)+1)) (some (.inl ((s.1.1,y0d s.1.2.1 x2.1,s.1.2.2.1,s.1.2.2.2.1,wrap .i64 (s.1.2.2.2.2.1+1),s.1.2.2.2.2.2.1,a02 s.1.2.2.2.2.2.2.1 ([y6]:List Z30),()),s.2.1,s.2.2++[(x2.1,x2)]))) none) none)) none))) (some (.inr ((s.1.1,s.1.2.1,s.1.2.2.2.2.2.1,s.1.2.2.2.2.2.2.1,()),s.2.1,s.2.2)))
def a1l(s:((Int×Int×Z81)×Z47)):Option (((Int×Int×Z81)×Z47) ⊕ (Z48×Z47)):=cond (decide (s.1.2.2.2.1<s.1.2.2.1)) (cond ((decide (0≤s.1.2.2.2.1))&&(decide (s.1.2.2.2.1<(s.1.2.2.2.2.2.1.length:Int)))) ((a2h s.2.1 s.2.2 (a04 s.1.2.2.2.2.2.1 (a01 s.1.2.2.2.1) (0,false,false,false,[],()),s.1.1)).bind fun y8=>cond (!y8.2.2) (some (.inl ((s.1.1,s.1.2.1,s.1.2.2.1,wrap .i64 (s.1.2.2.2.1+1),s.1.2.2.2.2.1,s.1.2.2.2.2.2.1,()),s.2.1,s.2.2))) ((a3o (a04 s.1.2.2.2.2.2.1 (a01 s.1.2.2.2.1) (0,false,false,false,[],()),y8.2.1,y8.1)).bind fun y9=>cond y9.2 (cond ((s.1.1==s.2.1)&&a23 (g0l y8.1 s.2.2)) ((a3d y9.1).bind fun y10=>cond (lim ((a00 s.1.2.2.2.2.1)+1)) (some (.inl ((s.1.1,s.1.2.1,s.1.2.2.1,wrap .i64 (s.1.2.2.2.1+1),a02 s.1.2.2.2.2.1 ([y10]:List Z30),s.1.2.2.2.2.2.1,()),s.2.1,s.2.2++[(y8.1,y9.1)]))) none) none) (some (.inl ((s.1.1,s.1.2.1,s.1.2.2.1,wrap .i64 (s.1.2.2.2.1+1),s.1.2.2.2.2.1,s.1.2.2.2.2.2.1,()),s.2.1,s.2.2))))) none) (some (.inr ((s.1.2.1,s.1.2.2.2.2.1,()),s.2.1,s.2.2)))
def a2F(mb1:Int)(x:Z32):Option (Z32×Z4):=(y0h a1k ((mb1,(-1),x,(x.length:Int),0,[],[],()),mb1,([]:List Z33))).bind fun w7=>(y0h a1l ((w7.1.1,w7.1.2.1,(w7.1.2.2.1.length:Int),0,w7.1.2.2.2.1,w7.1.2.2.1,()),w7.2.1,w7.2.2)).bind fun w11=>(a1q (w11.1.2.1,())).bind fun y12=>(a4t (y12,w11.1.1)).bind fun y13=>some (y12,y13)
def a4b(x:Z32):Option (Z32×Z4):=a2F 0 x
def H90:Hints:=⟨[(250,[.sv 4 (.hd),7,.sv 20 (.list false Q15),21,22,.own 5 5 Q15,.own 6 6 Q15],[Qe 0 [.sv 4 (.hd),7,.own 5 5 Q15,.own 6 6 Q15]]),(506,[.sv 4 (.hd),7,71,72,.own 6 6 Q15,.own 70 5 Q15],[Qe 2 [7,.own 6 6 Q15]])],[],[(11,[.v,.q,.q,.q,.q,.v,.v,.v,.v,.v,.x,.x])]⟩
def b7E:Ty:=.pair QI Q11
def b6e:List PA:=[.v (.list false Q15)]
def b6f:List RA:=[.o Q15,.o Q3]
def b3h(μ:Mu b7E):Cx:=⟨b4J,b4I,T0,fun f=>(match μ with|some p=>find ((116,a2S p.1 p.2)::[(65,a4j),(66,a5b),(115,a4H),(117,a4l),(118,a1r),(120,a5j)]) f|none=>find [(65,a4j),(66,a5b),(115,a4H),(117,a4l),(118,a1r),(120,a5j)] f),fun d=>find ([]:List (Nat×Ty)) d,fun i=>([0,2,3,4,5,6,7,11,14,15,16,18]:List Nat).contains i,fun i=>([]:List Nat).contains i,G0.withM μ⟩
theorem b7F(x):C0m b3h H90 Tryz.f90 b6e b6f x=u0d fun b=>a2F b x:=by kernel_rfl
def b2l:FSem:=⟨b6e,b6f,a4b⟩
def a2i(x:LI):Option (Z32×Z4):=(a5L x).bind fun y1=>(a4b y1.1).bind fun y2=>some (y2.1,y2.2)
def a9n:FSem:=⟨[.v QB],[.o Q15,.o Q3],a2i⟩
def a6Y(x:Int):Option Z24:=some (y0d x 0,false,[],0,())
def b3i:FSem:=⟨[.v QI],[.b Q14],a6Y⟩
def a1O(x:Z24):Option Z24:=cond x.2.1 (some (x.1,false,[],wrap .i64 (x.2.2.2.1+1),x.2.2.2.2)) (some x)
def a7w:FSem:=⟨[.r false (.b Q14)],[],a1O⟩
def a1y(x:(Z24×Z30)):Option (Z35×Z4×Z24):=(a2U x.2).bind fun y1=>(show Option (Bool×Z24×Z34)from cond (y1.2 != 0) (some (true,x.1,x.2,())) (cond x.2.2.2.2.1 (some (true,x.1,x.2,())) (some (decide (x.2.1<x.1.1),x.1,x.2,())))).bind fun z2=>cond z2.1 (some ([],[],z2.2.1)) ((show Option (Z4×Z24×Z34)from cond (decide (z2.2.2.1.1 > z2.2.1.1)) ((a1O z2.2.1).bind fun y3=>some (([(z2.2.1.1,wrap .i64 (z2.2.2.1.1-1),())]:List (Int×Int×Unit)),y3,z2.2.2.1,())) (some ([],z2.2.1,z2.2.2.1,()))).bind fun z4=>(show Option (Z4×Z24×Z34)from cond z4.2.2.1.2.1 ((a1O (wrap .i64 (z4.2.2.1.1+1),z4.2.1.2)).bind fun y5=>some (z4.1,(y5.1,true,y5.2.2),z4.2.2.1,())) (some (z4.1,(wrap .i64 (z4.2.2.1.1+1),z4.2.1.2),z4.2.2.1,()))).bind fun z6=>cond (!z6.2.1.2.1) (some ([],z6.1,z6.2.1)) (cond (lim ((a00 z6.2.1.2.2.1)+(a00 z6.2.2.1.2.2.2.2.1))) (cond (decide ((a00 (a02 z6.2.1.2.2.1 z6.2.2.1.2.2.2.2.1):Int) > 65554)) ((a1O (z6.2.1.1,z6.2.1.2.1,a02 z6.2.1.2.2.1 z6.2.2.1.2.2.2.2.1,z6.2.1.2.2.2)).bind fun y7=>some ([],z6.1,y7)) (cond (!z6.2.2.1.2.2.1) (some ([],z6.1,z6.2.1.1,z6.2.1.2.1,a02 z6.2.1.2.2.1 z6.2.2.1.2.2.2.2.1,z6.2.1.2.2.2)) ((a2Q (a02 z6.2.1.2.2.1 z6.2.2.1.2.2.2.2.1)).bind fun y8=>cond (y8.2 != 0) none ((show Option (Z4×Z31×Z24×Unit)from some (z6.1,y8.1,(z6.2.1.1,false,[],z6.2.1.2.2.2),())).bind fun z9=>some (([z9.2.1]:List Z31),z9.1,z9.2.2.1))))) none))
def a8b:FSem:=⟨[.r false (.b Q14),.v Q15],[.o Q17,.o Q3],a1y⟩
def H29:Hints:=⟨[],[(13,[Qn [.sv 30 .bool,.box pinned Q14,Qp 0 pinned,.vp 3 Q15]]),(15,[Qn [.own 8 8 Q3,.box pinned Q14,Qp 0 pinned,.vp 3 Q15]]),(63,[Qn [.own 8 8 Q3,.box pinned Q14,Qp 0 pinned,.vp 3 Q15]]),(8191,[Qn [.own 8 8 Q3,.box 9 Q17,.box pinned Q14,Qp 9 9]])],[(2,[.x,.x,.x,.x,.x,.x,.x,.v,.v,.p,.q,.q,.q,.x,.x]),(5,[.v,.v,.p,.p,.q,.q,.x]),(6,[.v,.p,.p,.q,.q,.v,.v,.v,.v,.q,.x,.x]),(14,[.p,.p,.p,.q,.q,.v,.v,.a [77,pinned],.x,.x,.x])]⟩
def a3U(s:(Z32×Int×Int×Z35×Z24×Unit)):Option ((Z32×Int×Int×Z35×Z24×Unit) ⊕ Z46):=cond (decide (s.2.2.1<s.2.1)) ((n0s s.1 s.2.2.1).bind fun x2=>(a1y (s.2.2.2.2.1,x2)).bind fun y3=>cond (lim ((a00 s.2.2.2.1)+(a00 y3.1))) (some (.inl (s.1,s.2.1,wrap .i64 (s.2.2.1+1),a02 s.2.2.2.1 y3.1,y3.2.2,()))) none) (some (.inr (s.2.2.2.1,())))
def a2c(x:(Int×Z32)):Option Z35:=(a6Y x.1).bind fun y1=>(y0h a3U (x.2,(x.2.length:Int),0,[],y1,())).bind fun w4=>some w4.1
def b0L:FSem:=⟨[.v QI,.v (.list false Q15)],[.o Q17],a2c⟩
def H43:Hints:=⟨[(122,[.sv 13 (.list false Q15),14,15,.own 6 6 Q17,.box 1012 Q14,Qp 5 1012],[Qe 0 [.own 6 6 Q17]])],[],[]⟩
def a8f(x:LI):Option (Z35×Z4×Int):=(a1W x).bind fun y1=>cond (y1.2.2 != 0) (some ([],[],y1.2.2)) (cond ((decide (0≤y1.2.1))&&(decide (y1.2.1≤(x.length:Int)))) ((a2i (a05 (a01 y1.2.1) (a03 (a00 x) x))).bind fun y2=>(a2c (0,y2.1)).bind fun y3=>some (y3,y2.2,0)) none)
def b2m:FSem:=⟨[.v QB],[.o Q17,.o Q3,.v QI],a8f⟩
def a6G(x:Int):Option Int:=cond ((a07 x 2)==0) (some (wrap .i64 (wrap .u64 (a17 x 2)))) (some (wrap .i64 ((wrap .i64 (0-(wrap .i64 (wrap .u64 (a17 x 2)))))-1)))
def b2n:FSem:=⟨[.v QU],[.v QI],a6G⟩
def a8F(s:(Int×Int×Int×Z12×Z23)):Option ((Int×Int×Int×Z12×Z23) ⊕ ((Z12×Z23) ⊕ Z28)):=(fun(a b:Int)(c:Z12)(d:Z11)=>cond (decide (s.1 > 0)) ((a0I (d,3)).bind fun y7=>(a0I (y7.2,4611686018427387904)).bind fun y8=>(a6G y8.1).bind fun y9=>(a0I (y8.2,4611686018427387904)).bind fun y10=>(a6G y10.1).bind fun y11=>(a2p y10.2).bind fun y12=>cond (y12.1 != 0) (some (.inr (Sum.inr ((y12.1,[],()))))) ((a3R (wrap .i64 (a+y9),wrap .i64 (b+y11))).bind fun y13=>cond (!y13) (some (.inr (Sum.inr ((2,[],()))))) (cond (lim ((a00 c)+1)) (some (.inl (wrap .u64 (s.1-1),wrap .i64 (a+y9),wrap .i64 (b+y11),a02 c ([(wrap .i64 y7.1,wrap .i64 (a+y9),wrap .i64 (b+y11),())]:List Z6),y12.2,()))) none))) (some (.inr (Sum.inl (c,d,()))))) s.2.1 s.2.2.1 s.2.2.2.1 s.2.2.2.2.1
def a7E(x:LI):Option (Z12×Int):=cond (decide ((x.length:Int)<4)) (some ([],3)) (cond ((decide (0≤(wrap .i64 ((x.length:Int)-4))))&&(decide ((wrap .i64 ((x.length:Int)-4))≤(x.length:Int)))) (cond ((decide (0≤((a00 (a03 (a01 (wrap .i64 ((x.length:Int)-4))) x):Nat):Int)))&&(decide (((a00 (a03 (a01 (wrap .i64 ((x.length:Int)-4))) x):Nat):Int)≤(x.length:Int)))) ((a1F (a05 (a01 ((a00 (a03 (a01 (wrap .i64 ((x.length:Int)-4))) x):Nat):Int)) (a03 (a00 x) x))).bind fun y1=>(a0L (y1,4)).bind fun y2=>(a0Y (a03 (a01 (wrap .i64 ((x.length:Int)-4))) x)).bind fun y3=>cond (y2.1 != (wrap .u64 y3)) (some ([],5)) ((a1F (a03 (a01 (wrap .i64 ((x.length:Int)-4))) x)).bind fun y4=>(a0I (y4,wrap .u64 ((a00 (a03 (a01 (wrap .i64 ((x.length:Int)-4))) x):Nat):Int))).bind fun y5=>(a2p y5.2).bind fun y6=>cond (y6.1 != 0) (some ([],y6.1)) ((y0h a8F (y5.1,0,0,[],y6.2,())).bind fun w14=>match w14 with |.inl a15=>((a1N a15.2.1).bind fun y17=>cond (decide (y17.1 > 0)) (some ([],2)) (some (a15.1,0))) |.inr b16=>some (b16.2.1,b16.1)))) none) none)
def b0W:FSem:=⟨[.v QB],[.o Q7,.v QI],a7E⟩
def H91:Hints:=⟨[(4092,[.sv 6 QU,9,10,.own 8 8 Q7,.box 1032 Q10,Qp 5 1032],[Qe 0 [.own 8 8 Q7,.box 1032 Q10,Qp 5 1032],Qr [3,.own 2 2 Q7]])],[],[]⟩
def a8G(s:(LI×Z11)):Option ((LI×Z11) ⊕ ((LI×Unit) ⊕ Z28)):=(fun(a:LI)(b c:Int)=>cond (decide (c<b)) ((n0s a c).bind fun x4=>(show Option (LI×(LI×Z7))from cond (decide (x4<96)) (some (s.1,a,b,c,true,())) (some (s.1,a,b,c,decide (x4 > 111),()))).bind fun z5=>cond z5.2.2.2.2.1 (some (.inr (Sum.inr ((2,[],()))))) (some (.inl (z5.1,z5.2.1,z5.2.2.1,wrap .i64 (z5.2.2.2.1+1),())))) (some (.inr (Sum.inl (s.1,()))))) s.2.1 s.2.2.1 s.2.2.2.1
def a8H(s:(LI×Z3)):Option ((LI×Z3) ⊕ (LI×Unit)):=cond (decide (s.2.1<(s.1.length:Int))) ((n0s s.1 s.2.1).bind fun x9=>(n0s s.1 (wrap .i64 (s.2.1+1))).bind fun x10=>cond (lim ((a00 s.2.2.1)+1)) (some (.inl (s.1,wrap .i64 (s.2.1+2),a02 s.2.2.1 [bits .u8 .or (E0i .u8 (wrap .u8 (x9-96)) 4) (wrap .u8 (x10-96))],()))) none) (some (.inr (s.2.2.1,())))
def a7F(x:LI):Option (Z12×Int):=cond (decide ((wrap .i64 ((wrap .i64 ((x.length:Int)-4))-4))<0)) (some ([],3)) (cond ((decide (0≤(wrap .i64 ((wrap .i64 ((wrap .i64 ((x.length:Int)-4))-4))+4))))&&(decide ((wrap .i64 ((wrap .i64 ((wrap .i64 ((x.length:Int)-4))-4))+4))≤(x.length:Int)))) (cond ((b2s (a05 (a01 (wrap .i64 ((wrap .i64 ((wrap .i64 ((x.length:Int)-4))-4))+4))) (a03 (a00 x) x))) != [75,69,78,68]) (some ([],2)) (cond ((decide (0≤(wrap .i64 ((wrap .i64 ((x.length:Int)-4))-4))))&&(decide ((wrap .i64 ((wrap .i64 ((x.length:Int)-4))-4))≤(x.length:Int)))) ((a1F (a05 (a01 (wrap .i64 ((wrap .i64 ((x.length:Int)-4))-4))) (a03 (a00 x) x))).bind fun y1=>(a0L (y1,4)).bind fun y2=>(show Option (LI×Z7)from cond ((a07 y2.1 2) != 0) (some (x,wrap .i64 ((wrap .i64 ((x.length:Int)-4))-4),y2.1,true,())) (some (x,wrap .i64 ((wrap .i64 ((x.length:Int)-4))-4),y2.1,decide (y2.1 > (wrap .u64 (wrap .i64 ((wrap .i64 ((x.length:Int)-4))-4)))),()))).bind fun z3=>cond z3.2.2.2.1 (some ([],2)) (cond ((decide (0≤z3.2.1))&&(decide (z3.2.1≤(z3.1.length:Int)))) (cond ((decide (0≤(wrap .i64 (z3.2.1-(wrap .i64 z3.2.2.1)))))&&(decide ((wrap .i64 (z3.2.1-(wrap .i64 z3.2.2.1)))≤((a01 z3.2.1:Nat):Int)))) ((y0h a8G (a05 (a01 (wrap .i64 (z3.2.1-(wrap .i64 z3.2.2.1)))) (a03 (a01 z3.2.1) z3.1),a05 (a01 (wrap .i64 (z3.2.1-(wrap .i64 z3.2.2.1)))) (a03 (a01 z3.2.1) z3.1),(a00 (a05 (a01 (wrap .i64 (z3.2.1-(wrap .i64 z3.2.2.1)))) (a03 (a01 z3.2.1) z3.1)):Int),0,())).bind fun w6=>match w6 with |.inl a7=>((y0h a8H (a7.1,0,[],())).bind fun w11=>(a7E w11.1).bind fun y12=>some (y12.1,y12.2)) |.inr b8=>some (b8.2.1,b8.1)) none) none)) none)) none)
def b0X:FSem:=⟨[.v QB],[.o Q7,.v QI],a7F⟩
def H44:Hints:=⟨[(2042,[.sv 6 QB,.sv 44 QB,45,46],[Qe 0 [.sv 6 QB],Qr [3,.own 2 2 Q7]]),(8186,[.sv 6 QB,10,.own 9 9 QV],[Qe 2 [.own 9 9 QV]])],[(126,[Qn [.sv 0 QB,4,.sv 5 QU,.sv 36 .bool]]),(130713,[Qn [.sv 6 QB,.sv 44 QB,45,46,.sv 55 .bool]])],[(20,[.q,.v,.v,.v,.v,.v,.v,.v,.v,.v,.v,.v,.v,.v,.q,.x,.x])]⟩
def a8I(s:(Int×Int×Bool×Z12×Int×Int×Z41)):Option ((Int×Int×Bool×Z12×Int×Int×Z41) ⊕ (Bool×Z41)):=(fun(a b:Int)(c:Bool)(d:Z12)(e f:Int)(g h:Z6)=>cond (decide (f<e)) ((n0s d f).bind fun x1=>cond (x1.1 != a) (some (.inl (a,b,c,d,e,wrap .i64 (f+1),g,h,()))) (cond (decide (x1.2.1 > b)) (some (.inl (a,b,c,d,e,wrap .i64 (f+1),g,h,()))) ((show Option (Int×Int×Bool×Z12×Int×Int×Int×Int×Bool×Bool×Z6×Z41)from cond (!c) (some (a,b,c,d,e,f,x1.2.1,b,decide (x1.2.1 > b),true,g,h,x1,())) (some (a,b,c,d,e,f,x1.2.1,b,decide (x1.2.1 > b),decide (x1.2.1≥h.2.1),g,h,x1,()))).bind fun z2=>cond z2.2.2.2.2.2.2.2.2.2.1 (some (.inl (z2.1,z2.2.1,true,z2.2.2.2.1,z2.2.2.2.2.1,wrap .i64 (z2.2.2.2.2.2.1+1),z2.2.2.2.2.2.2.2.2.2.2.1,z2.2.2.2.2.2.2.2.2.2.2.2.2.1,()))) (some (.inl (z2.1,z2.2.1,z2.2.2.1,z2.2.2.2.1,z2.2.2.2.2.1,wrap .i64 (z2.2.2.2.2.2.1+1),z2.2.2.2.2.2.2.2.2.2.2.1,z2.2.2.2.2.2.2.2.2.2.2.2.1,())))))) (some (.inr (c,g,h,())))) s.1 s.2.1 s.2.2.1 s.2.2.2.1 s.2.2.2.2.1 s.2.2.2.2.2.1 s.2.2.2.2.2.2.1 s.2.2.2.2.2.2.2.1
def a7G(x:(Z12×Int×Int)):Option (Z6×Bool):=(y0h a8I (x.2.1,x.2.2,false,x.1,(x.1.length:Int),0,(0,0,0,()),(0,0,0,()),())).bind fun w3=>some (w3.2.2.1,w3.1)
def b0Y:FSem:=⟨[.v (.list false Q7),.v QI,.v QI],[.v Q7,.v .bool],a7G⟩
def H45:Hints:=⟨[(122,[1,2,.sv 9 .bool,.sv 12 (.list false Q7),13,14,.box 6 Q7,.box 8 Q7,Qp 6 6,Qp 8 8],[Qe 0 [.sv 9 .bool,.box 6 Q7,.box 8 Q7,Qp 6 6,Qp 8 8]])],[(15667,[Qn [1,2,.sv 9 .bool,.sv 12 (.list false Q7),13,14,24,25,.sv 26 .bool,.sv 36 .bool,.box 6 Q7,.box 8 Q7,.box 11 Q7,Qp 6 6,Qp 8 8,Qp 11 11,.ptr 23 11 [.snd,.fst]]])],[]⟩
def a6H(x:(LI×(Int×Int))):Option Z45:=(fun(a:LI)(b:Int)=>(a1W a).bind fun y1=>cond (y1.2.2 != 0) (some ([],y1.2.2)) ((show Option (LI×(Int×Z7))from cond (decide (b<0)) (some (a,b,x.2.2,y1.2.1,true,())) (cond (decide (b≥(y1.1.length:Int))) (some (a,b,x.2.2,y1.2.1,true,())) (cond (decide (x.2.2<0)) (some (a,b,x.2.2,y1.2.1,true,())) (some (a,b,x.2.2,y1.2.1,decide (x.2.2 > 1125899906842624),()))))).bind fun z2=>cond z2.2.2.2.2.1 (some ([],6)) (cond ((decide (0≤z2.2.2.2.1))&&(decide (z2.2.2.2.1≤(z2.1.length:Int)))) ((a7F (a05 (a01 z2.2.2.2.1) (a03 (a00 z2.1) z2.1))).bind fun y3=>cond (y3.2 != 0) (some ([],y3.2)) ((a7G (y3.1,z2.2.1,z2.2.2.1)).bind fun y4=>cond (!y4.2) (some ([],7)) (cond ((decide (0≤z2.2.2.2.1))&&(decide (z2.2.2.2.1≤(z2.1.length:Int)))) ((a2i (a05 (a01 z2.2.2.2.1) (a03 (a00 z2.1) z2.1))).bind fun y5=>(a2c (y4.1.2.2.1,y5.1)).bind fun y6=>some (y6,0)) none))) none))) x.1 x.2.1
def b2o:FSem:=⟨[.v QB,.v QI,.v QI],[.o Q17,.v QI],a6H⟩
def H13:Hints:=⟨[],[(30,[Qn [.sv 0 QB,1,2,9,.sv 40 .bool]])],[]⟩
def a3V(x:(Z31×Z31)):Option Bool:=cond (x.1.1==x.2.1) (cond (x.1.2.1==x.2.2.1) (cond (x.1.2.2.1==x.2.2.2.1) (cond (x.1.2.2.2.1==x.2.2.2.2.1) (cond (x.1.2.2.2.2.1==x.2.2.2.2.2.1) (some ((b2s x.1.2.2.2.2.2.1)==(b2s x.2.2.2.2.2.2.1))) (some false)) (some false)) (some false)) (some false)) (some false)
def a8r:FSem:=⟨[.v Q17,.v Q17],[.v .bool],a3V⟩
def a2O(s:(Z35×Z35×Int×Unit)):Option ((Z35×Z35×Int×Unit) ⊕ Z0):=cond (decide (s.2.2.1<(s.1.length:Int))) ((n0s s.1 s.2.2.1).bind fun x1=>(n0s s.2.1 s.2.2.1).bind fun x2=>(a3V (x1,x2)).bind fun y3=>cond (!y3) (some (.inr (Sum.inr ((false,()))))) (some (.inl (s.1,s.2.1,wrap .i64 (s.2.2.1+1),())))) (some (.inr (Sum.inl ())))
def a2b(x:(Z35×Z35)):Option Bool:=cond ((x.1.length:Int) != (x.2.length:Int)) (some false) ((y0h a2O (x.1,x.2,0,())).bind fun w4=>match w4 with |.inl a5=>some true |.inr b6=>some b6.1)
def a8c:FSem:=⟨[.v (.list false Q17),.v (.list false Q17)],[.v .bool],a2b⟩
def H15:Hints:=⟨[(58,[.sv 0 (.list false Q17),.sv 1 (.list false Q17),5],[Qe 0 [],Qr [.sv 4 .bool]])],[],[(6,[.v,.v,.v,.v,.v,.v,.v,.v,.x,.x])]⟩
def a5k(x:Unit):Option Z65:=some (2,(1,1,()),(0,0,0,()),1,1,1,1,())
def b3j:FSem:=⟨[],[.v Q21],a5k⟩
def a4c(x:Unit):Option Bool:=(a5k ()).bind fun y1=>(a2o (([y1]:List Z65),([[]]:List Z35))).bind fun y2=>(a1W y2.1).bind fun y3=>(a5k ()).bind fun y4=>(a2o (([y4]:List Z65),([([(0,5,0,true,false,[120],())]:List Z31)]:List Z35))).bind fun y5=>(a8f y5.1).bind fun y6=>(a6H (y5.1,0,9)).bind fun y7=>(a6H (y5.1,0,4)).bind fun y8=>cond (y2.2==0) (cond ((y2.1.length:Int)==36) (cond (y3.2.2==0) (cond (y3.2.1==18) (cond ((y3.1.length:Int)==1) (cond (decide (0<(y3.1.length:Int))) ((a5k ()).bind fun y9=>cond (eqT Q21 (a04 y3.1 0 ((0: Int),((0: Int),(0: Int),()),((0: Int),(0: Int),(0: Int),()),(0: Int),(0: Int),(0: Int),(0: Int),())) y9) (cond (y5.2==0) (cond (y6.2.2==0) (cond ((y6.2.1.length:Int)==0) ((a2b (y6.1,([(0,5,0,true,false,[120],())]:List Z31))).bind fun y10=>cond y10 (cond (y7.2==0) ((a2b (y7.1,y6.1)).bind fun y11=>cond y11 (some (y8.2==7)) (some false)) (some false)) (some false)) (some false)) (some false)) (some false)) (some false)) none) (some false)) (some false)) (some false)) (some false)) (some false)
def b2p:FSem:=⟨[],[.v .bool],a4c⟩
def H14:Hints:=⟨[],[],[(4,[.v,.v,.q,.v,.v,.x,.x,.q,.q,.q,.x]),(8,[.x,.x,.x,.x,.x,.x,.x,.x,.x,.x,.x,.x,.x,.x,.x,.x,.x,.x,.x,.x,.x,.q,.q,.q,.v,.x,.x,.x,.x,.x,.x,.x,.x,.x,.x,.x,.x,.x,.x,.x,.x,.q,.q,.q,.x,.x,.x,.x,.x,.x,.x,.q,.q,.x,.x,.x,.x,.x,.x,.x])]⟩
def a5l(x:Int):Option Bool:=cond (decide (x≥0)) (some (decide (x<4))) (some false)
def b0Z:FSem:=⟨[.v QI],[.v .bool],a5l⟩
def a3u(x:Int):Option Bool:=cond (decide (x≥0)) (some (decide (x≤1125899906842624))) (some false)
def b2q:FSem:=⟨[.v QI],[.v .bool],a3u⟩
def a5M(s:Z10):Option (Z10 ⊕ (LI×Unit)):=cond (decide (s.2.1≥0)) (cond (decide ((wrap .u64 (wrap .i64 (8*s.2.1)))<0)) none (cond (lim ((a00 s.2.2.1)+1)) (some (.inl (s.1,wrap .i64 (s.2.1-1),a02 s.2.2.1 [wrap .u8 (E0j .u64 s.1 (wrap .u64 (wrap .i64 (8*s.2.1))))],()))) none)) (some (.inr (s.2.2.1,())))
def a2Y(x:(Int×Int)):Option LI:=(y0h a5M (x.1,wrap .i64 ((y0d (y0e x.2 8) 0)-1),[],())).bind fun w1=>some w1.1
def b4L:FSem:=⟨[.v QU,.v QI],[.o QV],a2Y⟩
def b7G:Hints:=⟨[(58,[.sv 0 QU,6,.own 5 5 QV],[Qe 0 [.own 5 5 QV]])],[],[]⟩
def a3Z(x:Z31):Option (LI×Int):=(show Option (Bool×Z39)from(a5l x.1).bind fun y1=>cond (!y1) (some (true,x,())) ((a3u x.2.1).bind fun y2=>cond (!y2) (some (true,x,())) ((a3u x.2.2.1).bind fun y3=>some (!y3,x,())))).bind fun z4=>cond z4.1 (some ([],1)) (cond (decide ((z4.2.1.2.2.2.2.2.1.length:Int) > 65536)) (some ([],4)) ((show Option (Int×Z39)from cond z4.2.1.2.2.2.1 (some (1,z4.2.1,())) (some (0,z4.2.1,()))).bind fun z5=>(show Option (Int×Z39)from cond z5.2.1.2.2.2.2.1 (some (wrap .i64 (z5.1+2),z5.2.1,())) (some (z5.1,z5.2.1,()))).bind fun z6=>(a2Y (wrap .u64 z6.2.1.2.1,8)).bind fun y7=>cond (lim (2+(a00 y7))) ((a2Y (wrap .u64 z6.2.1.2.2.1,8)).bind fun y8=>cond (lim ((a00 (a02 [wrap .u8 z6.2.1.1,wrap .u8 z6.1] y7))+(a00 y8))) (cond (lim ((a00 (a02 (a02 [wrap .u8 z6.2.1.1,wrap .u8 z6.1] y7) y8))+(a00 z6.2.1.2.2.2.2.2.1))) (some (a02 (a02 (a02 [wrap .u8 z6.2.1.1,wrap .u8 z6.1] y7) y8) z6.2.1.2.2.2.2.2.1,0)) none) none) none))
def b0M:FSem:=⟨[.v Q17],[.o QV,.v QI],a3Z⟩
def H74:Hints:=⟨[],[(6,[Qn [.sv 21 .bool,.vp 1 Q17]]),(31,[Qn [4,.vp 1 Q17]]),(63,[Qn [4,.vp 1 Q17]])],[(11,[.q,.v,.v,.v,.q,.w [5,43,1042],.v,.v,.v,.x,.x,.x])]⟩
def a5z(s:(Z64×Int×Int×Unit)):Option ((Z64×Int×Int×Unit) ⊕ (Int×Unit)):=cond (decide (s.2.2.1<(s.1.length:Int))) ((show Option (Z64×Z7)from(n0s s.1 s.2.2.1).bind fun x1=>cond (decide ((x1.1.length:Int) > 0)) (cond (decide (s.2.1<0)) (some (s.1,s.2.1,s.2.2.1,true,())) ((n0s s.1 s.2.2.1).bind fun x2=>(n0s x2.1 0).bind fun x3=>(n0s s.1 s.2.1).bind fun x4=>(n0s x4.1 0).bind fun x5=>some (s.1,s.2.1,s.2.2.1,decide (x3.2.1<x5.2.1),()))) (some (s.1,s.2.1,s.2.2.1,false,()))).bind fun z6=>cond z6.2.2.2.1 (some (.inl (z6.1,z6.2.2.1,wrap .i64 (z6.2.2.1+1),()))) (some (.inl (z6.1,z6.2.1,wrap .i64 (z6.2.2.1+1),())))) (some (.inr (s.2.1,())))
def a4d(x:Z64):Option Int:=(y0h a5z (x,(-1),0,())).bind fun w7=>some w7.1
def b2r:FSem:=⟨[.v (.list false Q19)],[.v QI],a4d⟩
def H75:Hints:=⟨[(58,[.sv 0 (.list false Q19),3,4],[Qe 0 [3]])],[(932,[Qn [.sv 0 (.list false Q19),3,4,.sv 40 .bool]])],[(5,[.v,.v,.x,.x,.x,.x,.x,.x,.x,.x,.x,.v,.v,.v,.v,.v,.v,.v,.v,.v,.v,.v,.v,.v,.v,.v,.v,.x,.x,.x])]⟩
def a2I(s:Z88):Option (Z88 ⊕ (Z87 ⊕ Z51)):=(n0s s.1 s.2.1).bind fun x2=>cond (decide (s.2.2.1<(x2.length:Int))) ((n0s s.1 s.2.1).bind fun x3=>(n0s x3 s.2.2.1).bind fun x4=>(a3Z x4).bind fun y5=>(show Option (Z44×Int×Int×Bool×Z73)from cond (y5.2 != 0) (some (s.1,s.2.1,s.2.2.1,true,s.2.2.2.1,())) ((n0s s.1 s.2.1).bind fun x6=>(n0s x6 s.2.2.1).bind fun x7=>some (s.1,s.2.1,s.2.2.1,x7.1 != s.2.1,s.2.2.2.1,()))).bind fun z8=>cond z8.2.2.2.1 (some (.inr (Sum.inr ((1,[],()))))) (some (.inl (z8.1,z8.2.1,wrap .i64 (z8.2.2.1+1),z8.2.2.2.2.1,())))) (some (.inr (Sum.inl (s.1,s.2.1,s.2.2.2.1,()))))
def a2J(s:Z87):Option (Z87 ⊕ ((Z44×Z73) ⊕ Z51)):=cond (decide (s.2.1<(s.1.length:Int))) ((y0h a2I (s.1,s.2.1,0,s.2.2.1,())).bind fun w9=>match w9 with |.inl a10=>((n0s a10.1 a10.2.1).bind fun x12=>cond (lim (0+(a00 x12))) (cond ((decide (0≤a10.2.1))&&(decide (a10.2.1<(a10.2.2.1.length:Int)))) (some (.inl (a10.1,wrap .i64 (a10.2.1+1),a06 a10.2.2.1 (a01 a10.2.1) (a02 ([]:List Z31) x12,(a04 a10.2.2.1 (a01 a10.2.1) ([],0,false,())).2),()))) none) none) |.inr b11=>some (.inr (Sum.inr ((b11.1,b11.2.1,()))))) (some (.inr (Sum.inl (s.1,s.2.2.1,()))))
def a2K(s:Z88):Option (Z88 ⊕ (Z87 ⊕ Z51)):=(n0s s.1 s.2.1).bind fun x16=>cond (decide (s.2.2.1<(x16.length:Int))) ((n0s s.1 s.2.1).bind fun x17=>(n0s x17 s.2.2.1).bind fun x18=>(n0s s.1 s.2.1).bind fun x19=>(n0s x19 (wrap .i64 (s.2.2.1-1))).bind fun x20=>cond (decide (x18.2.1<x20.2.1)) (some (.inr (Sum.inr ((12,[],()))))) (some (.inl (s.1,s.2.1,wrap .i64 (s.2.2.1+1),s.2.2.2.1,())))) (some (.inr (Sum.inl (s.1,s.2.1,s.2.2.2.1,()))))
def a2L(s:Z87):Option (Z87 ⊕ (Z73 ⊕ Z51)):=cond (decide (s.2.1<(s.1.length:Int))) ((y0h a2K (s.1,s.2.1,1,s.2.2.1,())).bind fun w21=>match w21 with |.inl a22=>some (.inl (a22.1,wrap .i64 (a22.2.1+1),a22.2.2.1,())) |.inr b23=>some (.inr (Sum.inr ((b23.1,b23.2.1,()))))) (some (.inr (Sum.inl (s.2.2.1,()))))
def a3y(s:(Int×Z64×Z46)):Option ((Int×Z64×Z46) ⊕ Z46):=cond (decide (s.1≥0)) (cond ((decide (0≤s.1))&&(decide (s.1<(s.2.1.length:Int)))) ((n0s ((a04 s.2.1 (a01 s.1) ([],0,false,())).1) 0).bind fun x28=>cond (lim ((a00 s.2.2.1)+1)) (cond ((decide (0≤s.1))&&(decide (s.1<(s.2.1.length:Int)))) (cond (decide (1≤((a00 ((a04 s.2.1 (a01 s.1) ([],0,false,())).1):Nat):Int))) (cond ((decide (0≤s.1))&&(decide (s.1<(s.2.1.length:Int)))) ((a4d (a06 s.2.1 (a01 s.1) (a05 1 (a03 (a00 ((a04 s.2.1 (a01 s.1) ([],0,false,())).1)) ((a04 s.2.1 (a01 s.1) ([],0,false,())).1)),(a04 s.2.1 (a01 s.1) ([],0,false,())).2))).bind fun y29=>some (.inl (y29,a06 s.2.1 (a01 s.1) (a05 1 (a03 (a00 ((a04 s.2.1 (a01 s.1) ([],0,false,())).1)) ((a04 s.2.1 (a01 s.1) ([],0,false,())).1)),(a04 s.2.1 (a01 s.1) ([],0,false,())).2),a02 s.2.2.1 ([x28]:List Z31),()))) none) none) none) none) none) (some (.inr (s.2.2.1,())))
def a4I(x:Z44):Option Z45:=(show Option (Z44×Bool×Unit)from cond (decide ((x.length:Int)<1)) (some (x,true,())) (some (x,decide ((x.length:Int) > 4),()))).bind fun z1=>cond z1.2.1 (some ([],1)) (cond ((decide (0≤(z1.1.length:Int)))&&((decide ((z1.1.length:Int)≤(z1.1.length:Int)))&&(lim (a01 (z1.1.length:Int))))) ((y0h a2J (z1.1,0,a13 (a01 (z1.1.length:Int)) ([],0,false,()),())).bind fun w13=>match w13 with |.inl a14=>((y0h a2L (a14.1,0,a14.2.1,())).bind fun w24=>match w24 with |.inl a25=>((a4d a25.1).bind fun y27=>(y0h a3y (y27,a25.1,[],())).bind fun w30=>some (w30.1,0)) |.inr b26=>some (b26.2.1,b26.1)) |.inr b15=>some (b15.2.1,b15.1)) none)
def a9o:FSem:=⟨[.v (.list false (.list false Q17))],[.o Q17,.v QI],a4I⟩
def H23:Hints:=⟨[(122,[.sv 0 (.list false (.list false Q17)),5,.own 4 4 Q19],[Qe 0 [.sv 0 (.list false (.list false Q17)),.own 4 4 Q19],Qr [3,.own 2 2 Q17]]),(250,[.sv 0 (.list false (.list false Q17)),9,.own 4 4 Q19],[Qe 4 [.own 4 4 Q19],Qr [3,.own 2 2 Q17]]),(1018,[12,.own 4 4 Q19,.own 11 11 Q17],[Qe 8 [.own 11 11 Q17]]),(15650,[.sv 0 (.list false (.list false Q17)),5,6,.own 4 4 Q19],[Qe 2 [.sv 0 (.list false (.list false Q17)),5,.own 4 4 Q19],Qr [3,.own 2 2 Q17]]),(16018,[.sv 0 (.list false (.list false Q17)),9,10,.own 4 4 Q19],[Qe 6 [.sv 0 (.list false (.list false Q17)),9,.own 4 4 Q19],Qr [3,.own 2 2 Q17]])],[(6,[Qn [.sv 0 (.list false (.list false Q17)),.sv 20 .bool]]),(500809,[Qn [.sv 0 (.list false (.list false Q17)),5,6,.sv 63 .bool,.own 4 4 Q19]])],[(20,[.v,.v,.v,.v,.v,.v,.v,.v,.v,.v,.v,.v,.v,.v,.v,.v,.v,.x])]⟩
def a3p(s:(Z35×(Int×(Int×(Int×(Z32×(LI×Unit))))))):Option ((Z35×(Int×(Int×(Int×(Z32×(LI×Unit)))))) ⊕ (Z35×Z53)):=cond (decide (s.2.2.2.1<(s.2.2.2.2.2.1.length:Int))) (cond ((decide (0≤(y0e (wrap .i64 (s.2.2.2.1+252)) (s.2.2.2.2.2.1.length:Int))))&&(decide ((y0e (wrap .i64 (s.2.2.2.1+252)) (s.2.2.2.2.2.1.length:Int))≤(s.2.2.2.2.2.1.length:Int)))) (cond ((decide (0≤s.2.2.2.1))&&(decide (s.2.2.2.1≤((a01 (y0e (wrap .i64 (s.2.2.2.1+252)) (s.2.2.2.2.2.1.length:Int)):Nat):Int)))) (cond (lim (0+(a00 (a03 ((a01 (y0e (wrap .i64 (s.2.2.2.1+252)) (s.2.2.2.2.2.1.length:Int)))-(a01 s.2.2.2.1)) (a05 (a01 s.2.2.2.1) s.2.2.2.2.2.1))))) (cond (lim ((a00 s.2.2.2.2.1)+1)) (some (.inl (s.1,s.2.1,s.2.2.1,wrap .i64 (s.2.2.2.1+252),a02 s.2.2.2.2.1 ([(wrap .i64 (s.2.1+(s.2.2.2.2.1.length:Int)),s.2.2.2.1==0,(y0e (wrap .i64 (s.2.2.2.1+252)) (s.2.2.2.2.2.1.length:Int))==(s.2.2.2.2.2.1.length:Int),false,a02 [] (a03 ((a01 (y0e (wrap .i64 (s.2.2.2.1+252)) (s.2.2.2.2.2.1.length:Int)))-(a01 s.2.2.2.1)) (a05 (a01 s.2.2.2.1) s.2.2.2.2.2.1)),())]:List Z30),s.2.2.2.2.2.1,()))) none) none) none) none) (some (.inr (s.1,s.2.1,s.2.2.1,s.2.2.2.2.1,())))
def a3q(s:(Z35×Z53)):Option ((Z35×Z53) ⊕ (Z48 ⊕ Z48)):=cond (decide (s.2.2.1<(s.1.length:Int))) ((n0s s.1 s.2.2.1).bind fun x2=>(a3Z x2).bind fun y3=>cond (y3.2 != 0) (some (.inr (Sum.inr ((y3.2,[],()))))) ((y0h a3p (s.1,s.2.1,s.2.2.1,0,s.2.2.2.1,y3.1,())).bind fun w4=>some (.inl (w4.1,w4.2.1,wrap .i64 (w4.2.2.1+1),w4.2.2.2.1,())))) (some (.inr (Sum.inl (s.2.1,s.2.2.2.1,()))))
def a4n(x:Z45):Option Z37:=(show Option Z58 from cond (decide (x.2<0)) (some (x.1,x.2,true,())) (some (x.1,x.2,decide (x.2 > 2147483647),()))).bind fun z1=>cond z1.2.2.1 (some ([],1)) ((y0h a3q (z1.1,z1.2.1,0,[],())).bind fun w5=>match w5 with |.inl a6=>((show Option (Bool×Z40)from cond (decide ((a6.2.1.length:Int) > 0)) (some (decide ((wrap .i64 ((wrap .i64 (a6.1+(a6.2.1.length:Int)))-1)) > 2147483647),a6.2.1,())) (some (false,a6.2.1,()))).bind fun z8=>cond z8.1 (some ([],4)) (some (z8.2.1,0))) |.inr b7=>some (b7.2.1,b7.1))
def a8J:FSem:=⟨[.v (.list false Q17),.v QI],[.o Q15,.v QI],a4n⟩
def H24:Hints:=⟨[(122,[.sv 0 (.list false Q17),1,7,.own 6 6 Q15],[Qe 0 [1,.own 6 6 Q15],Qr [5,.own 4 4 Q15]]),(31310,[.sv 0 (.list false Q17),1,7,10,.own 6 6 Q15,.own 8 8 QV],[Qe 2 [.sv 0 (.list false Q17),1,7,.own 6 6 Q15]])],[(6,[Qn [.sv 0 (.list false Q17),1,.sv 17 .bool]]),(62,[Qn [.sv 76 .bool,.own 6 6 Q15]])],[]⟩
def a2Z(x:(Int×Bool)):Option Bool:=cond (decide (x.1≥1)) (cond (decide (x.1≤252)) (some true) (cond x.2 (some (decide (x.1≤255))) (some false))) (some false)
def b1a:FSem:=⟨[.v QI,.v .bool],[.v .bool],a2Z⟩
def a5N(x:Z30):Option Int:=(show Option Z42 from cond x.2.1 (some (1,x,())) (some (0,x,()))).bind fun z1=>(show Option (Int×Unit)from cond z1.2.1.2.2.1 (some (wrap .i64 (z1.1+2),())) (some (z1.1,()))).bind fun z2=>some z2.1
def b2t:FSem:=⟨[.v Q15],[.v QI],a5N⟩
def b7H:Hints:=⟨[],[(7,[Qn [3,.vp 1 Q15]]),(15,[Qn [3]])],[]⟩
def a3z(s:Z21):Option (Z21 ⊕ Z11):=cond (decide (s.2.2.2.1<8)) (cond ((bits .u32 .and s.2.1 1)==1) (some (.inl (s.1,bits .u32 .xor (E0j .u32 s.2.1 1) 3988292384,s.2.2.1,wrap .i64 (s.2.2.2.1+1),()))) (some (.inl (s.1,E0j .u32 s.2.1 1,s.2.2.1,wrap .i64 (s.2.2.2.1+1),())))) (some (.inr (s.1,s.2.1,s.2.2.1,())))
def a3A(s:Z11):Option (Z11 ⊕ (Int×Unit)):=cond (decide (s.2.2.1<(s.1.length:Int))) ((n0s s.1 s.2.2.1).bind fun x1=>(y0h a3z (s.1,bits .u32 .xor s.2.1 (wrap .u32 x1),s.2.2.1,0,())).bind fun w2=>some (.inl (w2.1,w2.2.1,wrap .i64 (w2.2.2.1+1),()))) (some (.inr (s.2.1,())))
def a2j(x:LI):Option Int:=(y0h a3A (x,4294967295,0,())).bind fun w3=>some (bits .u32 .xor (IntKind.max .u32) w3.1)
def a9p:FSem:=⟨[.v QB],[.v (.int .u32)],a2j⟩
def b7I:Hints:=⟨[(58,[.sv 0 QB,.sv 3 (.int .u32),4],[Qe 0 [.sv 3 (.int .u32)]]),(7462,[.sv 0 QB,.sv 3 (.int .u32),4,5],[Qe 2 [.sv 0 QB,.sv 3 (.int .u32),4]])],[],[]⟩
def a4o(x:Z30):Option (LI×Int):=(show Option Z43 from cond (decide (x.1<0)) (some (true,x,())) (cond (decide (x.1 > 2147483647)) (some (true,x,())) ((a2Z ((x.2.2.2.2.1.length:Int),x.2.2.2.1)).bind fun y1=>some (!y1,x,())))).bind fun z2=>cond z2.1 (some ([],1)) ((a5N z2.2.1).bind fun y3=>(show Option Z42 from cond z2.2.1.2.2.2.1 (some (wrap .i64 (y3+4),z2.2.1,())) (some (y3,z2.2.1,()))).bind fun z4=>(a2Y (wrap .u64 z4.2.1.1,4)).bind fun y5=>cond (lim (3+(a00 y5))) (cond (lim ((a00 (a02 [75,80,wrap .u8 z4.1] y5))+1)) (cond (lim ((a00 (a02 (a02 [75,80,wrap .u8 z4.1] y5) ([wrap .u8 (z4.2.1.2.2.2.2.1.length:Int)]:List Int)))+(a00 z4.2.1.2.2.2.2.1))) ((a2j (a02 (a02 (a02 [75,80,wrap .u8 z4.1] y5) ([wrap .u8 (z4.2.1.2.2.2.2.1.length:Int)]:List Int)) z4.2.1.2.2.2.2.1)).bind fun y6=>(a2Y (wrap .u64 y6,4)).bind fun y7=>cond (lim ((a00 (a02 (a02 (a02 [75,80,wrap .u8 z4.1] y5) ([wrap .u8 (z4.2.1.2.2.2.2.1.length:Int)]:List Int)) z4.2.1.2.2.2.2.1))+(a00 y7))) (some (a02 (a02 (a02 (a02 [75,80,wrap .u8 z4.1] y5) ([wrap .u8 (z4.2.1.2.2.2.2.1.length:Int)]:List Int)) z4.2.1.2.2.2.2.1) y7,0)) none) none) none) none)
def a8K:FSem:=⟨[.v Q15],[.o QV,.v QI],a4o⟩
def H76:Hints:=⟨[],[(6,[Qn [.sv 22 .bool,.vp 1 Q15]]),(15,[Qn [4,.vp 1 Q15]])],[(7,[.q,.v,.v,.v,.v,.q,.w [5,42,43],.v,.v,.x,.x])]⟩
def a3L(s:Z62):Option (Z62 ⊕ (Z32×Z3)):=(n0s s.1 s.2.1).bind fun x4=>cond (decide (s.2.2.1<(x4.2.2.2.2.1.length:Int))) ((show Option Z62 from cond (decide ((s.2.2.2.1.length:Int)≤(wrap .i64 (s.2.2.1+2)))) (cond (lim ((a00 s.2.2.2.1)+1)) (some (s.1,s.2.1,s.2.2.1,a02 s.2.2.2.1 [0],())) none) (some (s.1,s.2.1,s.2.2.1,s.2.2.2.1,()))).bind fun z5=>cond ((decide (0≤(wrap .i64 (z5.2.2.1+2))))&&(decide ((wrap .i64 (z5.2.2.1+2))<(z5.2.2.2.1.length:Int)))) ((n0s z5.1 z5.2.1).bind fun x6=>(n0s x6.2.2.2.2.1 z5.2.2.1).bind fun x7=>cond ((decide (0≤(wrap .i64 (z5.2.2.1+2))))&&(decide ((wrap .i64 (z5.2.2.1+2))<(z5.2.2.2.1.length:Int)))) (some (.inl (z5.1,z5.2.1,wrap .i64 (z5.2.2.1+1),a06 z5.2.2.2.1 (a01 (wrap .i64 (z5.2.2.1+2))) (bits .u8 .xor (a04 z5.2.2.2.1 (a01 (wrap .i64 (z5.2.2.1+2))) 0) x7),()))) none) none) (some (.inr (s.1,s.2.1,s.2.2.2.1,())))
def a4J(s:(Z32×Z3)):Option ((Z32×Z3) ⊕ (LI×Unit)):=cond (decide (s.2.1<(s.1.length:Int))) (cond (decide (0<(s.2.2.1.length:Int))) ((n0s s.1 s.2.1).bind fun x1=>(a5N x1).bind fun y2=>cond (decide (1<(s.2.2.1.length:Int))) ((n0s s.1 s.2.1).bind fun x3=>cond (decide (0<(s.2.2.1.length:Int))) (cond (decide (1<((a00 (a06 s.2.2.1 0 (bits .u8 .xor (a04 s.2.2.1 0 0) (wrap .u8 y2))):Nat):Int))) ((y0h a3L (s.1,s.2.1,0,a06 (a06 s.2.2.1 0 (bits .u8 .xor (a04 s.2.2.1 0 0) (wrap .u8 y2))) 1 (bits .u8 .xor (a04 s.2.2.1 1 0) (wrap .u8 (x3.2.2.2.2.1.length:Int))),())).bind fun w8=>some (.inl (w8.1,wrap .i64 (w8.2.1+1),w8.2.2.1,()))) none) none) none) none) (some (.inr (s.2.2.1,())))
def a5O(x:Z32):Option LI:=(y0h a4J (x,0,[0,0],())).bind fun w9=>some w9.1
def b2u:FSem:=⟨[.v (.list false Q15)],[.o QV],a5O⟩
def H77:Hints:=⟨[(58,[.sv 0 (.list false Q15),4,.own 3 3 QV],[Qe 0 [.own 3 3 QV]]),(7462,[.sv 0 (.list false Q15),4,5,.own 3 3 QV],[Qe 2 [.sv 0 (.list false Q15),4,.own 3 3 QV]])],[(119396,[Qn [.sv 0 (.list false Q15),4,5,.own 3 3 QV]])],[(5,[.q,.h,.q,.q,.q,.v,.v,.v,.v,.v,.v,.v,.q,.q,.q,.v,.v,.v,.v,.v,.v,.v,.v,.q,.k [0,3],.x,.x]),(11,[.q,.v,.v,.q,.v,.v,.q,.q,.v,.v,.v,.v,.v,.v,.v,.v,.v,.x,.x])]⟩
def a2s(s:Z50):Option (Z50 ⊕ (Z40 ⊕ Z48)):=cond (decide (s.2.1<(s.1.length:Int))) ((n0s s.1 s.2.1).bind fun x1=>(a4o x1).bind fun y2=>(show Option (Z32×Int×Bool×Unit)from cond (y2.2 != 0) (some (s.1,s.2.1,true,())) ((n0s s.1 s.2.1).bind fun x3=>cond x3.2.2.2.1 (some (s.1,s.2.1,true,())) (cond (decide (s.2.1 > 0)) ((n0s s.1 s.2.1).bind fun x4=>(n0s s.1 (wrap .i64 (s.2.1-1))).bind fun x5=>some (s.1,s.2.1,x4.1 != (wrap .i64 (x5.1+1)),())) (some (s.1,s.2.1,false,()))))).bind fun z6=>cond z6.2.2.1 (some (.inr (Sum.inr ((1,[],()))))) (some (.inl (z6.1,wrap .i64 (z6.2.1+1),())))) (some (.inr (Sum.inl (s.1,()))))
def a2t(s:(Z32×Int×Z80)):Option ((Z32×Int×Z80) ⊕ (Z32×Z79)):=cond (decide (s.2.2.2.1<(s.2.2.1.length:Int))) ((n0s s.2.2.1 s.2.2.2.1).bind fun x10=>cond (lim (0+(a00 x10.2.2.2.2.1))) (cond (lim ((a00 s.2.2.2.2.1)+1)) (some (.inl (s.1,s.2.1,s.2.2.1,wrap .i64 (s.2.2.2.1+1),a02 s.2.2.2.2.1 ([(x10.1,x10.2.1,x10.2.2.1,x10.2.2.2.1,a02 [] x10.2.2.2.2.1,x10.2.2.2.2.2)]:List Z30),()))) none) none) (some (.inr (s.1,s.2.1,s.2.2.1,s.2.2.2.2.1,())))
def a4u(s:Z80):Option (Z80 ⊕ Z40):=cond (decide (s.2.1<(s.1.length:Int))) (cond ((decide (0≤(y0e (wrap .i64 (s.2.1+8)) (s.1.length:Int))))&&(decide ((y0e (wrap .i64 (s.2.1+8)) (s.1.length:Int))≤(s.1.length:Int)))) (cond ((decide (0≤s.2.1))&&(decide (s.2.1≤((a01 (y0e (wrap .i64 (s.2.1+8)) (s.1.length:Int)):Nat):Int)))) ((y0h a2t (s.1,s.2.1,a05 (a01 s.2.1) (a03 (a01 (y0e (wrap .i64 (s.2.1+8)) (s.1.length:Int))) s.1),0,s.2.2.1,())).bind fun w11=>(n0s w11.2.2.1 0).bind fun x12=>(a5O w11.2.2.1).bind fun y13=>cond (lim (1+(a00 y13))) (cond (lim ((a00 w11.2.2.2.1)+1)) (some (.inl (w11.1,wrap .i64 (w11.2.1+8),a02 w11.2.2.2.1 ([(x12.1,false,false,true,a02 ([wrap .u8 (w11.2.2.1.length:Int)]:List Int) y13,())]:List Z30),()))) none) none) none) none) (some (.inr (s.2.2.1,())))
def a4p(x:Z32):Option Z37:=(y0h a2s (x,0,())).bind fun w7=>match w7 with |.inl a8=>((y0h a4u (a8.1,0,[],())).bind fun w14=>some (w14.1,0)) |.inr b9=>some (b9.2.1,b9.1)
def a8L:FSem:=⟨[.v (.list false Q15)],[.o Q15,.v QI],a4p⟩
def H25:Hints:=⟨[(26,[.sv 0 (.list false Q15),4],[Qe 0 [.sv 0 (.list false Q15)],Qr [3,.own 2 2 Q15]]),(122,[.sv 0 (.list false Q15),8,.own 7 7 Q15],[Qe 2 [.own 7 7 Q15]]),(31306,[.sv 0 (.list false Q15),8,.sv 9 (.list false Q15),10,.own 7 7 Q15],[Qe 4 [.sv 0 (.list false Q15),8,.sv 9 (.list false Q15),.own 7 7 Q15]])],[(841,[Qn [.sv 0 (.list false Q15),4,.sv 53 .bool]])],[(5,[.x,.x,.x,.v,.v,.x,.x,.x,.x,.x,.x,.x,.x,.v,.v,.v,.v,.v,.v,.v,.v,.v,.v,.v,.v,.x,.x,.x]),(18,[.h,.v,.v,.v,.v,.v,.v,.v,.q,.v,.q,.w [95,98,1097],.f,.q,.x,.x])]⟩
def a4K(s:(Int×Int×Z69×Z4×Z44×Z46)):Option ((Int×Int×Z69×Z4×Z44×Z46) ⊕ (Z69×Z4×Z44×Unit)):=cond (decide (s.2.1<s.1)) (cond ((decide (0≤s.2.1))&&(decide (s.2.1<(s.2.2.2.2.2.1.length:Int)))) ((show Option (Int×Int×Bool×Z69×Z4×Z44×Z35×Z39)from cond (decide (((a04 s.2.2.2.2.2.1 (a01 s.2.1) (0,0,0,false,false,[],())).1)≥0)) (some (s.1,s.2.1,decide (((a04 s.2.2.2.2.2.1 (a01 s.2.1) (0,0,0,false,false,[],())).1)<(s.2.2.2.2.1.length:Int)),s.2.2.1,s.2.2.2.1,s.2.2.2.2.1,s.2.2.2.2.2.1,a04 s.2.2.2.2.2.1 (a01 s.2.1) (0,0,0,false,false,[],()),())) (some (s.1,s.2.1,false,s.2.2.1,s.2.2.2.1,s.2.2.2.2.1,s.2.2.2.2.2.1,a04 s.2.2.2.2.2.1 (a01 s.2.1) (0,0,0,false,false,[],()),()))).bind fun z4=>cond z4.2.2.1 (cond ((decide (0≤z4.2.2.2.2.2.2.2.1.1))&&(decide (z4.2.2.2.2.2.2.2.1.1<(z4.2.2.2.2.2.1.length:Int)))) (cond (lim ((a00 (a04 z4.2.2.2.2.2.1 (a01 z4.2.2.2.2.2.2.2.1.1) []))+1)) (cond ((decide (0≤z4.2.2.2.2.2.2.2.1.1))&&(decide (z4.2.2.2.2.2.2.2.1.1<((a00 (a06 z4.2.2.2.2.2.1 (a01 z4.2.2.2.2.2.2.2.1.1) (a02 (a04 z4.2.2.2.2.2.1 (a01 z4.2.2.2.2.2.2.2.1.1) []) ([z4.2.2.2.2.2.2.2.1]:List Z31))):Nat):Int)))) (cond (((a01 z4.2.2.2.2.2.2.2.1.1)==(a01 z4.2.2.2.2.2.2.2.1.1))&&true) (cond (((a01 z4.2.2.2.2.2.2.2.1.1)==(a01 z4.2.2.2.2.2.2.2.1.1))&&true) (some (.inl (z4.1,wrap .i64 (z4.2.1+1),z4.2.2.2.1,z4.2.2.2.2.1,a06 z4.2.2.2.2.2.1 (a01 z4.2.2.2.2.2.2.2.1.1) (a02 (a04 z4.2.2.2.2.2.1 (a01 z4.2.2.2.2.2.2.2.1.1) []) ([z4.2.2.2.2.2.2.2.1]:List Z31)),z4.2.2.2.2.2.2.1,()))) none) none) none) none) none) (some (.inl (z4.1,wrap .i64 (z4.2.1+1),z4.2.2.2.1,z4.2.2.2.2.1,z4.2.2.2.2.2.1,z4.2.2.2.2.2.2.1,())))) none) (some (.inr (s.2.2.1,s.2.2.2.1,s.2.2.2.2.1,())))
def a5P(x:LI):Option (Z69×Z44×Z4×Int):=(a1W x).bind fun y1=>cond (y1.2.2 != 0) (some ([],[],[],y1.2.2)) (cond ((decide (0≤y1.2.1))&&(decide (y1.2.1≤(x.length:Int)))) ((a2i (a05 (a01 y1.2.1) (a03 (a00 x) x))).bind fun y2=>cond ((decide (0≤(y1.1.length:Int)))&&((decide ((y1.1.length:Int)≤(y1.1.length:Int)))&&(lim (a01 (y1.1.length:Int))))) ((a2c (0,y2.1)).bind fun y3=>(y0h a4K ((y3.length:Int),0,y1.1,y2.2,a13 (a01 (y1.1.length:Int)) [],y3,())).bind fun w5=>some (w5.1,w5.2.2.1,w5.2.1,0)) none) none)
def b2v:FSem:=⟨[.v QB],[.o Q21,.o (.list true Q17),.o Q3,.v QI],a5P⟩
def H31:Hints:=⟨[(506,[35,36,.own 6 6 Q21,.own 10 10 Q3,.own 11 11 (.list true Q17),.own 34 1034 Q17],[Qe 0 [.own 6 6 Q21,.own 10 10 Q3,.own 11 11 (.list true Q17)]])],[(32409,[Qn [35,36,.sv 49 .bool,.own 6 6 Q21,.own 10 10 Q3,.own 11 11 (.list true Q17),.own 34 1034 Q17,.box 13 Q17,Qp 13 13]])],[(10,[.s,.t,.t,.q,.q,.q,.q,.q,.q,.q,.b [11,59,60],.x,.x])]⟩
def a3r(s:(Z69×Z69×Int×Unit)):Option ((Z69×Z69×Int×Unit) ⊕ Z0):=cond (decide (s.2.2.1<(s.1.length:Int))) ((n0s s.1 s.2.2.1).bind fun x1=>(n0s s.2.1 s.2.2.1).bind fun x2=>cond (!(eqT Q21 x1 x2)) (some (.inr (Sum.inr ((false,()))))) (some (.inl (s.1,s.2.1,wrap .i64 (s.2.2.1+1),())))) (some (.inr (Sum.inl ())))
def a4q(x:(Z69×Z69)):Option Bool:=cond ((x.1.length:Int) != (x.2.length:Int)) (some false) ((y0h a3r (x.1,x.2,0,())).bind fun w3=>match w3 with |.inl a4=>some true |.inr b5=>some b5.1)
def a8M:FSem:=⟨[.v (.list false Q21),.v (.list false Q21)],[.v .bool],a4q⟩
def H32:Hints:=⟨[(58,[.sv 0 (.list false Q21),.sv 1 (.list false Q21),5],[Qe 0 [],Qr [.sv 4 .bool]])],[],[(6,[.v,.v,.v,.v,.v,.v,.v,.v,.x])]⟩
def a3B(s:(Z44×Z44×Int×Unit)):Option ((Z44×Z44×Int×Unit) ⊕ Z0):=cond (decide (s.2.2.1<(s.1.length:Int))) ((n0s s.1 s.2.2.1).bind fun x1=>(n0s s.2.1 s.2.2.1).bind fun x2=>(a2b (x1,x2)).bind fun y3=>cond (!y3) (some (.inr (Sum.inr ((false,()))))) (some (.inl (s.1,s.2.1,wrap .i64 (s.2.2.1+1),())))) (some (.inr (Sum.inl ())))
def a4L(x:(Z44×Z44)):Option Bool:=cond ((x.1.length:Int) != (x.2.length:Int)) (some false) ((y0h a3B (x.1,x.2,0,())).bind fun w4=>match w4 with |.inl a5=>some true |.inr b6=>some b6.1)
def a9q:FSem:=⟨[.v (.list false (.list false Q17)),.v (.list false (.list false Q17))],[.v .bool],a4L⟩
def H33:Hints:=⟨[(58,[.sv 0 (.list false (.list false Q17)),.sv 1 (.list false (.list false Q17)),5],[Qe 0 [],Qr [.sv 4 .bool]])],[],[(6,[.v,.v,.v,.v,.v,.v,.v,.v,.x,.x])]⟩
def a5m(s:Z11):Option (Z11 ⊕ (Int×Unit)):=cond (decide (s.2.2.1<(s.1.length:Int))) ((n0s s.1 s.2.2.1).bind fun x1=>some (.inl (s.1,bits .u64 .or (E0i .u64 s.2.1 8) (wrap .u64 x1),wrap .i64 (s.2.2.1+1),()))) (some (.inr (s.2.1,())))
def a5Q(x:LI):Option Int:=(y0h a5m (x,0,0,())).bind fun w2=>some w2.1
def b3Q:FSem:=⟨[.v QB],[.v QU],a5Q⟩
def b7J:Hints:=⟨[(58,[.sv 0 QB,.sv 3 QU,4],[Qe 0 [.sv 3 QU]])],[],[]⟩
def a1f(x:(LI×Int)):Option (Z30×Int×Int):=(show Option (LI×(Int×Z43))from cond (decide (x.2<0)) (some (x.1,x.2,true,(0,false,false,false,[],()),())) (some (x.1,x.2,decide (x.2 > (x.1.length:Int)),(0,false,false,false,[],()),()))).bind fun z1=>cond z1.2.2.1 (some ((0,false,false,false,[],()),0,6)) (cond ((decide (0≤z1.2.1))&&(decide (z1.2.1≤(z1.1.length:Int)))) (cond (decide ((a00 (a05 (a01 z1.2.1) (a03 (a00 z1.1) z1.1)):Int)<2)) (some ((0,false,false,false,[],()),0,3)) ((show Option (LI×Z43)from(n0s (a05 (a01 z1.2.1) (a03 (a00 z1.1) z1.1)) 0).bind fun x2=>cond (x2 != 75) (some (a05 (a01 z1.2.1) (a03 (a00 z1.1) z1.1),true,z1.2.2.2.1,())) ((n0s (a05 (a01 z1.2.1) (a03 (a00 z1.1) z1.1)) 1).bind fun x3=>some (a05 (a01 z1.2.1) (a03 (a00 z1.1) z1.1),x3 != 80,z1.2.2.2.1,()))).bind fun z4=>cond z4.2.1 (some ((0,false,false,false,[],()),0,2)) (cond (decide ((z4.1.length:Int)<8)) (some ((0,false,false,false,[],()),0,3)) (cond (decide (7≤(z4.1.length:Int))) ((a5Q (a05 3 (a03 7 z4.1))).bind fun y5=>(n0s z4.1 2).bind fun x6=>(n0s z4.1 2).bind fun x7=>(n0s z4.1 2).bind fun x8=>(n0s z4.1 7).bind fun x9=>(show Option (LI×(Int×Bool×Z30×Z34))from(n0s z4.1 2).bind fun x10=>cond (decide (x10 > 7)) (some (z4.1,wrap .i64 x9,true,z4.2.2.1,(wrap .i64 y5,(bits .u8 .and x6 1)==1,(bits .u8 .and x7 2)==2,(bits .u8 .and x8 4)==4,[],()),())) (cond (decide ((wrap .i64 y5) > 2147483647)) (some (z4.1,wrap .i64 x9,true,z4.2.2.1,(wrap .i64 y5,(bits .u8 .and x6 1)==1,(bits .u8 .and x7 2)==2,(bits .u8 .and x8 4)==4,[],()),())) ((a2Z (wrap .i64 x9,(bits .u8 .and x8 4)==4)).bind fun y11=>some (z4.1,wrap .i64 x9,!y11,z4.2.2.1,(wrap .i64 y5,(bits .u8 .and x6 1)==1,(bits .u8 .and x7 2)==2,(bits .u8 .and x8 4)==4,[],()),())))).bind fun z12=>cond z12.2.2.1 (some ((0,false,false,false,[],()),0,2)) (cond (decide ((z12.1.length:Int)<(wrap .i64 (z12.2.1+12)))) (some ((0,false,false,false,[],()),0,3)) (cond ((decide (0≤(wrap .i64 (z12.2.1+8))))&&(decide ((wrap .i64 (z12.2.1+8))≤(z12.1.length:Int)))) (cond (decide (8≤((a01 (wrap .i64 (z12.2.1+8)):Nat):Int))) (cond (lim (0+(a00 (a05 8 (a03 (a01 (wrap .i64 (z12.2.1+8))) z12.1))))) (cond ((decide (0≤(wrap .i64 (z12.2.1+12))))&&(decide ((wrap .i64 (z12.2.1+12))≤(z12.1.length:Int)))) (cond ((decide (0≤(wrap .i64 (z12.2.1+8))))&&(decide ((wrap .i64 (z12.2.1+8))≤((a01 (wrap .i64 (z12.2.1+12)):Nat):Int)))) ((a5Q (a05 (a01 (wrap .i64 (z12.2.1+8))) (a03 (a01 (wrap .i64 (z12.2.1+12))) z12.1))).bind fun y13=>cond ((decide (0≤(wrap .i64 (z12.2.1+8))))&&(decide ((wrap .i64 (z12.2.1+8))≤(z12.1.length:Int)))) ((a2j (a03 (a01 (wrap .i64 (z12.2.1+8))) z12.1)).bind fun y14=>cond (y13 != (wrap .u64 y14)) (some ((0,false,false,false,[],()),0,5)) (some ((z12.2.2.2.2.1.1,z12.2.2.2.2.1.2.1,z12.2.2.2.2.1.2.2.1,z12.2.2.2.2.1.2.2.2.1,a02 [] (a05 8 (a03 (a01 (wrap .i64 (z12.2.1+8))) z12.1)),z12.2.2.2.2.1.2.2.2.2.2),wrap .i64 (z12.2.1+12),0))) none) none) none) none) none) none))) none)))) none)
def a9r:FSem:=⟨[.v QB,.v QI],[.v Q15,.v QI,.v QI],a1f⟩
def b7K:Hints:=⟨[],[(6,[Qn [.sv 0 QB,1,.sv 17 .bool,.box 4 Q15,Qp 4 4]]),(243,[Qn [.sv 7 QB,.sv 27 .bool,.box 4 Q15,Qp 4 4]]),(254,[Qn [.sv 7 QB,9,.sv 83 .bool,.box 4 Q15,.box 8 Q15,Qp 4 4,Qp 8 8]])],[(10,[.v,.v,.v,.v,.v,.v,.v,.v,.v,.v,.v,.v,.v,.v,.v,.v,.v,.v,.v,.v,.q,.x]),(17,[.v,.v,.v,.v,.v,.v,.v,.v,.v,.v,.v,.x,.x,.x])]⟩
def a2M(s:Z63):Option (Z63 ⊕ Z48):=cond (decide (s.2.2.1<(s.1.length:Int))) ((a1f (s.1,s.2.2.1)).bind fun y1=>cond (y1.2.2 != 0) (some (.inl (s.1,wrap .i64 (s.2.1+1),wrap .i64 (s.2.2.1+1),s.2.2.2.1,()))) (cond (lim ((a00 s.2.2.2.1)+1)) (some (.inl (s.1,s.2.1,wrap .i64 (s.2.2.1+y1.2.1),a02 s.2.2.2.1 ([y1.1]:List Z30),()))) none)) (some (.inr (s.2.1,s.2.2.2.1,())))
def a4M(x:LI):Option Z37:=(y0h a2M (x,0,0,[],())).bind fun w2=>some (w2.2.1,w2.1)
def a9s:FSem:=⟨[.v QB],[.o Q15,.v QI],a4M⟩
def H83:Hints:=⟨[(122,[.sv 0 QB,5,6,.own 4 4 Q15],[Qe 0 [5,.own 4 4 Q15]])],[],[]⟩
def a4N(x:(Z30×Z30)):Option Bool:=cond (x.1.1==x.2.1) (cond (x.1.2.1==x.2.2.1) (cond (x.1.2.2.1==x.2.2.2.1) (cond (x.1.2.2.2.1==x.2.2.2.2.1) (some ((b2s x.1.2.2.2.2.1)==(b2s x.2.2.2.2.2.1))) (some false)) (some false)) (some false)) (some false)
def a9t:FSem:=⟨[.v Q15,.v Q15],[.v .bool],a4N⟩
def a1A(s:(Z32×Z50)):Option ((Z32×Z50) ⊕ Z0):=cond (decide (s.2.2.1<(s.1.length:Int))) ((n0s s.1 s.2.2.1).bind fun x1=>(n0s s.2.1 s.2.2.1).bind fun x2=>(a4N (x1,x2)).bind fun y3=>cond (!y3) (some (.inr (Sum.inr ((false,()))))) (some (.inl (s.1,s.2.1,wrap .i64 (s.2.2.1+1),())))) (some (.inr (Sum.inl ())))
def a4r(x:(Z32×Z32)):Option Bool:=cond ((x.1.length:Int) != (x.2.length:Int)) (some false) ((y0h a1A (x.1,x.2,0,())).bind fun w4=>match w4 with |.inl a5=>some true |.inr b6=>some b6.1)
def a8N:FSem:=⟨[.v (.list false Q15),.v (.list false Q15)],[.v .bool],a4r⟩
def H84:Hints:=⟨[(58,[.sv 0 (.list false Q15),.sv 1 (.list false Q15),5],[Qe 0 [],Qr [.sv 4 .bool]])],[],[(6,[.v,.v,.v,.v,.v,.v,.v,.v,.x,.x])]⟩
def a3c(x:(LI×Z32)):Option Bool:=(a4M x.1).bind fun y1=>(a4r (y1.1,x.2)).bind fun y2=>some y2
def a7x:FSem:=⟨[.v QB,.v (.list false Q15)],[.v .bool],a3c⟩
def a2u(s:(Int×Z69×Z44×Int×Z32×Z19)):Option ((Int×Z69×Z44×Int×Z32×Z19) ⊕ (Int×Z69×Z44×Int×Z62)):=cond (decide (s.2.2.2.2.2.2.2.1<s.2.2.2.2.2.1)) ((n0s s.2.2.2.2.1 s.2.2.2.2.2.2.2.1).bind fun x12=>some (.inl (s.1,s.2.1,s.2.2.1,s.2.2.2.1,s.2.2.2.2.1,s.2.2.2.2.2.1,wrap .i64 ((wrap .i64 (s.2.2.2.2.2.2.1+12))+(x12.2.2.2.2.1.length:Int)),wrap .i64 (s.2.2.2.2.2.2.2.1+1),s.2.2.2.2.2.2.2.2.1,()))) (some (.inr (s.1,s.2.1,s.2.2.1,s.2.2.2.1,s.2.2.2.2.1,s.2.2.2.2.2.1,s.2.2.2.2.2.2.1,s.2.2.2.2.2.2.2.2.1,())))
def a5n(x:(LI×(Int×Int))):Option Bool:=(a4S x.1).bind fun y1=>(a5K (y1,6)).bind fun y2=>(a2o (y2.1,y2.2.1)).bind fun y3=>(a1W y3.1).bind fun y4=>(show Option (Int×(Int×(Int×(Bool×(Z69×(Z44×(LI×Unit)))))))from cond (y3.2 != 0) (some (x.2.1,x.2.2,y4.2.1,true,y2.1,y2.2.1,y3.1,())) (some (x.2.1,x.2.2,y4.2.1,y4.2.2 != 0,y2.1,y2.2.1,y3.1,()))).bind fun z5=>cond z5.2.2.2.1 (some false) ((a4I z5.2.2.2.2.2.1).bind fun y6=>(a4n (y6.1,0)).bind fun y7=>(a4p y7.1).bind fun y8=>(show Option (Int×(Int×(Z44×(Int×(Bool×(Z69×(LI×Z40)))))))from cond ((y8.1.length:Int)==0) (some (z5.1,z5.2.1,z5.2.2.2.2.2.1,z5.2.2.1,true,z5.2.2.2.2.1,z5.2.2.2.2.2.2.1,y8.1,())) (some (z5.1,z5.2.1,z5.2.2.2.2.2.1,z5.2.2.1,z5.2.1==0,z5.2.2.2.2.1,z5.2.2.2.2.2.2.1,y8.1,()))).bind fun z9=>cond z9.2.2.2.2.1 ((a4c ()).bind fun y10=>some y10) ((a1C (z9.1,0,wrap .i64 ((z9.2.2.2.2.2.2.2.1.length:Int)-1))).bind fun y11=>(y0h a2u (z9.2.1,z9.2.2.2.2.2.1,z9.2.2.1,z9.2.2.2.1,z9.2.2.2.2.2.2.2.1,y11,wrap .i64 (z9.2.2.2.1+8),0,z9.2.2.2.2.2.2.1,())).bind fun w13=>cond (decide (w13.2.2.2.2.2.2.1≥(w13.2.2.2.2.2.2.2.1.length:Int))) (some false) (cond (lim (0+(a00 w13.2.2.2.2.2.2.2.1))) (cond ((decide (0≤w13.2.2.2.2.2.2.1))&&(decide (w13.2.2.2.2.2.2.1<((a00 (a02 [] w13.2.2.2.2.2.2.2.1):Nat):Int)))) (cond ((decide (0≤w13.2.2.2.2.2.2.1))&&(decide (w13.2.2.2.2.2.2.1<((a00 (a02 [] w13.2.2.2.2.2.2.2.1):Nat):Int)))) (cond ((decide (0≤w13.2.2.2.1))&&(decide (w13.2.2.2.1≤((a00 (a06 (a02 [] w13.2.2.2.2.2.2.2.1) (a01 w13.2.2.2.2.2.2.1) (bits .u8 .xor (a04 (a02 [] w13.2.2.2.2.2.2.2.1) (a01 w13.2.2.2.2.2.2.1) 0) w13.1)):Nat):Int)))) (cond ((decide (0≤w13.2.2.2.2.2.1))&&(decide (w13.2.2.2.2.2.1≤(w13.2.2.2.2.1.length:Int)))) (cond (lim (0+(a00 (a03 (a01 w13.2.2.2.2.2.1) w13.2.2.2.2.1)))) (cond ((decide (0≤(wrap .i64 (w13.2.2.2.2.2.1+1))))&&(decide ((wrap .i64 (w13.2.2.2.2.2.1+1))≤(w13.2.2.2.2.1.length:Int)))) (cond (lim ((a00 (a02 ([]:List Z30) (a03 (a01 w13.2.2.2.2.2.1) w13.2.2.2.2.1)))+(a00 (a05 (a01 (wrap .i64 (w13.2.2.2.2.2.1+1))) (a03 (a00 w13.2.2.2.2.1) w13.2.2.2.2.1))))) ((a3c (a03 ((a00 (a06 (a02 [] w13.2.2.2.2.2.2.2.1) (a01 w13.2.2.2.2.2.2.1) (bits .u8 .xor (a04 (a02 [] w13.2.2.2.2.2.2.2.1) (a01 w13.2.2.2.2.2.2.1) 0) w13.1)))-(a01 w13.2.2.2.1)) (a05 (a01 w13.2.2.2.1) (a06 (a02 [] w13.2.2.2.2.2.2.2.1) (a01 w13.2.2.2.2.2.2.1) (bits .u8 .xor (a04 (a02 [] w13.2.2.2.2.2.2.2.1) (a01 w13.2.2.2.2.2.2.1) 0) w13.1))),a02 (a02 ([]:List Z30) (a03 (a01 w13.2.2.2.2.2.1) w13.2.2.2.2.1)) (a05 (a01 (wrap .i64 (w13.2.2.2.2.2.1+1))) (a03 (a00 w13.2.2.2.2.1) w13.2.2.2.2.1)))).bind fun y14=>cond (!y14) ((a4c ()).bind fun y15=>some y15) ((a5P (a06 (a02 [] w13.2.2.2.2.2.2.2.1) (a01 w13.2.2.2.2.2.2.1) (bits .u8 .xor (a04 (a02 [] w13.2.2.2.2.2.2.2.1) (a01 w13.2.2.2.2.2.2.1) 0) w13.1))).bind fun y16=>cond (y16.2.2.2==0) ((a4q (w13.2.1,y16.1)).bind fun y17=>cond y17 ((a4L (w13.2.2.1,y16.2.1)).bind fun y18=>cond y18 (cond ((y16.2.2.1.length:Int)==0) ((a4c ()).bind fun y19=>some y19) (some false)) (some false)) (some false)) (some false))) none) none) none) none) none) none) none) none)))
def a5o:FSem:=⟨[.v QL,.v QI,.v QV],[.v .bool],a5n⟩
def H7:Hints:=⟨[(65530,[.sv 2 QV,.sv 8 (.list false Q21),.sv 9 (.list false (.list false Q17)),13,.sv 19 (.list false Q15),21,22,23,.own 10 10 QV],[Qe 0 [.sv 2 QV,.sv 8 (.list false Q21),.sv 9 (.list false (.list false Q17)),13,.sv 19 (.list false Q15),21,22,.own 10 10 QV]])],[(126,[Qn [1,.sv 2 QV,13,.sv 53 .bool,.own 8 8 Q21,.own 9 9 (.list false Q17),.own 10 10 QV]]),(2046,[Qn [1,.sv 2 QV,.sv 9 (.list false (.list false Q17)),13,.sv 75 .bool,.own 8 8 Q21,.own 10 10 QV,.own 19 19 Q15]])],[(22,[.r [24,112],.v,.r [24,114],.q,.v,.v,.v,.w [115,119],.v,.v,.v,.v,.w [115,124],.x,.x])]⟩
end Go.Ab
namespace Go.Ab
open IntKind(wrap)
section
variable {σ β:Type} {f:σ→Option (σ ⊕ β)}
theorem a6Z:∀(n m:Nat)(s:σ){b:β},g0u f n s=some b→g0u f (n+m) s=some b
 |0,_,s,b,h=>by simp[g0u]at h
 |n+1,m,s,b,h=>by
  rw[show n+1+m=n+m+1 from by omega];simp only[g0u]at h⊢
  split at h
  cases h;rename_i s' g;exact a6Z n m s' h;exact h
theorem a9I{n m:Nat}{s:σ}{b b':β}(h:g0u f n s=some b)(a:g0u f m s=some b'):b=b':=by
 have c:=a6Z n m s h;have g:=a6Z m n s a;rw[Nat.add_comm,c]at g;exact Option.some.inj g
theorem b4M{n:Nat}{s:σ}{b:β}(h:g0u f n s=some b):y0i f s=some b:=by
 unfold y0i;have g:∃n b,g0u f n s=some b:=⟨n,b,h⟩;rw[dif_pos g];exact congrArg some (a9I g.choose_spec.choose_spec h)
theorem a6J{n:Nat}{s:σ}{b:β}(h:g0u f n s=some b):y0h f s=some b:=by
 unfold y0h;split;rename_i a g;rw[a9I g h];exact b4M h
theorem a7H{s:σ}(h:∀n,g0u f n s=none):y0h f s=none:=by
 unfold y0h;rw[h 400];show y0i f s=none;unfold y0i;rw[dif_neg]
 rintro⟨n,b,g⟩
 rw[h n]at g;cases g
theorem a0V{s:σ}{b:β}(h:f s=some (.inr b)):y0h f s=some b:=a6J (n:=1) (by simp[g0u,h])
theorem a1t{s s':σ}(h:f s=some (.inl s')):y0h f s=y0h f s':=by
 by_cases hx:∃n b,g0u f n s'=some b
 obtain⟨n,b,a⟩:=hx;rw[a6J a];exact a6J (n:=n+1) (by simp[g0u,h,a])
 ·have g:∀n,g0u f n s'=none:=fun n=>by
   cases hn:g0u f n s' with
   |none=>rfl
   |some b=>exact absurd ⟨n,b,hn⟩ hx
  rw[a7H g];refine a7H fun n=>?_
  cases n with
  |zero=>rfl
  |succ n=>simp[g0u,h,g n]
theorem b2E(S:Nat→σ)(n:Nat){b:β}(g:∀i,i<n→f (S i)=some (.inl (S (i+1))))(h:f (S n)=some (.inr b)):∀(k:Nat),k≤n→y0h f (S (n-k))=some b
 |0,_=>a0V h
 |k+1,hk=>by
  rw[a1t (g (n-(k+1)) (by omega)),show n-(k+1)+1=n-k from by omega];exact b2E S n g h k (by omega)
theorem a0E(S:Nat→σ)(n:Nat){b:β}(g:∀i,i<n→f (S i)=some (.inl (S (i+1))))(h:f (S n)=some (.inr b)):y0h f (S 0)=some b:=by
 have:=b2E S n g h n (Nat.le_refl _)
 rwa [Nat.sub_self]at this
end
theorem wrap64{n:Int}(h:-9223372036854775808≤n∧n≤9223372036854775807):wrap .i64 n=n:=by
 simp only[wrap,IntKind.bits,IntKind.signed]
 simp
 split<;>omega
theorem a4O{n:Int}(h:0≤n∧n<18446744073709551616):wrap .u64 n=n:=by
 simp only[wrap,IntKind.bits,IntKind.signed]
 simp
 omega
theorem b1b(n:Int):wrap .u8 n=n%256:=by
 simp[wrap,IntKind.bits,IntKind.signed]
theorem a9u(x y:Int):y0d x y=max x y:=by
 simp only[y0d,cond_eq_ite,dT]
 split<;>omega
theorem b3R{n:Nat}(h:n<2147483648):lim n=true:=by simp[lim,h]
theorem a9J{σ τ β γ:Type}{f:σ→Option (σ ⊕ β)}{g:τ→Option (τ ⊕ γ)}(φ:σ→τ)(ψ:β→γ)(I:σ→Prop)
  (h:∀s,I s→g (φ s)=(f s).map (Sum.map φ ψ)∧∀s',f s=some (.inl s')→I s'):∀n s,I s→g0u g n (φ s)=(g0u f n s).map ψ
 |0,_,_=>rfl
 |n+1,s,hs=>by
  obtain⟨a,b⟩:=h s hs;simp only[g0u,a];cases hf:f s with
  |none=>rfl
  |some z=>
   cases z with
   |inl s'=>exact a9J φ ψ I h n s' (b s' hf)
   |inr r=>rfl
theorem a9v{α β:Type}{f:α→β}{c:Bool}{a b:Option α}:a19 f (bif c then a else b)=bif c then a19 f a else a19 f b:=by cases c<;>rfl
theorem a6l{σ τ β γ:Type}{f:σ→Option (σ ⊕ β)}{g:τ→Option (τ ⊕ γ)}(φ:σ→τ)(ψ:β→γ)(I:σ→Prop)
  (h:∀s,I s→g (φ s)=(f s).map (Sum.map φ ψ)∧∀s',f s=some (.inl s')→I s'){s:σ}(e:I s):y0h g (φ s)=(y0h f s).map ψ:=by
 have key:=fun n=>a9J φ ψ I h n s e;cases hr:y0h f s with
 |some r=>
  obtain⟨n,a⟩:=s0t hr;have c:=key n;rw[a]at c;exact a6J c
 |none=>
  refine a7H fun n=>?_
  rw[key n];cases a:g0u f n s with
  |none=>rfl
  |some b=>rw[a6J a]at hr;cases hr
theorem a8O(b m:Int)(s)(L):a1x b L (b,s)=(a1x m L (m,s)).map (Sum.map (fun s=>(b,s.2)) id):=by
 simp only[a1x,beq_self_eq_true,cT,a16,a9v,a09,Function.comp_def,a08,a11,Sum.map_inl,Sum.map_inr,id]
theorem b1c{σ β:Type}{e:Option (σ ⊕ β)}{φ:σ→σ}{ψ:β→β}(h:e=e.map (Sum.map φ ψ)){s':σ}(g:e=some (.inl s')):s'=φ s':=by
 rw[g]at h;exact Sum.inl.inj (Option.some.inj h)
theorem b2w(b m:Int)(L)(g):a2h b L (g,b)=a2h m L (g,m):=by
 unfold a2h
 have:=a6l (f:=a1x m L) (g:=a1x b L) (fun s=>(b,s.2)) id (fun s=>s=(m,s.2)) (fun s c=>⟨?_,fun s' h=>?_⟩) (s:=(m,(0,(0,(g.1,([],(g,()))))))) rfl
 rw[Option.map_id,id]at this;exact congrArg (fun z=>Option.bind z _) this;have a:=a8O b m s.2 L;rw[←c]at a;exact a;rw[c]at h;exact b1c (a8O m m s.2 L) h
theorem b2F(b m:Int)(s)(L):a1k ((b,s),(b,L))=(a1k ((m,s),(m,L))).map (Sum.map (fun s=>((b,s.1.2),(b,s.2.2))) (fun r=>((b,r.1.2),(b,r.2.2)))):=by
 simp only[a1k,beq_self_eq_true,cT,a16,a9v,a09,Function.comp_def,a08,a11,Sum.map_inl,Sum.map_inr]
theorem b2G(b m:Int)(s)(L):a1l ((b,s),(b,L))=(a1l ((m,s),(m,L))).map (Sum.map (fun s=>((b,s.1.2),(b,s.2.2))) (fun r=>(r.1,(b,r.2.2)))):=by
 simp only[a1l,b2w b m,beq_self_eq_true,cT,a16,a9v,a09,Function.comp_def,a08,a11,Sum.map_inl,Sum.map_inr]
theorem b2H(b:Int)(s)(L):y0h a1k ((b,s),(b,L))=(y0h a1k ((0,s),(0,L))).map (fun r=>((b,r.1.2),(b,r.2.2))):=
 a6l (f:=a1k) (g:=a1k) (fun s=>((b,s.1.2),(b,s.2.2))) (fun r=>((b,r.1.2),(b,r.2.2))) (fun s=>s=((0,s.1.2),(0,s.2.2))) (fun s c=>⟨by
  have a:=b2F b 0 s.1.2 s.2.2;rw[←c]at a;exact a,fun s' h=>by
  rw[c]at h;exact b1c (b2F 0 0 s.1.2 s.2.2) h⟩) (s:=((0,s),(0,L))) rfl
theorem b5H(b:Int)(s)(L):y0h a1l ((b,s),(b,L))=(y0h a1l ((0,s),(0,L))).map (fun r=>(r.1,(b,r.2.2))):=
 a6l (f:=a1l) (g:=a1l) (fun s=>((b,s.1.2),(b,s.2.2))) (fun r=>(r.1,(b,r.2.2))) (fun s=>s=((0,s.1.2),(0,s.2.2))) (fun s c=>⟨by
  have a:=b2G b 0 s.1.2 s.2.2;rw[←c]at a;exact a,fun s' h=>by
  rw[c]at h;exact b1c (b2G 0 0 s.1.2 s.2.2) h⟩) (s:=((0,s),(0,L))) rfl
theorem b3S(b:Int)(x):a2F b x=a2F 0 x:=by
 unfold a2F;rw[b2H b];have g:=b2H 0 ((-1:Int),(x,(((a00 x:Nat):Int),((0:Int),([],([],())))))) [];cases h:y0h a1k ((0,((-1:Int),(x,(((a00 x:Nat):Int),((0:Int),([],([],()))))))),(0,[]))with
 |none=>rfl
 |some w=>
  rw[h]at g;have f:w=((0,w.1.2),(0,w.2.2)):=Option.some.inj g;simp only[a08,oB];rw[b5H b];rw[f];simp only;cases y0h a1l ((0,(w.1.2.1,(((a00 w.1.2.2.1:Nat):Int),((0:Int),(w.1.2.2.2.1,(w.1.2.2.1,())))))),(0,w.2.2))with
  |none=>rfl
  |some r=>rfl
theorem b5I(x)(y)(h:a4b x=some y)(b:Int):a2F b x=some y:=(b3S b x).trans h
end Go.Ab
