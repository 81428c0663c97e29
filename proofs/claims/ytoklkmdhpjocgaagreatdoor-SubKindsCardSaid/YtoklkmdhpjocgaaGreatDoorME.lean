/- Part of the proof: F, It, PA, QA, QB, QC, QD, QE, QF, QG, QH, QI, QJ, S. Conditions: as each statement tells. -/
import Derived.RangeFuncBound
import Derived.RangeFuncCalls
import Derived.RangeFuncBox
import Derived.WalkKit
import Derived.OwnWalkIn
import Derived.TacticsInMore
import Derived.LoopNIn
import Derived.LoopIn
import Derived.Test.YtoklkmdhpjocgaaGreatDoorProg
import Derived.KernelRfl
import Derived.Test.YtoklkmdhpjocgaaGreatDoorMD
noncomputable section
namespace Go.Ab
open Go.Proofs Go.RowKit
attribute [local go_sem] Oper.semAt_some
set_option maxHeartbeats 1000000 in
theorem mkOk136:MakeOk Tryz.prog 136 181:=by
 refine ⟨⟨_,_,Tryz.func136,rfl,by kernel_rfl⟩,fun A len cap w=>(callsIn_wide (n:=3)).1 ?_⟩
 refine callsIn_of_wp Tryz.func136 rfl trivial ?_
 simp only [Tryz.ntmps136,List.size_toArray,List.length_cons,List.length_nil,Nat.reduceAdd,Nat.reduceSub,Array.replicate_succ,Array.replicate_zero,List.push_toArray,List.append_toArray,List.nil_append,List.cons_append]
 gi_wp2
 go_ret
 exact ⟨rfl,_,rfl⟩
@[reducible] def stageT:Ty:=.pair (.int .i64) (.pair (.int .i64) .unit)
set_option maxRecDepth 100000 in
set_option maxHeartbeats 2000000 in
theorem back1_in (l Bs b off len cap:Nat) (p q:Nat→Int) (J:Nat→World→Prop) (Jx:World→Prop) (W:World)
  (hJ:∀ k W',J k W'→W'.cell? ⟨Bs,0,none⟩=some (.slice (some ⟨b,off,none⟩) len cap))
  (hlen:len<2147483648)
  (hcs:∀ k W',k<len→J (k+1) W'→W'.cell? ⟨b,off+k*2,none⟩=some (.int .i64 (p k))∧W'.cell? ⟨b,off+k*2+1,none⟩=some (.int .i64 (q k)))
  (hY:∀ n W',n<len→J (n+1) W'→YieldAt (Fr none) 0 Tryz.prog l #[.int .i64 (n:Int),.agg #[.int .i64 (p n),.int .i64 (q n)]] W' fun en W''=>(en=.returned (.bool true)∧J n W'')∨(en=.returned (.bool false)∧Jx W''))
  (h0:J len W):
  CallsIn (Fr none) 0 Tryz.prog 181 #[.func (.yield l) #[] #[],.pointer (some ⟨Bs,0,none⟩)] W fun en W'=>(∃ v,en=.returned v)∧(J 0 W'∨Jx W'):=by
 refine callsIn_of_wp Tryz.func181 rfl trivial ?_
 simp only [Tryz.ntmps181,List.size_toArray,List.length_cons,List.length_nil,Nat.reduceAdd,Nat.reduceSub,Array.replicate_succ,Array.replicate_zero,List.push_toArray,List.append_toArray,List.nil_append,List.cons_append]
 have hBs:=hJ _ _ h0
 gi_wp2
 gi_loopw [3] (fun i wr=>∃ k:Nat,k≤len∧i=.int .i64 ((k:Int)-1)∧J k wr) (fun i _=>(intOf i+1).toNat)
 case atStart=>exact ⟨len,Nat.le_refl _,rfl,h0⟩
 case round=>
  obtain ⟨k,hk,rfl,hJs⟩:=hrel
  cases k with
  |succ n=>
   obtain ⟨fn,tmps,assign,body,hy,hR⟩:=hY n wr (by omega) hJs
   have hcx:=hJ _ _ hJs
   obtain ⟨hc0,hc1⟩:=hcs n wr (by omega) hJs
   gi_wp2
   refine hR.mono ?_
   rintro e W3 (⟨rfl,hJ3⟩|⟨rfl,hJx3⟩)
   ·gi_wp2
    go_roundw
    case rel=>exact ⟨n,by omega,by simp,hJ3⟩
    case measure=>simp [intOf]
   ·gi_wp2
    refine bodyPost_ret (results_none rfl _ _ _) rfl ?_
    exact ⟨⟨_,rfl⟩,.inr hJx3⟩
  |zero=>
   gi_wp2
   go_end0
   exact ⟨⟨_,rfl⟩,.inl hJs⟩
set_option maxRecDepth 100000 in
set_option maxHeartbeats 2000000 in
theorem back1_nil (l Bs:Nat) (J:Nat→World→Prop) (W:World) (hBs:W.cell? ⟨Bs,0,none⟩=some (.slice none 0 0)) (h0:J 0 W):
  CallsIn (Fr none) 0 Tryz.prog 181 #[.func (.yield l) #[] #[],.pointer (some ⟨Bs,0,none⟩)] W fun en W'=>(∃ v,en=.returned v)∧J 0 W':=by
 refine callsIn_of_wp Tryz.func181 rfl trivial ?_
 simp only [Tryz.ntmps181,List.size_toArray,List.length_cons,List.length_nil,Nat.reduceAdd,Nat.reduceSub,Array.replicate_succ,Array.replicate_zero,List.push_toArray,List.append_toArray,List.nil_append,List.cons_append]
 gi_wp2
 gi_loopw [3] (fun i wr=>i=.int .i64 (-1)∧J 0 wr) (fun _ _=>0)
 case atStart=>exact ⟨rfl,h0⟩
 case round=>
  obtain ⟨rfl,hJs⟩:=hrel
  gi_wp2
  go_end0
  exact ⟨⟨_,rfl⟩,hJs⟩
theorem stage_dec {m:Mem} {Sh:Nat→Prop} {b o:Nat} {x:stageT.den} {R} (h:dec m stageT ((Src.at b o).rd m)=some (x,[],R)):
  m b o=some (.int .i64 x.1)∧m b (o+1)=some (.int .i64 x.2.1)∧VOk m Sh stageT x (.agg #[.int .i64 x.1,.int .i64 x.2.1]):=by
 obtain ⟨p,q,u⟩:=x
 simp only [stageT,dec,Src.rd,Ty.cells,Nat.add_zero] at h
 split at h
 ·cases h
 ·rename_i x1 o1 r1 h1
  split at h1
  ·rename_i n hn
   split at h1
   ·rename_i e
    subst e
    simp only [sj] at h1
    obtain ⟨rfl,rfl,rfl⟩:=h1
    split at h
    ·cases h
    ·rename_i x2 o2 r2 h2
     split at h2
     ·cases h2
     ·rename_i x3 o3 r3 h3
      split at h3
      ·rename_i n' hn'
       split at h3
       ·rename_i e
        subst e
        simp only [sj] at h3 h2 h
        obtain ⟨rfl,rfl,rfl⟩:=h3
        obtain ⟨rfl,rfl,rfl⟩:=h2
        obtain ⟨⟨rfl,rfl,rfl⟩,-,-⟩:=h
        exact ⟨hn,hn',fun _=>⟨_,rfl,rfl⟩,fun h=>(by cases h),[],rfl,by simp⟩
       ·cases h3
      ·cases h3
   ·cases h1
  ·cases h1
theorem enters_bodied {P:Program} {f:FuncId} (hb:Bodied P f) (args:Array Value) (w:World):(callFunc f args).run P w=.ok (.enter f args) w:=by
 obtain ⟨fn,c',h1,h2,h3⟩:=hb
 have h4 : ¬ fn.name = "runtime.NumGoroutine" := by simpa using h3
 simp [callFunc,program,Sem.run,h1,h2,h4,Result.andThen]
theorem itOk181:IterOk Tryz.prog 181 stageT:=by
 refine ⟨fun args w=>enters_bodied ⟨_,_,Tryz.func181,rfl,by kernel_rfl⟩ args w,fun l Bs sv xs J Jx W hlen hJ hY h0=>?_⟩
 obtain ⟨hc,Sh,hsv⟩:=hJ _ _ h0
 obtain ⟨A,n,c,rfl,rfl,hnc,hsp,hnil⟩:=hsv.header
 cases A with
 |none=>
  have hx0:xs.length=0:=by have:=hnil rfl;omega
  rw [hx0] at h0 hc
  rw [hnil rfl] at hc
  exact (back1_nil l Bs J W hc h0).mono fun e W' h=>⟨h.1,.inl h.2⟩
 |some A=>
  obtain ⟨b,off,spot⟩:=A
  have:=hsp _ rfl
  simp only at this
  subst this
  have hel:∀ k W',k<xs.length→J (k+1) W'→∃ x,xs[k]?=some x∧W'.cell? ⟨b,off+k*2,none⟩=some (.int .i64 x.1)∧W'.cell? ⟨b,off+k*2+1,none⟩=some (.int .i64 x.2.1):=by
   intro k W' hk hj
   obtain ⟨-,Sh',hv⟩:=hJ _ _ hj
   obtain ⟨A',n',c',R,e,h1,h2,h3,h4,h5,h6⟩:=hv.elem rfl (List.getElem?_eq_getElem hk)
   simp only [Value.slice.injEq,sj] at e
   obtain ⟨rfl,rfl,rfl⟩:=e
   obtain ⟨g1,g2,-⟩:=stage_dec (Sh:=Sh') h4
   exact ⟨_,List.getElem?_eq_getElem hk,g1,g2⟩
  refine back1_in l Bs b off xs.length c (fun k=>((xs[k]?).getD stageT.dflt).1) (fun k=>((xs[k]?).getD stageT.dflt).2.1) J Jx W (fun k W' hj=>(hJ k W' hj).1) hlen (fun k W' hk hj=>?_) (fun n W' hn hj=>?_) h0
  ·obtain ⟨x,hx,g1,g2⟩:=hel k W' hk hj
   simp only [hx,Option.getD_some]
   exact ⟨g1,g2⟩
  ·have hx:xs[n]?=some xs[n]:=List.getElem?_eq_getElem hn
   simp only [hx,Option.getD_some]
   refine hY n _ _ W' hx hj fun Sh' hv=>?_
   obtain ⟨A',n',c',R,e,h1,h2,h3,h4,h5,h6⟩:=hv.elem rfl hx
   exact (stage_dec (Sh:=Sh') h4).2.2
end Go.Ab
namespace Go.Ab
open Go.Proofs
set_option maxRecDepth 100000
set_option linter.unusedVariables false
@[reducible] def Z0:Type:=(Unit ⊕ (Bool×Unit))
@[reducible] def Z1:Type:=(Int×(Int×(List Int)))
@[reducible] def Z2:Type:=((List Int)×(Int×Int))
@[reducible] def Z3:Type:=((List Int)×(Int×Unit))
@[reducible] def Z4:Type:=(List (Int×(Int×Unit)))
@[reducible] def Z5:Type:=(Int×((List Int)×Unit))
@[reducible] def Z6:Type:=(Bool×((List Int)×Unit))
@[reducible] def Z7:Type:=(Int×(Int×(Int×Unit)))
@[reducible] def Z8:Type:=(Int×(Int×(Bool×Unit)))
@[reducible] def Z9:Type:=((List Int)×((List Int)×Int))
@[reducible] def Z10:Type:=((List Int)×((List Int)×Unit))
@[reducible] def Z11:Type:=((List Int)×(Int×(Int×Unit)))
@[reducible] def Z12:Type:=(Int×Z5)
@[reducible] def Z13:Type:=(Int×Z3)
@[reducible] def Z14:Type:=((List Int)×(Int×(Bool×Unit)))
@[reducible] def Z15:Type:=(Z5×Unit)
@[reducible] def Z16:Type:=(Z3×Unit)
@[reducible] def Z17:Type:=(Int×Z7)
@[reducible] def Z18:Type:=(Int×Z8)
@[reducible] def Z19:Type:=(Int×Z10)
@[reducible] def Z20:Type:=((List Int)×Z5)
@[reducible] def Z21:Type:=(Int×Z11)
@[reducible] def Z22:Type:=((List Int)×Z7)
@[reducible] def Z23:Type:=(Z11×Int)
@[reducible] def Z24:Type:=((List Int)×Z8)
@[reducible] def Z25:Type:=(Int×Z16)
@[reducible] def Z26:Type:=(Int×Z17)
@[reducible] def Z27:Type:=(Z11×Unit)
@[reducible] def Z28:Type:=((List Int)×Z10)
@[reducible] def Z29:Type:=((List Int)×Z12)
@[reducible] def Z30:Type:=(Int×Z19)
@[reducible] def Z31:Type:=((List Int)×Z11)
@[reducible] def Z32:Type:=(Z5×((List Int)×Unit))
@[reducible] def Z33:Type:=(((List Int)×Unit) ⊕ Z5)
@[reducible] def Z34:Type:=((List Int)×Z14)
@[reducible] def Z35:Type:=(Int×Z21)
@[reducible] def Z36:Type:=(Z19×Unit)
@[reducible] def Z37:Type:=(Int×Z25)
@[reducible] def Z38:Type:=(Int×Z27)
@[reducible] def Z39:Type:=(Bool×Z27)
@[reducible] def Z40:Type:=(Int×Z28)
@[reducible] def Z41:Type:=(Int×Z29)
@[reducible] def Z42:Type:=((List Int)×Z21)
@[reducible] def Z43:Type:=(Int×Z36)
@[reducible] def Z44:Type:=((List Int)×Z27)
@[reducible] def Z45:Type:=(Int×Z38)
@[reducible] def Z46:Type:=(Int×Z39)
@[reducible] def Z47:Type:=(Z11 ⊕ Z0)
@[reducible] def Z48:Type:=((List Int)×Z30)
@[reducible] def Z49:Type:=(Int×Z40)
@[reducible] def Z50:Type:=((List Int)×Z32)
@[reducible] def Z51:Type:=((List Int)×Z35)
@[reducible] def Z52:Type:=((List Int)×Z36)
@[reducible] def Z53:Type:=(Int×Z41)
@[reducible] def Z54:Type:=(Int×Z43)
@[reducible] def Z55:Type:=((List Int)×Z37)
@[reducible] def Z56:Type:=(Int×Z44)
@[reducible] def Z57:Type:=(Z3×Z15)
@[reducible] def Z58:Type:=(Z5×Z15)
@[reducible] def Z59:Type:=(Int×Z45)
@[reducible] def Z60:Type:=(Int×Z48)
@[reducible] def Z61:Type:=(Int×Z52)
@[reducible] def Z62:Type:=(Int×Z54)
@[reducible] def Z63:Type:=(Int×Z55)
@[reducible] def Z64:Type:=(Int×Z56)
@[reducible] def Z65:Type:=((List Int)×Z57)
@[reducible] def Z66:Type:=(Int×Z64)
@[reducible] def Z67:Type:=(Int×Z65)
@[reducible] def Z68:Type:=(Z4×Z50)
@[reducible] def Z69:Type:=(Int×Z67)
@[reducible] def Z70:Type:=(Z5×Z58)
@[reducible] def Z71:Type:=((List Int)×Z68)
@[reducible] def Z72:Type:=((List Int)×Z69)
@[reducible] def Z73:Type:=((List Int)×Z71)
@[reducible] def Z74:Type:=(Int×Z73)
@[reducible] def Z75:Type:=(Int×Z74)
@[reducible] def Z76:Type:=(Int×Z75)
@[reducible] def Z77:Type:=(Int×Z76)
@[reducible] def Z78:Type:=(Int×Z77)
@[reducible] def Z79:Type:=(List Z78)
@[reducible] def Z80:Type:=(Z78×Int)
@[reducible] def Z81:Type:=(Z78×Unit)
@[reducible] def Z82:Type:=(Bool×Z81)
@[reducible] def Z83:Type:=(Int×Z82)
@[reducible] def Z84:Type:=(Z79×((List Int)×Unit))
@[reducible] def Z85:Type:=(Z3×Z81)
@[reducible] def Z86:Type:=(Int×Z85)
@[reducible] def Z87:Type:=(Z11×Z81)
@[reducible] def Z88:Type:=(Z78×Z27)
@[reducible] def Z89:Type:=(Int×Z86)
@[reducible] def Z90:Type:=(Int×Z87)
@[reducible] def Z91:Type:=(Int×Z90)
@[reducible] def Z92:Type:=(Z78×Z81)
@[reducible] def Z93:Type:=(Int×Z92)
@[reducible] def Z94:Type:=(Int×Z93)
@[reducible] def Q0:Ty:=(.pair (.int .i64) .unit)
@[reducible] def Q1:Ty:=(.pair (.list true (.int .i64)) .unit)
@[reducible] def Q2:Ty:=(.pair (.list false (.int .i64)) .unit)
@[reducible] def Q3:Ty:=(.pair (.int .i64) Q0)
@[reducible] def Q4:Ty:=(.pair (.list true (.int .u8)) Q0)
@[reducible] def Q5:Ty:=(.pair (.int .i64) Q1)
@[reducible] def Q6:Ty:=(.pair (.int .i64) Q2)
@[reducible] def Q7:Ty:=(.pair (.list true (.int .i64)) Q1)
@[reducible] def Q8:Ty:=(.pair (.list false (.int .u8)) Q3)
@[reducible] def Q9:Ty:=(.pair (.int .i64) Q7)
@[reducible] def Q10:Ty:=(.pair Q6 Q2)
@[reducible] def Q11:Ty:=(.pair (.nl (.int .i64)) Q10)
@[reducible] def Q12:Ty:=(.pair (.list false (.int .i64)) Q10)
@[reducible] def Q13:Ty:=(.pair (.list true Q3) Q11)
@[reducible] def Q14:Ty:=(.pair (.list false Q3) Q12)
@[reducible] def Q15:Ty:=(.pair (.arr 3 (.int .i64)) Q13)
@[reducible] def Q16:Ty:=(.pair (.arr 3 (.int .i64)) Q14)
@[reducible] def Q17:Ty:=(.pair (.list true (.int .i64)) Q15)
@[reducible] def Q18:Ty:=(.pair (.list false (.int .i64)) Q16)
@[reducible] def Q19:Ty:=(.pair (.int .i64) Q17)
@[reducible] def Q20:Ty:=(.pair (.int .i64) Q18)
@[reducible] def Q21:Ty:=(.pair (.int .i64) Q19)
@[reducible] def Q22:Ty:=(.pair (.int .i64) Q20)
@[reducible] def Q23:Ty:=(.pair (.int .i64) Q21)
@[reducible] def Q24:Ty:=(.pair (.int .i64) Q22)
@[reducible] def Q25:Ty:=(.pair (.int .i64) Q23)
@[reducible] def Q26:Ty:=(.pair (.int .i64) Q24)
@[reducible] def Q27:Ty:=(.pair (.int .i64) Q25)
@[reducible] def Q28:Ty:=(.pair (.int .i64) Q26)
def tyTab:List (Nat×Ty):=[(2,.int .i64),(3,.int .i64),(5,.int .u8),(22,.list false (.int .i64)),(23,.arr 3 (.int .i64)),(24,.list false Q3),(26,.pair (.int .i64) Q2),(28,.pair (.int .i64) Q26),(31,.int .i64),(49,.list false (.int .u8)),(51,.pair (.list false (.int .u8)) Q0),(56,.int .u64),(75,.list false Q28),(84,.pair (.int .i64) Q0),(96,.pair (.list false (.int .u8)) Q3),(148,.arr 64 (.int .u8)),(162,.pair (.int .i64) (.pair (.list false (.int .i64)) Q2)),(166,.list false (.arr 3 (.int .i64)))]
def T0:Nat→Option Ty:=fun t=>find tyTab t
def eqTab:List Nat:=[23,84]
def eqT0:Nat→Bool:=fun t=>eqTab.contains t
def ptrTab:List Nat:=[64]
def ptrT:Nat→Bool:=fun t=>ptrTab.contains t
def glob0:(List Int):=[0,1,56,2,57,49,28,3,61,58,42,50,38,29,17,4,62,47,59,36,45,43,51,22,53,39,33,30,24,18,12,5,63,55,48,27,60,41,37,16,46,35,44,21,52,32,23,11,54,26,40,15,34,20,31,10,25,14,19,9,13,8,7,6]
def G0:Nat→Option ((t:Ty)×t.den):=fun g=>find ([(0,⟨.arr 64 (.int .u8),glob0⟩)]:List (Nat×((t:Ty)×t.den))) g
def F_sub_allWide_l0 (st:Z11):Option Z47:= bif decide (st.2.2.1<st.2.1) then ((gidx st.1 st.2.2.1).bind fun x1=> (show Option Z24 from bif decide (x1<(-1073741824:Int)) then some (st.1,(st.2.1,(st.2.2.1,(true,())))) else some (st.1,(st.2.1,(st.2.2.1,(decide (x1≥(1073741824:Int)),()))))).bind fun z2=> bif z2.2.2.2.1 then some (.inr (Sum.inr ((false,())))) else some (.inl (z2.1,(z2.2.1,(IntKind.wrap .i64 (z2.2.2.1+(1:Int)),()))))) else some (.inr (Sum.inl ()))
def F_sub_allWide (x:(List Int)):Option Bool:= (iter F_sub_allWide_l0 (x,(((List.length x:Nat):Int),((0:Int),())))).bind fun w3=> match w3 with |.inl a4=>some true |.inr b5=>some b5.1
def S_sub_allWide:FSem:=⟨[.v (.list false (.int .i64))],[.v .bool],F_sub_allWide⟩
def H44:Hints:=⟨[(26,[.sv 5 (.list false (.int .i64)),.sv 6 (.int .i64),.sv 7 (.int .i64)],[(.exit 0,[]),(.ret,[.sv 2 .bool])])],[(1689,[(.normal,[.sv 5 (.list false (.int .i64)),.sv 6 (.int .i64),.sv 7 (.int .i64),.sv 16 .bool])])],[]⟩
def F_sub_rested (x:Int):Option Bool:= bif x != (0:Int) then some (x != (1:Int)) else some false
def S_sub_rested:FSem:=⟨[.v (.int .i64)],[.v .bool],F_sub_rested⟩
def H59:Hints:=⟨[],[],[]⟩
def F_linear_May_l0 (st:Z11):Option Z47:= bif decide (st.2.2.1<st.2.1) then ((gidx st.1 st.2.2.1).bind fun x2=> (show Option Z24 from bif decide (x2<(-32768:Int)) then some (st.1,(st.2.1,(st.2.2.1,(true,())))) else some (st.1,(st.2.1,(st.2.2.1,(decide (x2≥(32768:Int)),()))))).bind fun z3=> bif z3.2.2.2.1 then some (.inr (Sum.inr ((false,())))) else some (.inl (z3.1,(z3.2.1,(IntKind.wrap .i64 (z3.2.2.1+(1:Int)),()))))) else some (.inr (Sum.inl ()))
def F_linear_May (x:((List Int)×Int)):Option Bool:= (show Option ((List Int)×(Bool×Unit)) from bif decide (((List.length x.1:Nat):Int)<(1:Int)) then some (x.1,(true,())) else (bif decide (((List.length x.1:Nat):Int) > (32:Int)) then some (x.1,(true,())) else (bif decide (x.2<(0:Int)) then some (x.1,(true,())) else some (x.1,(decide (x.2 > (15:Int)),()))))).bind fun z1=> bif z1.2.1 then some false else ((iter F_linear_May_l0 (z1.1,(((List.length z1.1:Nat):Int),((0:Int),())))).bind fun w4=> match w4 with |.inl a5=>some true |.inr b6=>some b6.1)
def S_linear_May:FSem:=⟨[.v (.list false (.int .i64)),.v (.int .i64)],[.v .bool],F_linear_May⟩
def H113:Hints:=⟨[(58,[.sv 23 (.list false (.int .i64)),.sv 24 (.int .i64),.sv 25 (.int .i64)],[(.exit 0,[]),(.ret,[.sv 4 .bool])])],[(6,[(.normal,[.sv 0 (.list false (.int .i64)),.sv 22 .bool])]),(3737,[(.normal,[.sv 23 (.list false (.int .i64)),.sv 24 (.int .i64),.sv 25 (.int .i64),.sv 34 .bool])])],[]⟩
def F_long_May_l0 (st:Z3):Option (Z3 ⊕ Z0):= bif decide (st.2.1<(3:Int)) then ((gidx st.1 st.2.1).bind fun x2=> (show Option Z14 from bif decide (x2<(-64:Int)) then some (st.1,(st.2.1,(true,()))) else some (st.1,(st.2.1,(decide (x2 > (64:Int)),())))).bind fun z3=> bif z3.2.2.1 then some (.inr (Sum.inr ((false,())))) else some (.inl (z3.1,(IntKind.wrap .i64 (z3.2.1+(1:Int)),())))) else some (.inr (Sum.inl ()))
def F_long_May (x:(Int×(List Int))):Option Bool:= (show Option Z6 from bif decide (x.1<(2:Int)) then some (true,(x.2,())) else some (decide (x.1 > (1024:Int)),(x.2,()))).bind fun z1=> bif z1.1 then some false else ((iter F_long_May_l0 (z1.2.1,((0:Int),()))).bind fun w4=> match w4 with |.inl a5=>some true |.inr b6=>some b6.1)
def S_long_May:FSem:=⟨[.v (.int .i64),.v (.arr 3 (.int .i64))],[.v .bool],F_long_May⟩
def H114:Hints:=⟨[(58,[.sv 13 (.arr 3 (.int .i64)),.sv 14 (.int .i64)],[(.exit 0,[]),(.ret,[.sv 4 .bool])])],[(6,[(.normal,[.sv 12 .bool,.vp 3 (.arr 3 (.int .i64))])]),(3737,[(.normal,[.sv 13 (.arr 3 (.int .i64)),.sv 14 (.int .i64),.sv 22 .bool])])],[]⟩
def F_learn_valid (x:(Int×(Int×Unit))):Option Bool:= bif decide (x.1≥(1:Int)) then (bif decide (x.1≤(32:Int)) then (bif decide (x.2.1≥(0:Int)) then some (decide (x.2.1≤(8:Int))) else some false) else some false) else some false
def S_learn_valid:FSem:=⟨[.v Q3],[.v .bool],F_learn_valid⟩
def H177:Hints:=⟨[],[],[]⟩
def F_learn_May_l0 (st:(Z4×(Int×(Int×Unit)))):Option ((Z4×(Int×(Int×Unit))) ⊕ Z0):= bif decide (st.2.2.1<st.2.1) then ((gidx st.1 st.2.2.1).bind fun x1=> (F_learn_valid x1).bind fun y2=> bif !y2 then some (.inr (Sum.inr ((false,())))) else some (.inl (st.1,(st.2.1,(IntKind.wrap .i64 (st.2.2.1+(1:Int)),()))))) else some (.inr (Sum.inl ()))
def F_learn_May (x:Z4):Option Bool:= bif decide (((List.length x:Nat):Int) > (3:Int)) then some false else ((iter F_learn_May_l0 (x,(((List.length x:Nat):Int),((0:Int),())))).bind fun w3=> match w3 with |.inl a4=>some true |.inr b5=>some b5.1)
def S_learn_May:FSem:=⟨[.v (.list false Q3)],[.v .bool],F_learn_May⟩
def H115:Hints:=⟨[(58,[.sv 8 (.list false Q3),.sv 9 (.int .i64),.sv 10 (.int .i64)],[(.exit 0,[]),(.ret,[.sv 2 .bool])])],[],[]⟩
def F_sub_fit (x:(Int×Z80)):Option Bool:= (show Option (Int×Z83) from bif x.1==(0:Int) then some (x.2.2,(x.1,(x.1==(0:Int),(x.2.1,())))) else some (x.2.2,(x.1,(x.1==(1:Int),(x.2.1,()))))).bind fun z1=> bif z1.2.2.1 then some true else (bif z1.2.1==(2:Int) then (bif decide (z1.2.2.2.1.2.2.1≥(0:Int)) then (bif decide (z1.2.2.2.1.2.2.1≤(4:Int)) then some (decide (z1.2.2.2.1.2.2.1≤z1.1)) else some false) else some false) else (bif z1.2.1==(3:Int) then ((F_linear_May (z1.2.2.2.1.2.2.2.2.2.1,z1.2.2.2.1.2.2.2.1)).bind fun y2=> bif y2 then some (decide (((List.length z1.2.2.2.1.2.2.2.2.2.1:Nat):Int)≤z1.1)) else some false) else (bif z1.2.1==(4:Int) then ((F_linear_May (z1.2.2.2.1.2.2.2.2.2.1,z1.2.2.2.1.2.2.2.1)).bind fun y3=> bif y3 then (bif decide (((List.length z1.2.2.2.1.2.2.2.2.2.1:Nat):Int)≤z1.1) then ((F_long_May (z1.2.2.2.1.2.2.2.2.1,z1.2.2.2.1.2.2.2.2.2.2.1)).bind fun y4=> some y4) else some false) else some false) else (bif z1.2.1==(5:Int) then (bif decide (((List.length z1.2.2.2.1.2.2.2.2.2.2.2.1:Nat):Int) > (0:Int)) then ((F_learn_May z1.2.2.2.1.2.2.2.2.2.2.2.1).bind fun y5=> some y5) else some false) else some false))))
def S_sub_fit:FSem:=⟨[.v (.int .i64),.v Q28,.v (.int .i64)],[.v .bool],F_sub_fit⟩
def H66:Hints:=⟨[],[(26,[(.normal,[.sv 2 (.int .i64),.sv 7 (.int .i64),.sv 8 .bool,.vp 4 Q28])])],[]⟩
def F_sub_warmth (x:Z80):Option Int:= bif x.1.1==(0:Int) then some (1:Int) else (bif x.1.1==(1:Int) then some x.2 else (bif x.1.1==(2:Int) then some x.1.2.2.1 else ((show Option Z82 from bif x.1.1==(3:Int) then some (x.1.1==(3:Int),(x.1,())) else some (x.1.1==(4:Int),(x.1,()))).bind fun z1=> bif z1.1 then some ((List.length z1.2.1.2.2.2.2.2.1:Nat):Int) else some (0:Int))))
def S_sub_warmth:FSem:=⟨[.v Q28,.v (.int .i64)],[.v (.int .i64)],F_sub_warmth⟩
def H72:Hints:=⟨[],[(1727,[(.normal,[.sv 16 .bool,.vp 2 Q28])])],[]⟩
def F_slices_Clone___int_int_ (x:(List Int)):Option (List Int):= gclone x
def S_slices_Clone___int_int_:FSem:=⟨[.v (.list false (.int .i64))],[.o (.int .i64)],F_slices_Clone___int_int_⟩
def H116:Hints:=⟨[],[],[]⟩
@[reducible] def cxOf (a:List (Nat×FSem)) (b:List (Nat×Ty)) (c d:List Nat):Cx:=⟨ptrT,eqT0,T0,fun f=>find a f,fun n=>find b n,fun i=>c.contains i,fun i=>d.contains i,G0⟩
def cx116:Cx:=cxOf [] [] [0,2] []
theorem eq116 (x):arun cx116 H116 Tryz.f116 S_slices_Clone___int_int_.ps S_slices_Clone___int_int_.rs x=S_slices_Clone___int_int_.F x:=Eq.trans (show _=cloneA x by kernel_rfl) (clone_same x)
def F_slices_Clone___int_int_v (x:(List Int)):Option (List Int):= gclone x
def S_slices_Clone___int_int_v:FSem:=⟨[.v (.list false (.int .i64))],[.v (.list false (.int .i64))],F_slices_Clone___int_int_v⟩
def H116v:Hints:=⟨[],[],[]⟩
def cx116v:Cx:=cxOf [] [] [0,2] []
theorem eq116v (x):arun cx116v H116v Tryz.f116 S_slices_Clone___int_int_v.ps S_slices_Clone___int_int_v.rs x=S_slices_Clone___int_int_v.F x:=Eq.trans (show _=cloneA x by kernel_rfl) (clone_same x)
def F_slices_Clone___api_Stage_api_Stage_v (x:Z4):Option Z4:= gclone x
def S_slices_Clone___api_Stage_api_Stage_v:FSem:=⟨[.v (.list false Q3)],[.v (.list false Q3)],F_slices_Clone___api_Stage_api_Stage_v⟩
def H117v:Hints:=⟨[],[],[]⟩
def cx117v:Cx:=cxOf [] [] [0,2] []
theorem eq117v (x):arun cx117v H117v Tryz.f117 S_slices_Clone___api_Stage_api_Stage_v.ps S_slices_Clone___api_Stage_api_Stage_v.rs x=S_slices_Clone___api_Stage_api_Stage_v.F x:=Eq.trans (show _=cloneA x by kernel_rfl) (clone_same x)
def F_sub_chosen (x:(Int×Z78)):Option Z78:= (show Option Z92 from (show Option ((Z78×Z92) ⊕ (Z92 ⊕ (Z78×Z92))) from bif x.1==(2:Int) then some (Sum.inr (Sum.inl (((0:Int),((0:Int),((0:Int),((0:Int),((0:Int),(([]:(List Int)),(List.replicate 3 (0:Int),(([]:Z4),(([]:(List Int)),(((0:Int),(([]:(List Int)),())),(([]:(List Int)),()))))))))))),((x.1,((0:Int),(x.2.2.2.1,((0:Int),((0:Int),(([]:(List Int)),(List.replicate 3 (0:Int),(([]:Z4),(([]:(List Int)),(((0:Int),(([]:(List Int)),())),(([]:(List Int)),()))))))))))),())))) else (bif x.1==(4:Int) then some (Sum.inl (((0:Int),((0:Int),((0:Int),((0:Int),((0:Int),(([]:(List Int)),(List.replicate 3 (0:Int),(([]:Z4),(([]:(List Int)),(((0:Int),(([]:(List Int)),())),(([]:(List Int)),()))))))))))),((x.1,((0:Int),((0:Int),((0:Int),(x.2.2.2.2.2.1,(([]:(List Int)),(x.2.2.2.2.2.2.2.1,(([]:Z4),(([]:(List Int)),(((0:Int),(([]:(List Int)),())),(([]:(List Int)),()))))))))))),(x.2,())))) else (bif x.1==(3:Int) then some (Sum.inl (((0:Int),((0:Int),((0:Int),((0:Int),((0:Int),(([]:(List Int)),(List.replicate 3 (0:Int),(([]:Z4),(([]:(List Int)),(((0:Int),(([]:(List Int)),())),(([]:(List Int)),()))))))))))),((x.1,((0:Int),((0:Int),((0:Int),((0:Int),(([]:(List Int)),(List.replicate 3 (0:Int),(([]:Z4),(([]:(List Int)),(((0:Int),(([]:(List Int)),())),(([]:(List Int)),()))))))))))),(x.2,())))) else (bif x.1==(5:Int) then some (Sum.inr (Sum.inr ((((0:Int),((0:Int),((0:Int),((0:Int),((0:Int),(([]:(List Int)),(List.replicate 3 (0:Int),(([]:Z4),(([]:(List Int)),(((0:Int),(([]:(List Int)),())),(([]:(List Int)),()))))))))))),((x.1,((0:Int),((0:Int),((0:Int),((0:Int),(([]:(List Int)),(List.replicate 3 (0:Int),(([]:Z4),(([]:(List Int)),(((0:Int),(([]:(List Int)),())),(([]:(List Int)),()))))))))))),(x.2,())))))) else some (Sum.inr (Sum.inl (((0:Int),((0:Int),((0:Int),((0:Int),((0:Int),(([]:(List Int)),(List.replicate 3 (0:Int),(([]:Z4),(([]:(List Int)),(((0:Int),(([]:(List Int)),())),(([]:(List Int)),()))))))))))),((x.1,((0:Int),((0:Int),((0:Int),((0:Int),(([]:(List Int)),(List.replicate 3 (0:Int),(([]:Z4),(([]:(List Int)),(((0:Int),(([]:(List Int)),())),(([]:(List Int)),()))))))))))),())))))))).bind fun z1=> match z1 with |.inl a2=>((F_slices_Clone___int_int_v a2.2.2.1.2.2.2.2.2.1).bind fun y4=> some (a2.1,((a2.2.1.1,(a2.2.1.2.1,(a2.2.1.2.2.1,(a2.2.2.1.2.2.2.1,(a2.2.1.2.2.2.2.1,(y4,a2.2.1.2.2.2.2.2.2)))))),()))) |.inr b3=>(match b3 with |.inl a5=>some (a5.1,(a5.2.1,())) |.inr b6=>((F_slices_Clone___api_Stage_api_Stage_v b6.2.2.1.2.2.2.2.2.2.2.1).bind fun y7=> some (b6.1,((b6.2.1.1,(b6.2.1.2.1,(b6.2.1.2.2.1,(b6.2.1.2.2.2.1,(b6.2.1.2.2.2.2.1,(b6.2.1.2.2.2.2.2.1,(b6.2.1.2.2.2.2.2.2.1,(y7,b6.2.1.2.2.2.2.2.2.2.2)))))))),()))))).bind fun z8=> some z8.2.1
def S_sub_chosen:FSem:=⟨[.v (.int .i64),.v Q28],[.v Q28],F_sub_chosen⟩
def H67:Hints:=⟨[],[(7,[(.normal,[.box 4 Q28,.box 5 Q28,.ptr 4 4 [],.ptr 5 5 []])]),(232,[(.normal,[.box 4 Q28,.box 5 Q28,.vp 3 Q28,.ptr 4 4 [],.ptr 5 5 []]),(.exit 0,[.box 4 Q28,.box 5 Q28,.ptr 4 4 [],.ptr 5 5 []]),(.exit 4,[.box 4 Q28,.box 5 Q28,.vp 3 Q28,.ptr 4 4 [],.ptr 5 5 []])])],[(8,[.v,.v,.v,.v,.q,.w [0,5],.x,.x]),(9,[.v,.v,.v,.v,.v,.q,.w [0,5],.x,.x])]⟩
def F_sub_alone (x:Z78):Option Bool:= (F_sub_chosen (x.1,x)).bind fun y1=> bif x.2.2.1==y1.2.2.1 then (bif x.2.2.2.1==y1.2.2.2.1 then (bif x.2.2.2.2.1==y1.2.2.2.2.1 then (bif eqT (.arr 3 (.int .i64)) x.2.2.2.2.2.2.1 y1.2.2.2.2.2.2.1 then (bif ((List.length x.2.2.2.2.2.1:Nat):Int)==((List.length y1.2.2.2.2.2.1:Nat):Int) then some (((List.length x.2.2.2.2.2.2.2.1:Nat):Int)==((List.length y1.2.2.2.2.2.2.2.1:Nat):Int)) else some false) else some false) else some false) else some false) else some false
def S_sub_alone:FSem:=⟨[.v Q28],[.v .bool],F_sub_alone⟩
def H77:Hints:=⟨[],[],[]⟩
def F_parts_row (x:(Int×Int)):Option Bool:= bif decide ((1:Int)≤x.1) then (bif decide (x.1≤(4096:Int)) then (bif decide ((0:Int)≤x.2) then some (decide (x.2≤x.1)) else some false) else some false) else some false
def S_parts_row:FSem:=⟨[.v (.int .i64),.v (.int .i64)],[.v .bool],F_parts_row⟩
def H125:Hints:=⟨[],[],[]⟩
def F_parts_Sizes_l0 (st:Z12):Option (Z12 ⊕ ((List Int)×Unit)):= bif decide (st.1<0) then none else (bif decide (((List.length st.2.2.1:Nat):Int)<(gshl .i64 (1:Int) st.1)) then (bif lim ((List.length st.2.2.1)+1) then some (.inl (st.1,(st.2.1,(List.append st.2.2.1 ([st.2.1]:List Int),())))) else none) else some (.inr (st.2.2.1,())))
def F_parts_Sizes (x:(Int×(Int×Int))):Option (List Int):= (show Option Z18 from (F_parts_row (x.2.1,x.2.2)).bind fun y1=> bif !y1 then some (x.1,(x.2.1,(x.2.2,(true,())))) else (bif decide (x.1<(0:Int)) then some (x.1,(x.2.1,(x.2.2,(true,())))) else some (x.1,(x.2.1,(x.2.2,(decide (x.1 > (8:Int)),())))))).bind fun z2=> bif z2.2.2.2.1 then some ([]:(List Int)) else (bif decide (z2.1<0) then none else ((show Option Z18 from bif decide (z2.1<0) then none else (bif (gshl .i64 (gshr .i64 z2.2.1 z2.1) z2.1) != z2.2.1 then some (z2.1,(z2.2.2.1,(gshr .i64 z2.2.1 z2.1,(true,())))) else some (z2.1,(z2.2.2.1,(gshr .i64 z2.2.1 z2.1,(decide ((gshr .i64 z2.2.1 z2.1)<z2.2.2.1),())))))).bind fun z3=> bif z3.2.2.2.1 then some ([]:(List Int)) else ((iter F_parts_Sizes_l0 (z3.1,(z3.2.2.1,(([IntKind.wrap .i64 (z3.2.2.1-z3.2.1)]:List Int),())))).bind fun w4=> some w4.1)))
def S_parts_Sizes:FSem:=⟨[.v (.int .i64),.v (.int .i64),.v (.int .i64)],[.o (.int .i64)],F_parts_Sizes⟩
def H108:Hints:=⟨[(252,[.sv 0 (.int .i64),.sv 7 (.int .i64),.own 8 8 (.int .i64)],[(.exit 0,[.own 8 8 (.int .i64)])])],[(6,[(.normal,[.sv 0 (.int .i64),.sv 1 (.int .i64),.sv 2 (.int .i64),.sv 20 .bool])]),(30,[(.normal,[.sv 0 (.int .i64),.sv 2 (.int .i64),.sv 7 (.int .i64),.sv 33 .bool])])],[]⟩
def F_parts_May_l0 (st:Z11):Option Z47:= bif decide (st.2.2.1<st.2.1) then ((gidx st.1 st.2.2.1).bind fun x3=> (show Option Z24 from bif decide (x3<(0:Int)) then some (st.1,(st.2.1,(st.2.2.1,(x3 != (31:Int),())))) else (bif decide (x3 > (25:Int)) then some (st.1,(st.2.1,(st.2.2.1,(x3 != (31:Int),())))) else some (st.1,(st.2.1,(st.2.2.1,(false,())))))).bind fun z4=> bif z4.2.2.2.1 then some (.inr (Sum.inr ((false,())))) else some (.inl (z4.1,(z4.2.1,(IntKind.wrap .i64 (z4.2.2.1+(1:Int)),()))))) else some (.inr (Sum.inl ()))
def F_parts_May (x:(Z5×(Int×Int))):Option Bool:= (F_parts_Sizes (x.1.1,(x.2.1,x.2.2))).bind fun y1=> (show Option (Bool×Z15) from bif ((List.length y1:Nat):Int)==(0:Int) then some (true,(x.1,())) else some (((List.length x.1.2.1:Nat):Int) != ((List.length y1:Nat):Int),(x.1,()))).bind fun z2=> bif z2.1 then some false else ((iter F_parts_May_l0 (z2.2.1.2.1,(((List.length z2.2.1.2.1:Nat):Int),((0:Int),())))).bind fun w5=> match w5 with |.inl a6=>some true |.inr b7=>some b7.1)
def S_parts_May:FSem:=⟨[.v Q6,.v (.int .i64),.v (.int .i64)],[.v .bool],F_parts_May⟩
def H78:Hints:=⟨[(122,[.sv 27 (.list false (.int .i64)),.sv 28 (.int .i64),.sv 29 (.int .i64)],[(.exit 0,[]),(.ret,[.sv 6 .bool])])],[(14,[(.normal,[.sv 25 .bool,.vp 3 Q6])]),(7833,[(.normal,[.sv 27 (.list false (.int .i64)),.sv 28 (.int .i64),.sv 29 (.int .i64),.sv 42 .bool])])],[]⟩
def F_sub_stated (x:Z80):Option Bool:= (show Option Z83 from bif decide (x.2<(1:Int)) then some (x.2,(true,(x.1,()))) else (bif decide (x.2 > (4096:Int)) then some (x.2,(true,(x.1,()))) else ((F_sub_fit (x.1.1,(x.1,x.2))).bind fun y1=> bif !y1 then some (x.2,(true,(x.1,()))) else ((F_sub_alone x.1).bind fun y2=> some (x.2,(!y2,(x.1,()))))))).bind fun z3=> bif z3.2.1 then some false else ((show Option Z83 from bif decide (z3.2.2.1.2.1<(0:Int)) then some (z3.1,(true,(z3.2.2.1,()))) else (bif decide (z3.2.2.1.2.1 > (30:Int)) then some (z3.1,(true,(z3.2.2.1,()))) else (bif z3.2.2.1.1==(0:Int) then some (z3.1,(z3.2.2.1.2.1 != (0:Int),(z3.2.2.1,()))) else some (z3.1,(false,(z3.2.2.1,())))))).bind fun z4=> bif z4.2.1 then some false else ((F_sub_warmth (z4.2.2.1,z4.1)).bind fun y5=> (show Option (Int×Z83) from bif ((List.length z4.2.2.1.2.2.2.2.2.2.2.2.1:Nat):Int) != y5 then some (z4.1,(y5,(true,(z4.2.2.1,())))) else ((F_sub_allWide z4.2.2.1.2.2.2.2.2.2.2.2.1).bind fun y6=> bif !y6 then some (z4.1,(y5,(true,(z4.2.2.1,())))) else ((F_sub_allWide z4.2.2.1.2.2.2.2.2.2.2.2.2.2.1).bind fun y7=> some (z4.1,(y5,(!y7,(z4.2.2.1,()))))))).bind fun z8=> bif z8.2.2.1 then some false else ((F_sub_rested z8.2.2.2.1.1).bind fun y9=> bif !y9 then (bif ((List.length z8.2.2.2.1.2.2.2.2.2.2.2.2.2.2.1:Nat):Int)==(0:Int) then (bif z8.2.2.2.1.2.2.2.2.2.2.2.2.2.1.1==(0:Int) then some (((List.length z8.2.2.2.1.2.2.2.2.2.2.2.2.2.1.2.1:Nat):Int)==(0:Int)) else some false) else some false) else (bif ((List.length z8.2.2.2.1.2.2.2.2.2.2.2.2.2.2.1:Nat):Int)==(IntKind.wrap .i64 (z8.1-z8.2.1)) then ((F_parts_May (z8.2.2.2.1.2.2.2.2.2.2.2.2.2.1,(z8.1,z8.2.1))).bind fun y10=> some y10) else some false))))
def S_sub_stated:FSem:=⟨[.v Q28,.v (.int .i64)],[.v .bool],F_sub_stated⟩
def H37:Hints:=⟨[],[(6,[(.normal,[.sv 1 (.int .i64),.sv 24 .bool,.vp 2 Q28])]),(14,[(.normal,[.sv 1 (.int .i64),.sv 42 .bool,.vp 2 Q28])]),(62,[(.normal,[.sv 1 (.int .i64),.sv 5 (.int .i64),.sv 62 .bool,.vp 2 Q28])])],[]⟩
def F_fixed_wide_l0 (st:Z11):Option Z47:= bif decide (st.2.2.1<st.2.1) then ((gidx st.1 st.2.2.1).bind fun x1=> (show Option Z24 from bif decide (x1<(-1073741824:Int)) then some (st.1,(st.2.1,(st.2.2.1,(true,())))) else some (st.1,(st.2.1,(st.2.2.1,(decide (x1≥(1073741824:Int)),()))))).bind fun z2=> bif z2.2.2.2.1 then some (.inr (Sum.inr ((false,())))) else some (.inl (z2.1,(z2.2.1,(IntKind.wrap .i64 (z2.2.2.1+(1:Int)),()))))) else some (.inr (Sum.inl ()))
def F_fixed_wide (x:(List Int)):Option Bool:= (iter F_fixed_wide_l0 (x,(((List.length x:Nat):Int),((0:Int),())))).bind fun w3=> match w3 with |.inl a4=>some true |.inr b5=>some b5.1
def S_fixed_wide:FSem:=⟨[.v (.list false (.int .i64))],[.v .bool],F_fixed_wide⟩
def H127:Hints:=⟨[(26,[.sv 5 (.list false (.int .i64)),.sv 6 (.int .i64),.sv 7 (.int .i64)],[(.exit 0,[]),(.ret,[.sv 2 .bool])])],[(1689,[(.normal,[.sv 5 (.list false (.int .i64)),.sv 6 (.int .i64),.sv 7 (.int .i64),.sv 16 .bool])])],[]⟩
def F_fixed_guess_1 (x:(Int×(List Int))):Option (Int×(List Int)):= (gidx x.2 (IntKind.wrap .i64 (((List.length x.2:Nat):Int)-x.1))).bind fun x1=> some (x1,x.2)
def S_fixed_guess_1:FSem:=⟨[.v (.int .i64),.r (.list false (.int .i64))],[.v (.int .i64)],F_fixed_guess_1⟩
def H180:Hints:=⟨[],[],[]⟩
def F_fixed_guess (x:((List Int)×Int)):Option Int:= bif x.2==(1:Int) then ((F_fixed_guess_1 ((1:Int),x.1)).bind fun y1=> some y1.1) else (bif x.2==(2:Int) then ((F_fixed_guess_1 ((1:Int),x.1)).bind fun y2=> (F_fixed_guess_1 ((2:Int),y2.2)).bind fun y3=> some (IntKind.wrap .i64 ((IntKind.wrap .i64 ((2:Int)*y2.1))-y3.1))) else (bif x.2==(3:Int) then ((F_fixed_guess_1 ((1:Int),x.1)).bind fun y4=> (F_fixed_guess_1 ((2:Int),y4.2)).bind fun y5=> (F_fixed_guess_1 ((3:Int),y5.2)).bind fun y6=> some (IntKind.wrap .i64 ((IntKind.wrap .i64 ((IntKind.wrap .i64 ((3:Int)*y4.1))-(IntKind.wrap .i64 ((3:Int)*y5.1))))+y6.1))) else (bif x.2==(4:Int) then ((F_fixed_guess_1 ((1:Int),x.1)).bind fun y7=> (F_fixed_guess_1 ((2:Int),y7.2)).bind fun y8=> (F_fixed_guess_1 ((3:Int),y8.2)).bind fun y9=> (F_fixed_guess_1 ((4:Int),y9.2)).bind fun y10=> some (IntKind.wrap .i64 ((IntKind.wrap .i64 ((IntKind.wrap .i64 ((IntKind.wrap .i64 ((4:Int)*y7.1))-(IntKind.wrap .i64 ((6:Int)*y8.1))))+(IntKind.wrap .i64 ((4:Int)*y9.1))))-y10.1))) else some (0:Int))))
def S_fixed_guess:FSem:=⟨[.v (.list false (.int .i64)),.v (.int .i64)],[.v (.int .i64)],F_fixed_guess⟩
def H128:Hints:=⟨[],[],[]⟩
def F_fixed_Back_l0 (st:Z41):Option (Z41 ⊕ Z33):= bif decide (st.2.2.2.1<st.2.2.1) then ((gidx st.2.1 st.2.2.2.1).bind fun x5=> (F_fixed_guess (st.2.2.2.2.1,st.1)).bind fun y6=> (F_fixed_wide ([IntKind.wrap .i64 (x5+y6)]:List Int)).bind fun y7=> bif !y7 then some (.inr (Sum.inr (((6:Int),(([]:(List Int)),()))))) else (bif lim ((List.length st.2.2.2.2.1)+1) then some (.inl (st.1,(st.2.1,(st.2.2.1,(IntKind.wrap .i64 (st.2.2.2.1+(1:Int)),(List.append st.2.2.2.2.1 ([IntKind.wrap .i64 (x5+y6)]:List Int),())))))) else none)) else some (.inr (Sum.inl (st.2.2.2.2.1,())))
def F_fixed_Back (x:Z9):Option ((List Int)×Int):= (show Option Z34 from bif decide (x.2.2<(0:Int)) then some (x.1,(x.2.1,(x.2.2,(true,())))) else (bif decide (x.2.2 > (4:Int)) then some (x.1,(x.2.1,(x.2.2,(true,())))) else some (x.1,(x.2.1,(x.2.2,(((List.length x.1:Nat):Int) != x.2.2,())))))).bind fun z1=> bif z1.2.2.2.1 then some (([]:(List Int)),(1:Int)) else ((show Option Z34 from (F_fixed_wide z1.1).bind fun y2=> bif !y2 then some (z1.1,(z1.2.1,(z1.2.2.1,(true,())))) else ((F_fixed_wide z1.2.1).bind fun y3=> some (z1.1,(z1.2.1,(z1.2.2.1,(!y3,())))))).bind fun z4=> bif z4.2.2.2.1 then some (([]:(List Int)),(6:Int)) else (bif lim (List.length z4.1) then ((iter F_fixed_Back_l0 (z4.2.2.1,(z4.2.1,(((List.length z4.2.1:Nat):Int),((0:Int),(z4.1,())))))).bind fun w8=> match w8 with |.inl a9=>some (a9.1,(0:Int)) |.inr b10=>some (b10.2.1,b10.1)) else none))
def S_fixed_Back:FSem:=⟨[.v (.list false (.int .i64)),.v (.list false (.int .i64)),.v (.int .i64)],[.o (.int .i64),.v (.int .i64)],F_fixed_Back⟩
def H79:Hints:=⟨[(250,[.sv 2 (.int .i64),.sv 34 (.list false (.int .i64)),.sv 35 (.int .i64),.sv 36 (.int .i64),.own 8 8 (.int .i64)],[(.exit 0,[.own 8 8 (.int .i64)]),(.ret,[.sv 7 (.int .i64),.own 6 6 (.int .i64)])])],[(6,[(.normal,[.sv 0 (.list false (.int .i64)),.sv 1 (.list false (.int .i64)),.sv 2 (.int .i64),.sv 23 .bool])]),(14,[(.normal,[.sv 0 (.list false (.int .i64)),.sv 1 (.list false (.int .i64)),.sv 2 (.int .i64),.sv 31 .bool])])],[]⟩
def F_linear_wide (x:Int):Option Bool:= bif decide (x≥(-1073741824:Int)) then some (decide (x<(1073741824:Int))) else some false
def S_linear_wide:FSem:=⟨[.v (.int .i64)],[.v .bool],F_linear_wide⟩
def H131:Hints:=⟨[],[],[]⟩
def F_linear_allWide_l0 (st:Z11):Option Z47:= bif decide (st.2.2.1<st.2.1) then ((gidx st.1 st.2.2.1).bind fun x1=> (F_linear_wide x1).bind fun y2=> bif !y2 then some (.inr (Sum.inr ((false,())))) else some (.inl (st.1,(st.2.1,(IntKind.wrap .i64 (st.2.2.1+(1:Int)),()))))) else some (.inr (Sum.inl ()))
def F_linear_allWide (x:(List Int)):Option Bool:= (iter F_linear_allWide_l0 (x,(((List.length x:Nat):Int),((0:Int),())))).bind fun w3=> match w3 with |.inl a4=>some true |.inr b5=>some b5.1
def S_linear_allWide:FSem:=⟨[.v (.list false (.int .i64))],[.v .bool],F_linear_allWide⟩
def H129:Hints:=⟨[(26,[.sv 5 (.list false (.int .i64)),.sv 6 (.int .i64),.sv 7 (.int .i64)],[(.exit 0,[]),(.ret,[.sv 2 .bool])])],[],[]⟩
def F_linear_predict_l0 (st:Z51):Option (Z51 ⊕ (Int×(Int×Unit))):= bif decide (st.2.2.2.2.2.1<st.2.2.2.2.1) then ((gidx st.2.2.2.1 st.2.2.2.2.2.1).bind fun x1=> bif decide ((IntKind.wrap .i64 ((IntKind.wrap .i64 (((List.length st.1:Nat):Int)-(1:Int)))-st.2.2.2.2.2.1))<(0:Int)) then some (.inr (st.2.1,(st.2.2.1,()))) else ((gidx st.1 (IntKind.wrap .i64 ((IntKind.wrap .i64 (((List.length st.1:Nat):Int)-(1:Int)))-st.2.2.2.2.2.1))).bind fun x2=> some (.inl (st.1,(st.2.1,(IntKind.wrap .i64 (st.2.2.1+(IntKind.wrap .i64 (x1*x2))),(st.2.2.2.1,(st.2.2.2.2.1,(IntKind.wrap .i64 (st.2.2.2.2.2.1+(1:Int)),()))))))))) else some (.inr (st.2.1,(st.2.2.1,())))
def F_linear_predict (x:Z9):Option Int:= (iter F_linear_predict_l0 (x.1,(x.2.2,((0:Int),(x.2.1,(((List.length x.2.1:Nat):Int),((0:Int),()))))))).bind fun w3=> bif decide (w3.1<0) then none else some (gshr .i64 w3.2.1 w3.1)
def S_linear_predict:FSem:=⟨[.v (.list false (.int .i64)),.v (.list false (.int .i64)),.v (.int .i64)],[.v (.int .i64)],F_linear_predict⟩
def H130:Hints:=⟨[(58,[.sv 0 (.list false (.int .i64)),.sv 2 (.int .i64),.sv 7 (.int .i64),.sv 11 (.list false (.int .i64)),.sv 12 (.int .i64),.sv 13 (.int .i64)],[(.exit 0,[.sv 2 (.int .i64),.sv 7 (.int .i64)])])],[],[]⟩
def F_linear_Back_l0 (st:((List Int)×Z41)):Option (((List Int)×Z41) ⊕ Z33):= bif decide (st.2.2.2.2.1<st.2.2.2.1) then ((gidx st.2.2.1 st.2.2.2.2.1).bind fun x6=> (F_linear_predict (st.2.2.2.2.2.1,(st.1,st.2.1))).bind fun y7=> (F_linear_wide (IntKind.wrap .i64 (y7+x6))).bind fun y8=> bif !y8 then some (.inr (Sum.inr (((6:Int),(([]:(List Int)),()))))) else (bif lim ((List.length st.2.2.2.2.2.1)+1) then some (.inl (st.1,(st.2.1,(st.2.2.1,(st.2.2.2.1,(IntKind.wrap .i64 (st.2.2.2.2.1+(1:Int)),(List.append st.2.2.2.2.2.1 ([IntKind.wrap .i64 (y7+x6)]:List Int),()))))))) else none)) else some (.inr (Sum.inl (st.2.2.2.2.2.1,())))
def F_linear_Back (x:((List Int)×Z9)):Option ((List Int)×Int):= (show Option ((List Int)×Z34) from (F_linear_May (x.2.2.1,x.2.2.2)).bind fun y1=> bif !y1 then some (x.1,(x.2.1,(x.2.2.1,(x.2.2.2,(true,()))))) else some (x.1,(x.2.1,(x.2.2.1,(x.2.2.2,(((List.length x.1:Nat):Int) != ((List.length x.2.2.1:Nat):Int),())))))).bind fun z2=> bif z2.2.2.2.2.1 then some (([]:(List Int)),(1:Int)) else ((show Option ((List Int)×Z34) from (F_linear_allWide z2.1).bind fun y3=> bif !y3 then some (z2.1,(z2.2.1,(z2.2.2.1,(z2.2.2.2.1,(true,()))))) else ((F_linear_allWide z2.2.1).bind fun y4=> some (z2.1,(z2.2.1,(z2.2.2.1,(z2.2.2.2.1,(!y4,()))))))).bind fun z5=> bif z5.2.2.2.2.1 then some (([]:(List Int)),(6:Int)) else (bif (decide ((0:Int)≤(IntKind.wrap .i64 (((List.length z5.1:Nat):Int)+((List.length z5.2.1:Nat):Int)))))&&(lim (Int.toNat (IntKind.wrap .i64 (((List.length z5.1:Nat):Int)+((List.length z5.2.1:Nat):Int))))) then (bif lim (0+(List.length z5.1)) then ((iter F_linear_Back_l0 (z5.2.2.1,(z5.2.2.2.1,(z5.2.1,(((List.length z5.2.1:Nat):Int),((0:Int),(List.append ([]:(List Int)) z5.1,()))))))).bind fun w9=> match w9 with |.inl a10=>some (a10.1,(0:Int)) |.inr b11=>some (b11.2.1,b11.1)) else none) else none))
def S_linear_Back:FSem:=⟨[.v (.list false (.int .i64)),.v (.list false (.int .i64)),.v (.list false (.int .i64)),.v (.int .i64)],[.o (.int .i64),.v (.int .i64)],F_linear_Back⟩
def H80:Hints:=⟨[(506,[.sv 2 (.list false (.int .i64)),.sv 3 (.int .i64),.sv 42 (.list false (.int .i64)),.sv 43 (.int .i64),.sv 44 (.int .i64),.own 10 10 (.int .i64)],[(.exit 0,[.own 10 10 (.int .i64)]),(.ret,[.sv 9 (.int .i64),.own 8 8 (.int .i64)])])],[(6,[(.normal,[.sv 0 (.list false (.int .i64)),.sv 1 (.list false (.int .i64)),.sv 2 (.list false (.int .i64)),.sv 3 (.int .i64),.sv 24 .bool])]),(14,[(.normal,[.sv 0 (.list false (.int .i64)),.sv 1 (.list false (.int .i64)),.sv 2 (.list false (.int .i64)),.sv 3 (.int .i64),.sv 32 .bool])])],[]⟩
def F_long_wide (x:Int):Option Bool:= bif decide (x≥(-1073741824:Int)) then some (decide (x<(1073741824:Int))) else some false
def S_long_wide:FSem:=⟨[.v (.int .i64)],[.v .bool],F_long_wide⟩
def H134:Hints:=⟨[],[],[]⟩
def F_long_allWide_l0 (st:Z11):Option Z47:= bif decide (st.2.2.1<st.2.1) then ((gidx st.1 st.2.2.1).bind fun x1=> (F_long_wide x1).bind fun y2=> bif !y2 then some (.inr (Sum.inr ((false,())))) else some (.inl (st.1,(st.2.1,(IntKind.wrap .i64 (st.2.2.1+(1:Int)),()))))) else some (.inr (Sum.inl ()))
def F_long_allWide (x:(List Int)):Option Bool:= (iter F_long_allWide_l0 (x,(((List.length x:Nat):Int),((0:Int),())))).bind fun w3=> match w3 with |.inl a4=>some true |.inr b5=>some b5.1
def S_long_allWide:FSem:=⟨[.v (.list false (.int .i64))],[.v .bool],F_long_allWide⟩
def H132:Hints:=⟨[(26,[.sv 5 (.list false (.int .i64)),.sv 6 (.int .i64),.sv 7 (.int .i64)],[(.exit 0,[]),(.ret,[.sv 2 .bool])])],[],[]⟩
def F_long_predict_l0 (st:((List Int)×(Int×(Int×Z13)))):Option (((List Int)×(Int×(Int×Z13))) ⊕ (Int×Unit)):= bif decide (st.2.2.2.2.2.1<(3:Int)) then ((gidx st.2.2.2.2.1 st.2.2.2.2.2.1).bind fun x1=> bif decide ((IntKind.wrap .i64 ((IntKind.wrap .i64 ((IntKind.wrap .i64 (st.2.1-st.2.2.1))-(1:Int)))+st.2.2.2.2.2.1))≥(0:Int)) then ((gidx st.1 (IntKind.wrap .i64 ((IntKind.wrap .i64 ((IntKind.wrap .i64 (st.2.1-st.2.2.1))-(1:Int)))+st.2.2.2.2.2.1))).bind fun x2=> some (.inl (st.1,(st.2.1,(st.2.2.1,(IntKind.wrap .i64 (st.2.2.2.1+(IntKind.wrap .i64 (x1*x2))),(st.2.2.2.2.1,(IntKind.wrap .i64 (st.2.2.2.2.2.1+(1:Int)),())))))))) else some (.inl (st.1,(st.2.1,(st.2.2.1,(st.2.2.2.1,(st.2.2.2.2.1,(IntKind.wrap .i64 (st.2.2.2.2.2.1+(1:Int)),())))))))) else some (.inr (st.2.2.2.1,()))
def F_long_predict (x:((List Int)×Z1)):Option Int:= (iter F_long_predict_l0 (x.1,(x.2.1,(x.2.2.1,((0:Int),(x.2.2.2,((0:Int),()))))))).bind fun w3=> some (gshr .i64 w3.1 (6:Int))
def S_long_predict:FSem:=⟨[.v (.list false (.int .i64)),.v (.int .i64),.v (.int .i64),.v (.arr 3 (.int .i64))],[.v (.int .i64)],F_long_predict⟩
def H133:Hints:=⟨[(58,[.sv 0 (.list false (.int .i64)),.sv 1 (.int .i64),.sv 2 (.int .i64),.sv 9 (.int .i64),.sv 13 (.arr 3 (.int .i64)),.sv 14 (.int .i64)],[(.exit 0,[.sv 9 (.int .i64)])])],[],[]⟩
def F_long_Back_l0 (st:Z60):Option (Z60 ⊕ Z33):= bif decide (st.2.2.2.1<st.2.2.1) then ((gidx st.2.1 st.2.2.2.1).bind fun x3=> (F_long_predict (st.2.2.2.2.1,(st.2.2.2.1,(st.1,st.2.2.2.2.2.1)))).bind fun y4=> (F_long_wide (IntKind.wrap .i64 (x3+y4))).bind fun y5=> bif !y5 then some (.inr (Sum.inr (((6:Int),(([]:(List Int)),()))))) else (bif lim ((List.length st.2.2.2.2.1)+1) then some (.inl (st.1,(st.2.1,(st.2.2.1,(IntKind.wrap .i64 (st.2.2.2.1+(1:Int)),(List.append st.2.2.2.2.1 ([IntKind.wrap .i64 (x3+y4)]:List Int),(st.2.2.2.2.2.1,()))))))) else none)) else some (.inr (Sum.inl (st.2.2.2.2.1,())))
def F_long_Back (x:((List Int)×(Int×(List Int)))):Option ((List Int)×Int):= (F_long_May (x.2.1,x.2.2)).bind fun y1=> bif !y1 then some (([]:(List Int)),(1:Int)) else ((F_long_allWide x.1).bind fun y2=> bif !y2 then some (([]:(List Int)),(6:Int)) else (bif (decide ((0:Int)≤((List.length x.1:Nat):Int)))&&(lim (Int.toNat ((List.length x.1:Nat):Int))) then ((iter F_long_Back_l0 (x.2.1,(x.1,(((List.length x.1:Nat):Int),((0:Int),(([]:(List Int)),(x.2.2,()))))))).bind fun w6=> match w6 with |.inl a7=>some (a7.1,(0:Int)) |.inr b8=>some (b8.2.1,b8.1)) else none))
def S_long_Back:FSem:=⟨[.v (.list false (.int .i64)),.v (.int .i64),.v (.arr 3 (.int .i64))],[.o (.int .i64),.v (.int .i64)],F_long_Back⟩
def H81:Hints:=⟨[(250,[.sv 1 (.int .i64),.sv 22 (.list false (.int .i64)),.sv 23 (.int .i64),.sv 24 (.int .i64),.own 8 8 (.int .i64),.vp 5 (.arr 3 (.int .i64))],[(.exit 0,[.own 8 8 (.int .i64)]),(.ret,[.sv 7 (.int .i64),.own 6 6 (.int .i64)])])],[],[]⟩
def F_learn_wide (x:Int):Option Bool:= bif decide (x≥(-1073741824:Int)) then some (decide (x<(1073741824:Int))) else some false
def S_learn_wide:FSem:=⟨[.v (.int .i64)],[.v .bool],F_learn_wide⟩
def H139:Hints:=⟨[],[],[]⟩
def F_learn_allWide_l0 (st:Z11):Option Z47:= bif decide (st.2.2.1<st.2.1) then ((gidx st.1 st.2.2.1).bind fun x1=> (F_learn_wide x1).bind fun y2=> bif !y2 then some (.inr (Sum.inr ((false,())))) else some (.inl (st.1,(st.2.1,(IntKind.wrap .i64 (st.2.2.1+(1:Int)),()))))) else some (.inr (Sum.inl ()))
def F_learn_allWide (x:(List Int)):Option Bool:= (iter F_learn_allWide_l0 (x,(((List.length x:Nat):Int),((0:Int),())))).bind fun w3=> match w3 with |.inl a4=>some true |.inr b5=>some b5.1
def S_learn_allWide:FSem:=⟨[.v (.list false (.int .i64))],[.v .bool],F_learn_allWide⟩
def H135:Hints:=⟨[(26,[.sv 5 (.list false (.int .i64)),.sv 6 (.int .i64),.sv 7 (.int .i64)],[(.exit 0,[]),(.ret,[.sv 2 .bool])])],[],[]⟩
def F_learn_New (x:(Int×(Int×Unit))):Option (Z19×Int):= (F_learn_valid x).bind fun y1=> bif !y1 then none else (bif (decide ((0:Int)≤x.1))&&((decide (x.1≤x.1))&&(lim (Int.toNat x.1))) then (bif (decide ((0:Int)≤x.1))&&((decide (x.1≤x.1))&&(lim (Int.toNat x.1))) then some ((x.2.1,(List.replicate (Int.toNat x.1) (0:Int),(List.replicate (Int.toNat x.1) (0:Int),()))),(0:Int)) else none) else none)
def S_learn_New:FSem:=⟨[.v Q3],[.b Q9,.v (.int .i64)],F_learn_New⟩
def H137:Hints:=⟨[],[],[(3,[.v,.v,.v,.v,.q,.v,.v,.q,.x,.x,.x,.x])]⟩
def F_learn_nearest (x:Int):Option Int:= some (imin (imax x (-1073741824:Int)) (1073741823:Int))
def S_learn_nearest:FSem:=⟨[.v (.int .i64)],[.v (.int .i64)],F_learn_nearest⟩
def H182:Hints:=⟨[],[],[]⟩
def F_learn_Filter_Guess_l0 (st:Z62):Option (Z62 ⊕ Z43):= bif decide (st.2.2.1<st.2.1) then (bif (decide ((0:Int)≤st.2.2.1))&&(decide (st.2.2.1<((List.length st.2.2.2.1.2.1:Nat):Int))) then (bif (decide ((0:Int)≤st.2.2.1))&&(decide (st.2.2.1<((List.length st.2.2.2.1.2.2.1:Nat):Int))) then some (.inl (IntKind.wrap .i64 (st.1+(IntKind.wrap .i64 ((List.getD st.2.2.2.1.2.1 (Int.toNat st.2.2.1) (0:Int))*(List.getD st.2.2.2.1.2.2.1 (Int.toNat st.2.2.1) (0:Int))))),(st.2.1,(IntKind.wrap .i64 (st.2.2.1+(1:Int)),(st.2.2.2.1,()))))) else none) else none) else some (.inr (st.1,(st.2.2.2.1,())))
def F_learn_Filter_Guess (x:Z19):Option Z30:= (iter F_learn_Filter_Guess_l0 ((0:Int),(((List.length x.2.1:Nat):Int),((0:Int),(x,()))))).bind fun w1=> (F_learn_nearest (gshr .i64 w1.1 (16:Int))).bind fun y2=> some (y2,w1.2.1)
def S_learn_Filter_Guess:FSem:=⟨[.r Q9],[.v (.int .i64)],F_learn_Filter_Guess⟩
def H138:Hints:=⟨[(58,[.sv 3 (.int .i64),.sv 10 (.int .i64),.sv 11 (.int .i64),.box 1000000 Q9,.ptr 0 1000000 [],.ref 9 1000000 [.snd,.fst]],[(.exit 0,[.sv 3 (.int .i64),.box 1000000 Q9])])],[],[]⟩
def F_learn_Filter_Tell_l0 (st:(Int×Z62)):Option ((Int×Z62) ⊕ Z43):= bif decide (st.2.2.2.1<st.2.2.1) then (bif (decide ((0:Int)≤st.2.2.2.1))&&(decide (st.2.2.2.1<((List.length st.2.2.2.2.1.2.2.1:Nat):Int))) then (bif (decide ((0:Int)≤st.2.2.2.1))&&(decide (st.2.2.2.1<((List.length st.2.2.2.2.1.2.1:Nat):Int))) then ((show Option (Int×(Int×(Int×Z62))) from bif decide ((List.getD st.2.2.2.2.1.2.2.1 (Int.toNat st.2.2.2.1) (0:Int)) > (0:Int)) then some (st.1,(st.2.1,(st.2.2.2.1,(IntKind.wrap .i64 ((List.getD st.2.2.2.2.1.2.1 (Int.toNat st.2.2.2.1) (0:Int))+st.2.1),(st.2.2.1,(st.2.2.2.1,(st.2.2.2.2.1,()))))))) else (bif decide ((List.getD st.2.2.2.2.1.2.2.1 (Int.toNat st.2.2.2.1) (0:Int))<(0:Int)) then some (st.1,(st.2.1,(st.2.2.2.1,(IntKind.wrap .i64 ((List.getD st.2.2.2.2.1.2.1 (Int.toNat st.2.2.2.1) (0:Int))-st.2.1),(st.2.2.1,(st.2.2.2.1,(st.2.2.2.2.1,()))))))) else some (st.1,(st.2.1,(st.2.2.2.1,(List.getD st.2.2.2.2.1.2.1 (Int.toNat st.2.2.2.1) (0:Int),(st.2.2.1,(st.2.2.2.1,(st.2.2.2.2.1,()))))))))).bind fun z4=> bif (decide ((0:Int)≤z4.2.2.1))&&(decide (z4.2.2.1<((List.length z4.2.2.2.2.2.2.1.2.1:Nat):Int))) then some (.inl (z4.1,(z4.2.1,(z4.2.2.2.2.1,(IntKind.wrap .i64 (z4.2.2.2.2.2.1+(1:Int)),((z4.2.2.2.2.2.2.1.1,(List.set z4.2.2.2.2.2.2.1.2.1 (Int.toNat z4.2.2.1) (imin (imax z4.2.2.2.1 (-1048576:Int)) (1048576:Int)),z4.2.2.2.2.2.2.1.2.2)),())))))) else none) else none) else none) else some (.inr (st.1,(st.2.2.2.2.1,())))
def F_learn_Filter_Tell (x:(Z19×Int)):Option Z19:= (F_learn_nearest x.2).bind fun y1=> (show Option Z54 from (F_learn_Filter_Guess x.1).bind fun y2=> bif decide (y1 > y2.1) then (bif decide (y2.2.1<0) then none else some (y1,(gshl .i64 (1:Int) y2.2.1,(y2.2,())))) else (bif decide (y1<y2.1) then (bif decide (y2.2.1<0) then none else some (y1,(IntKind.wrap .i64 (0-(gshl .i64 (1:Int) y2.2.1)),(y2.2,())))) else some (y1,((0:Int),(y2.2,()))))).bind fun z3=> (iter F_learn_Filter_Tell_l0 (z3.1,(z3.2.1,(((List.length z3.2.2.1.2.2.1:Nat):Int),((0:Int),(z3.2.2.1,())))))).bind fun w5=> bif decide ((1:Int)≤((List.length w5.2.1.2.2.1:Nat):Int)) then (bif decide ((0:Int)<((List.length (gcopy w5.2.1.2.2.1 1 ((List.length w5.2.1.2.2.1)-1) w5.2.1.2.2.1):Nat):Int)) then some (w5.2.1.1,(w5.2.1.2.1,(List.set (gcopy w5.2.1.2.2.1 1 ((List.length w5.2.1.2.2.1)-1) w5.2.1.2.2.1) 0 w5.1,w5.2.1.2.2.2))) else none) else none
def S_learn_Filter_Tell:FSem:=⟨[.r Q9,.v (.int .i64)],[],F_learn_Filter_Tell⟩
def H140:Hints:=⟨[(122,[.sv 1 (.int .i64),.sv 4 (.int .i64),.sv 36 (.int .i64),.sv 37 (.int .i64),.box 1000000 Q9,.ptr 0 1000000 [],.ref 35 1000000 [.snd,.snd,.fst]],[(.exit 1,[.sv 1 (.int .i64),.box 1000000 Q9,.ptr 0 1000000 []])])],[(7,[(.normal,[.sv 1 (.int .i64),.sv 4 (.int .i64),.box 1000000 Q9,.ptr 0 1000000 []])]),(15667,[(.normal,[.sv 1 (.int .i64),.sv 4 (.int .i64),.sv 6 (.int .i64),.sv 8 (.int .i64),.sv 36 (.int .i64),.sv 37 (.int .i64),.box 1000000 Q9,.ptr 0 1000000 [],.ref 35 1000000 [.snd,.snd,.fst]])])],[(17,[.p,.p,.q,.q,.q,.p,.p,.q,.q,.x])]⟩
def F_learn_Back_l1 (st:(Int×(Int×((List Int)×Z61)))):Option ((Int×(Int×((List Int)×Z61))) ⊕ (Z20 ⊕ Z20)):= bif decide (st.2.1<st.1) then (bif (decide ((0:Int)≤st.2.1))&&(decide (st.2.1<((List.length st.2.2.2.2.1:Nat):Int))) then ((F_learn_Filter_Guess st.2.2.2.2.2.1).bind fun y6=> (F_learn_wide (IntKind.wrap .i64 (y6.1+(List.getD st.2.2.2.2.1 (Int.toNat st.2.1) (0:Int))))).bind fun y7=> bif !y7 then some (.inr (Sum.inr ((([]:(List Int)),((6:Int),(st.2.2.2.2.1,())))))) else ((F_learn_Filter_Tell (y6.2,IntKind.wrap .i64 (y6.1+(List.getD st.2.2.2.2.1 (Int.toNat st.2.1) (0:Int))))).bind fun y8=> bif (decide ((0:Int)≤st.2.1))&&(decide (st.2.1<((List.length st.2.2.2.2.1:Nat):Int))) then some (.inl (st.1,(IntKind.wrap .i64 (st.2.1+(1:Int)),(st.2.2.1,(st.2.2.2.1,(List.set st.2.2.2.2.1 (Int.toNat st.2.1) (IntKind.wrap .i64 (y6.1+(List.getD st.2.2.2.2.1 (Int.toNat st.2.1) (0:Int)))),(y8,()))))))) else none)) else none) else some (.inr (Sum.inl (st.2.2.1,(st.2.2.2.1,(st.2.2.2.2.1,())))))
def F_learn_Back_l0 (k:Int) (v:(Int×(Int×Unit))) (st:(Z4×Z20)):Option ((Z4×Z20) ⊕ (Ex×(Z4×Z20))):= (F_learn_New v).bind fun y4=> bif y4.2 != (0:Int) then some (.inr (.ret,(st.1,(([]:(List Int)),(y4.2,(st.2.2.2.1,())))))) else ((iter F_learn_Back_l1 (((List.length st.2.2.2.1:Nat):Int),((0:Int),(st.2.1,(st.2.2.1,(st.2.2.2.1,(y4.1,()))))))).bind fun w9=> match w9 with |.inl a10=>some (.inl (st.1,(a10.1,(a10.2.1,(a10.2.2.1,()))))) |.inr b11=>some (.inr (.ret,(st.1,(b11.1,(b11.2.1,(b11.2.2.1,())))))))
def F_learn_Back (x:((List Int)×Z4)):Option ((List Int)×Int):= (F_learn_May x.2).bind fun y1=> bif !y1 then some (([]:(List Int)),(1:Int)) else ((F_learn_allWide x.1).bind fun y2=> bif !y2 then some (([]:(List Int)),(6:Int)) else ((F_slices_Clone___int_int_ x.1).bind fun y3=> bif lim (List.length x.2) then ((backN F_learn_Back_l0 x.2 (List.length x.2) (x.2,(([]:(List Int)),((0:Int),(y3,()))))).bind fun w12=> match w12 with |.inl a13=>some (a13.2.2.2.1,(0:Int)) |.inr (.normal,a14)=>some (a14.2.2.2.1,(0:Int)) |.inr (.exit e15,a14)=>(bif e15==0 then some (a14.2.2.2.1,(0:Int)) else none) |.inr (.ret,a14)=>some (a14.2.1,a14.2.2.1)) else none))
def S_learn_Back:FSem:=⟨[.v (.list false (.int .i64)),.v (.list false Q3)],[.v (.list false (.int .i64)),.v (.int .i64)],F_learn_Back⟩
def H82:Hints:=⟨[(8046,[.sv 35 (.int .i64),.sv 36 (.int .i64),.box 1001004 (.list false (.int .i64)),.box 1001005 (.int .i64),.box 1001006 (.list true (.int .i64)),.box 1028 Q9,.ptr 4 1001004 [],.ptr 5 1001005 [],.ptr 6 1001006 [],.ptr 9 1028 [],.ref 34 1001006 []],[(.exit 2,[.box 1001004 (.list false (.int .i64)),.box 1001005 (.int .i64),.box 1001006 (.list true (.int .i64)),.ptr 4 1001004 [],.ptr 5 1001005 [],.ptr 6 1001006 []]),(.ret,[.box 1001004 (.list false (.int .i64)),.box 1001005 (.int .i64),.box 1001006 (.list true (.int .i64)),.ptr 4 1001004 [],.ptr 5 1001005 [],.ptr 6 1001006 []])])],[],[]⟩
def cx82:Cx:=cxOf [(115,S_learn_May),(116,S_slices_Clone___int_int_),(135,S_learn_allWide),(137,S_learn_New),(138,S_learn_Filter_Guess),(139,S_learn_wide),(140,S_learn_Filter_Tell)] [(6,.list true (.int .i64))] [0,1,9,10,11,12,13] [56]
def R82:HintR:=⟨22,Q3,136,181,[4,5,6],[.sv 22 (.list false Q3),.box 1001004 (.list false (.int .i64)),.box 1001005 (.int .i64),.box 1001006 (.list true (.int .i64)),.ptr 4 1001004 [],.ptr 5 1001005 [],.ptr 6 1001006 []]⟩
theorem eq82 (x):arunR cx82 H82 R82 Tryz.f82 S_learn_Back.ps S_learn_Back.rs x=S_learn_Back.F x:=by kernel_rfl
def F_sample_wide (x:Int):Option Bool:= bif decide ((-1073741824:Int)≤x) then some (decide (x<(1073741824:Int))) else some false
def S_sample_wide:FSem:=⟨[.v (.int .i64)],[.v .bool],F_sample_wide⟩
def H93:Hints:=⟨[],[],[]⟩
def F_sample_Up_l0 (st:Z41):Option (Z41 ⊕ Z33):= bif decide (st.2.2.2.1<st.2.2.1) then ((gidx st.2.1 st.2.2.2.1).bind fun x2=> (show Option (Int×(Int×((List Int)×(Int×(Int×Z6))))) from (F_sample_wide x2).bind fun y3=> bif !y3 then some (st.1,(x2,(st.2.1,(st.2.2.1,(st.2.2.2.1,(true,(st.2.2.2.2.1,()))))))) else (bif decide (st.1<0) then none else ((F_sample_wide (gshl .i64 x2 st.1)).bind fun y4=> some (st.1,(x2,(st.2.1,(st.2.2.1,(st.2.2.2.1,(!y4,(st.2.2.2.2.1,())))))))))).bind fun z5=> bif z5.2.2.2.2.2.1 then some (.inr (Sum.inr (((6:Int),(([]:(List Int)),()))))) else (bif decide (z5.1<0) then none else (bif lim ((List.length z5.2.2.2.2.2.2.1)+1) then some (.inl (z5.1,(z5.2.2.1,(z5.2.2.2.1,(IntKind.wrap .i64 (z5.2.2.2.2.1+(1:Int)),(List.append z5.2.2.2.2.2.2.1 ([gshl .i64 z5.2.1 z5.1]:List Int),())))))) else none))) else some (.inr (Sum.inl (st.2.2.2.2.1,())))
def F_sample_Up (x:((List Int)×Int)):Option ((List Int)×Int):= (show Option Z14 from bif decide (x.2<(0:Int)) then some (x.1,(x.2,(true,()))) else some (x.1,(x.2,(decide (x.2 > (30:Int)),())))).bind fun z1=> bif z1.2.2.1 then some (([]:(List Int)),(1:Int)) else ((iter F_sample_Up_l0 (z1.2.1,(z1.1,(((List.length z1.1:Nat):Int),((0:Int),(([]:(List Int)),())))))).bind fun w6=> match w6 with |.inl a7=>some (a7.1,(0:Int)) |.inr b8=>some (b8.2.1,b8.1))
def S_sample_Up:FSem:=⟨[.v (.list false (.int .i64)),.v (.int .i64)],[.o (.int .i64),.v (.int .i64)],F_sample_Up⟩
def H83:Hints:=⟨[(122,[.sv 1 (.int .i64),.sv 15 (.list false (.int .i64)),.sv 16 (.int .i64),.sv 17 (.int .i64),.own 6 6 (.int .i64)],[(.exit 0,[.own 6 6 (.int .i64)]),(.ret,[.sv 5 (.int .i64),.own 4 4 (.int .i64)])])],[(6,[(.normal,[.sv 0 (.list false (.int .i64)),.sv 1 (.int .i64),.sv 14 .bool])]),(15666,[(.normal,[.sv 1 (.int .i64),.sv 8 (.int .i64),.sv 15 (.list false (.int .i64)),.sv 16 (.int .i64),.sv 17 (.int .i64),.sv 30 .bool,.own 6 6 (.int .i64)])])],[]⟩
def F_sub_back_l0 (st:(Int×(Int×((List Int)×Z81)))):Option ((Int×(Int×((List Int)×Z81))) ⊕ ((List Int)×Unit)):= bif decide (st.2.1<st.1) then ((gidx st.2.2.2.1.2.2.2.2.2.2.2.2.1 (0:Int)).bind fun x1=> bif lim ((List.length st.2.2.1)+1) then some (.inl (st.1,(IntKind.wrap .i64 (st.2.1+(1:Int)),(List.append st.2.2.1 ([x1]:List Int),(st.2.2.2.1,()))))) else none) else some (.inr (st.2.2.1,()))
def F_sub_back (x:Z80):Option ((List Int)×Int):= (show Option (((List Int)×(Int×Z81)) ⊕ Z5) from bif x.1.1==(0:Int) then ((iter F_sub_back_l0 (x.2,((0:Int),(([]:(List Int)),(x.1,()))))).bind fun w2=> some (Sum.inr (((0:Int),(w2.1,()))))) else (bif x.1.1==(1:Int) then some (Sum.inl (x.1.2.2.2.2.2.2.2.2.1,((0:Int),(x.1,())))) else (bif x.1.1==(2:Int) then ((F_fixed_Back (x.1.2.2.2.2.2.2.2.2.1,(x.1.2.2.2.2.2.2.2.2.2.2.1,x.1.2.2.1))).bind fun y3=> some (Sum.inl (y3.1,(y3.2,(x.1,()))))) else (bif x.1.1==(3:Int) then ((F_linear_Back (x.1.2.2.2.2.2.2.2.2.1,(x.1.2.2.2.2.2.2.2.2.2.2.1,(x.1.2.2.2.2.2.1,x.1.2.2.2.1)))).bind fun y4=> some (Sum.inl (y4.1,(y4.2,(x.1,()))))) else (bif x.1.1==(4:Int) then ((F_linear_Back (x.1.2.2.2.2.2.2.2.2.1,(x.1.2.2.2.2.2.2.2.2.2.2.1,(x.1.2.2.2.2.2.1,x.1.2.2.2.1)))).bind fun y5=> bif y5.2==(0:Int) then ((F_long_Back (y5.1,(x.1.2.2.2.2.1,x.1.2.2.2.2.2.2.1))).bind fun y6=> some (Sum.inl (y6.1,(y6.2,(x.1,()))))) else some (Sum.inl (y5.1,(y5.2,(x.1,()))))) else (bif x.1.1==(5:Int) then ((F_learn_Back (x.1.2.2.2.2.2.2.2.2.2.2.1,x.1.2.2.2.2.2.2.2.1)).bind fun y7=> some (Sum.inl (y7.1,(y7.2,(x.1,()))))) else some (Sum.inl (([]:(List Int)),((0:Int),(x.1,())))))))))).bind fun z8=> match z8 with |.inl a9=>(bif a9.2.1 != (0:Int) then some (([]:(List Int)),a9.2.1) else ((F_sample_Up (a9.1,a9.2.2.1.2.1)).bind fun y11=> some (y11.1,y11.2))) |.inr b10=>some (b10.2.1,b10.1)
def S_sub_back:FSem:=⟨[.v Q28,.v (.int .i64)],[.o (.int .i64),.v (.int .i64)],F_sub_back⟩
def H38:Hints:=⟨[(3922,[.sv 12 (.int .i64),.sv 13 (.int .i64),.own 6 6 (.int .i64),.vp 2 Q28],[(.exit 1,[.own 6 6 (.int .i64)])])],[(15,[(.normal,[.sv 6 (.list false (.int .i64)),.sv 7 (.int .i64),.vp 2 Q28]),(.ret,[.sv 5 (.int .i64),.own 4 6 (.int .i64)])])],[]⟩
def F_sub_Row (x:Z80):Option ((List Int)×Int):= (F_sub_stated (x.1,x.2)).bind fun y1=> bif !y1 then some (([]:(List Int)),(1:Int)) else ((F_sub_back (x.1,x.2)).bind fun y2=> bif y2.2 != (0:Int) then some (([]:(List Int)),(1:Int)) else some (y2.1,(0:Int)))
def S_sub_Row:FSem:=⟨[.v Q28,.v (.int .i64)],[.o (.int .i64),.v (.int .i64)],F_sub_Row⟩
def H12:Hints:=⟨[],[],[]⟩
def F_sub_May (x:Z80):Option Bool:= (F_sub_Row (x.1,x.2)).bind fun y1=> some (y1.2==(0:Int))
def S_sub_May:FSem:=⟨[.v Q28,.v (.int .i64)],[.v .bool],F_sub_May⟩
def H14:Hints:=⟨[],[],[]⟩
def F_bits_Writer_bit (x:(Z3×Int)):Option Z3:= (show Option Z25 from bif (Int.tmod x.1.2.1 (8:Int))==(0:Int) then (bif lim ((List.length x.1.1)+1) then some (x.2,((List.append x.1.1 ([(0:Int)]:List Int),x.1.2),())) else none) else some (x.2,(x.1,()))).bind fun z1=> bif (decide ((0:Int)≤(IntKind.wrap .i64 (Int.tdiv z1.2.1.2.1 (8:Int)))))&&(decide ((IntKind.wrap .i64 (Int.tdiv z1.2.1.2.1 (8:Int)))<((List.length z1.2.1.1:Nat):Int))) then (bif decide ((IntKind.wrap .i64 ((7:Int)-(Int.tmod z1.2.1.2.1 (8:Int))))<0) then none else (bif (decide ((0:Int)≤(IntKind.wrap .i64 (Int.tdiv z1.2.1.2.1 (8:Int)))))&&(decide ((IntKind.wrap .i64 (Int.tdiv z1.2.1.2.1 (8:Int)))<((List.length z1.2.1.1:Nat):Int))) then some (List.set z1.2.1.1 (Int.toNat (IntKind.wrap .i64 (Int.tdiv z1.2.1.2.1 (8:Int)))) (bits .u8 .or (List.getD z1.2.1.1 (Int.toNat (IntKind.wrap .i64 (Int.tdiv z1.2.1.2.1 (8:Int)))) (0:Int)) (gshl .u8 z1.1 (IntKind.wrap .i64 ((7:Int)-(Int.tmod z1.2.1.2.1 (8:Int)))))),(IntKind.wrap .i64 (z1.2.1.2.1+(1:Int)),z1.2.1.2.2)) else none)) else none
def S_bits_Writer_bit:FSem:=⟨[.r Q4,.v (.int .u8)],[],F_bits_Writer_bit⟩
def H55:Hints:=⟨[],[(1,[(.normal,[.sv 1 (.int .u8),.box 1000000 Q4,.ptr 0 1000000 []])])],[(2,[.p,.p,.q,.q,.p,.p,.q,.q,.v,.q,.q,.v,.p,.p,.q,.q,.v,.v,.v,.x,.x,.x])]⟩
def F_bits_Writer_Put_l0 (st:Z37):Option (Z37 ⊕ Z16):= bif decide (st.2.1≥(0:Int)) then (bif decide (st.2.1<0) then none else ((F_bits_Writer_bit (st.2.2.1,IntKind.wrap .u8 (bits .u64 .and (gshr .u64 st.1 st.2.1) (1:Int)))).bind fun y2=> some (.inl (st.1,(IntKind.wrap .i64 (st.2.1-(1:Int)),(y2,())))))) else some (.inr (st.2.2.1,()))
def F_bits_Writer_Put (x:(Z3×(Int×Int))):Option Z13:= (show Option (Int×(Int×(Bool×Z16))) from bif decide (x.2.2<(0:Int)) then some (x.2.1,(x.2.2,(true,(x.1,())))) else (bif decide (x.2.2 > (64:Int)) then some (x.2.1,(x.2.2,(true,(x.1,())))) else (bif decide (x.2.2<0) then none else some (x.2.1,(x.2.2,((gshr .u64 x.2.1 x.2.2) != (0:Int),(x.1,()))))))).bind fun z1=> bif z1.2.2.1 then some ((1:Int),z1.2.2.2.1) else ((iter F_bits_Writer_Put_l0 (z1.1,(IntKind.wrap .i64 (z1.2.1-(1:Int)),(z1.2.2.2.1,())))).bind fun w3=> some ((0:Int),w3.1))
def S_bits_Writer_Put:FSem:=⟨[.r Q4,.v (.int .u64),.v (.int .i64)],[.v (.int .i64)],F_bits_Writer_Put⟩
def H23:Hints:=⟨[(58,[.sv 1 (.int .u64),.sv 7 (.int .i64),.box 1000000 Q4,.ptr 0 1000000 []],[(.exit 0,[.box 1000000 Q4])])],[(6,[(.normal,[.sv 1 (.int .u64),.sv 2 (.int .i64),.sv 19 .bool,.box 1000000 Q4,.ptr 0 1000000 []])])],[]⟩
def F_sample_Low (x:Int):Option Int:= (show Option (Int×(Bool×Unit)) from bif decide (x<(1:Int)) then some (x,(true,())) else some (x,(decide (x > (31:Int)),()))).bind fun z1=> bif z1.2.1 then some (0:Int) else (bif decide ((IntKind.wrap .i64 (z1.1-(1:Int)))<0) then none else some (gshl .i64 (-1:Int) (IntKind.wrap .i64 (z1.1-(1:Int)))))
def S_sample_Low:FSem:=⟨[.v (.int .i64)],[.v (.int .i64)],F_sample_Low⟩
def H164:Hints:=⟨[],[(6,[(.normal,[.sv 0 (.int .i64),.sv 8 .bool])])],[]⟩
def F_sample_High (x:Int):Option Int:= (show Option (Int×(Bool×Unit)) from bif decide (x<(1:Int)) then some (x,(true,())) else some (x,(decide (x > (31:Int)),()))).bind fun z1=> bif z1.2.1 then some (0:Int) else (bif decide ((IntKind.wrap .i64 (z1.1-(1:Int)))<0) then none else some (IntKind.wrap .i64 ((gshl .i64 (1:Int) (IntKind.wrap .i64 (z1.1-(1:Int))))-(1:Int))))
def S_sample_High:FSem:=⟨[.v (.int .i64)],[.v (.int .i64)],F_sample_High⟩
def H165:Hints:=⟨[],[(6,[(.normal,[.sv 0 (.int .i64),.sv 8 .bool])])],[]⟩
def F_sample_Fits (x:(Int×Int)):Option Bool:= bif decide (x.2≥(1:Int)) then (bif decide (x.2≤(31:Int)) then ((F_sample_Low x.2).bind fun y1=> bif decide (y1≤x.1) then ((F_sample_High x.2).bind fun y2=> some (decide (x.1≤y2))) else some false) else some false) else some false
def S_sample_Fits:FSem:=⟨[.v (.int .i64),.v (.int .i64)],[.v .bool],F_sample_Fits⟩
def H106:Hints:=⟨[],[],[]⟩
def F_sample_Width_l0 (st:Z35):Option (Z35 ⊕ Z21):= bif st.2.1 != (0:Int) then (bif decide (st.1<(32:Int)) then ((F_sample_Fits (st.2.1,st.1)).bind fun y2=> bif !y2 then some (.inl (IntKind.wrap .i64 (st.1+(1:Int)),(st.2.1,(st.2.2.1,(st.2.2.2.1,(st.2.2.2.2.1,())))))) else some (.inr (st.1,(st.2.2.1,(st.2.2.2.1,(st.2.2.2.2.1,())))))) else some (.inr (st.1,(st.2.2.1,(st.2.2.2.1,(st.2.2.2.2.1,())))))) else some (.inr (st.1,(st.2.2.1,(st.2.2.2.1,(st.2.2.2.2.1,())))))
def F_sample_Width_l1 (st:Z21):Option (Z21 ⊕ (Int×Unit)):= bif decide (st.2.2.2.1<st.2.2.1) then ((gidx st.2.1 st.2.2.2.1).bind fun x1=> (iter F_sample_Width_l0 (st.1,(x1,(st.2.1,(st.2.2.1,(st.2.2.2.1,())))))).bind fun w3=> some (.inl (w3.1,(w3.2.1,(w3.2.2.1,(IntKind.wrap .i64 (w3.2.2.2.1+(1:Int)),())))))) else some (.inr (st.1,()))
def F_sample_Width (x:(List Int)):Option Int:= (iter F_sample_Width_l1 ((0:Int),(x,(((List.length x:Nat):Int),((0:Int),()))))).bind fun w4=> some w4.1
def S_sample_Width:FSem:=⟨[.v (.list false (.int .i64))],[.v (.int .i64)],F_sample_Width⟩
def H56:Hints:=⟨[(58,[.sv 3 (.int .i64),.sv 6 (.list false (.int .i64)),.sv 7 (.int .i64),.sv 8 (.int .i64)],[(.exit 0,[.sv 3 (.int .i64)])]),(7474,[.sv 3 (.int .i64),.sv 5 (.int .i64),.sv 6 (.list false (.int .i64)),.sv 7 (.int .i64),.sv 8 (.int .i64)],[(.exit 2,[.sv 3 (.int .i64),.sv 6 (.list false (.int .i64)),.sv 7 (.int .i64),.sv 8 (.int .i64)])])],[],[]⟩
def F_sub_putSigned (x:(Z3×(Int×Int))):Option Z3:= bif decide (x.2.2<0) then none else ((F_bits_Writer_Put (x.1,(bits .u64 .and (IntKind.wrap .u64 x.2.1) (IntKind.wrap .u64 ((gshl .u64 (1:Int) x.2.2)-(1:Int))),x.2.2))).bind fun y1=> some y1.2)
def S_sub_putSigned:FSem:=⟨[.r Q4,.v (.int .i64),.v (.int .i64)],[],F_sub_putSigned⟩
def H57:Hints:=⟨[],[],[]⟩
def F_sub_putCoefs_l0 (st:Z63):Option (Z63 ⊕ Z16):= bif decide (st.2.2.2.1<st.2.2.1) then ((gidx st.2.1 st.2.2.2.1).bind fun x6=> (F_sub_putSigned (st.2.2.2.2.1,(x6,st.1))).bind fun y7=> some (.inl (st.1,(st.2.1,(st.2.2.1,(IntKind.wrap .i64 (st.2.2.2.1+(1:Int)),(y7,()))))))) else some (.inr (st.2.2.2.2.1,()))
def F_sub_putCoefs (x:(Z3×Z78)):Option Z3:= (F_bits_Writer_Put (x.1,(IntKind.wrap .u64 (IntKind.wrap .i64 (((List.length x.2.2.2.2.2.2.1:Nat):Int)-(1:Int))),(5:Int)))).bind fun y1=> (F_bits_Writer_Put (y1.2,(IntKind.wrap .u64 x.2.2.2.2.1,(4:Int)))).bind fun y2=> (F_sample_Width x.2.2.2.2.2.2.1).bind fun y3=> (F_bits_Writer_Put (y2.2,(IntKind.wrap .u64 y3,(5:Int)))).bind fun y4=> (iter F_sub_putCoefs_l0 (y3,(x.2.2.2.2.2.2.1,(((List.length x.2.2.2.2.2.2.1:Nat):Int),((0:Int),(y4.2,())))))).bind fun w8=> some w8.1
def S_sub_putCoefs:FSem:=⟨[.r Q4,.v Q28],[],F_sub_putCoefs⟩
def H58:Hints:=⟨[(254,[.sv 4 (.int .i64),.sv 27 (.list false (.int .i64)),.sv 28 (.int .i64),.sv 29 (.int .i64),.box 1000000 Q4,.ptr 0 1000000 []],[(.exit 0,[.box 1000000 Q4])])],[],[]⟩
def F_parts_right_l0 (st:Z11):Option Z47:= bif decide (st.2.2.1<st.2.1) then ((gidx st.1 st.2.2.1).bind fun x3=> (show Option Z24 from bif decide (x3<(-1073741824:Int)) then some (st.1,(st.2.1,(st.2.2.1,(true,())))) else some (st.1,(st.2.1,(st.2.2.1,(decide (x3≥(1073741824:Int)),()))))).bind fun z4=> bif z4.2.2.2.1 then some (.inr (Sum.inr ((false,())))) else some (.inl (z4.1,(z4.2.1,(IntKind.wrap .i64 (z4.2.2.1+(1:Int)),()))))) else some (.inr (Sum.inl ()))
def F_parts_right (x:Z1):Option Bool:= (show Option ((List Int)×(Bool×Unit)) from (F_parts_row (x.1,x.2.1)).bind fun y1=> bif !y1 then some (x.2.2,(true,())) else some (x.2.2,(((List.length x.2.2:Nat):Int) != (IntKind.wrap .i64 (x.1-x.2.1)),()))).bind fun z2=> bif z2.2.1 then some false else ((iter F_parts_right_l0 (z2.1,(((List.length z2.1:Nat):Int),((0:Int),())))).bind fun w5=> match w5 with |.inl a6=>some true |.inr b7=>some b7.1)
def S_parts_right:FSem:=⟨[.v (.int .i64),.v (.int .i64),.v (.list false (.int .i64))],[.v .bool],F_parts_right⟩
def H122:Hints:=⟨[(58,[.sv 21 (.list false (.int .i64)),.sv 22 (.int .i64),.sv 23 (.int .i64)],[(.exit 0,[]),(.ret,[.sv 6 .bool])])],[(6,[(.normal,[.sv 2 (.list false (.int .i64)),.sv 20 .bool])]),(3737,[(.normal,[.sv 21 (.list false (.int .i64)),.sv 22 (.int .i64),.sv 23 (.int .i64),.sv 32 .bool])])],[]⟩
def F_parts_raw (x:(List Int)):Option Int:= (F_sample_Width x).bind fun y1=> some (IntKind.wrap .i64 ((5:Int)+(IntKind.wrap .i64 (y1*((List.length x:Nat):Int)))))
def S_parts_raw:FSem:=⟨[.v (.list false (.int .i64))],[.v (.int .i64)],F_parts_raw⟩
def H166:Hints:=⟨[],[],[]⟩
def F_rice_parameter (x:Int):Option Bool:= bif decide ((0:Int)≤x) then some (decide (x≤(25:Int))) else some false
def S_rice_parameter:FSem:=⟨[.v (.int .i64)],[.v .bool],F_rice_parameter⟩
def H168:Hints:=⟨[],[],[]⟩
def F_rice_wide (x:Int):Option Bool:= bif decide ((-1073741824:Int)≤x) then some (decide (x<(1073741824:Int))) else some false
def S_rice_wide:FSem:=⟨[.v (.int .i64)],[.v .bool],F_rice_wide⟩
def H169:Hints:=⟨[],[],[]⟩
def F_rice_Fold (x:Int):Option Int:= (F_rice_wide x).bind fun y1=> bif !y1 then some (0:Int) else (bif decide (x≥(0:Int)) then some (IntKind.wrap .u64 (IntKind.wrap .i64 ((2:Int)*x))) else some (IntKind.wrap .u64 (IntKind.wrap .i64 ((IntKind.wrap .i64 ((-2:Int)*x))-(1:Int)))))
def S_rice_Fold:FSem:=⟨[.v (.int .i64)],[.v (.int .u64)],F_rice_Fold⟩
def H170:Hints:=⟨[],[],[]⟩
def F_rice_Cost (x:(Int×Int)):Option Int:= (show Option Z8 from (F_rice_parameter x.1).bind fun y1=> bif !y1 then some (x.1,(x.2,(true,()))) else ((F_rice_wide x.2).bind fun y2=> some (x.1,(x.2,(!y2,()))))).bind fun z3=> bif z3.2.2.1 then some (0:Int) else ((F_rice_Fold z3.2.1).bind fun y4=> bif decide (z3.1<0) then none else (bif decide ((IntKind.wrap .i64 (gshr .u64 y4 z3.1))<(32:Int)) then some (IntKind.wrap .i64 ((IntKind.wrap .i64 ((IntKind.wrap .i64 (gshr .u64 y4 z3.1))+(1:Int)))+z3.1)) else some (65:Int)))
def S_rice_Cost:FSem:=⟨[.v (.int .i64),.v (.int .i64)],[.v (.int .i64)],F_rice_Cost⟩
def H195:Hints:=⟨[],[(6,[(.normal,[.sv 0 (.int .i64),.sv 1 (.int .i64),.sv 13 .bool])])],[]⟩
def F_rice_Sum_l0 (st:Z35):Option (Z35 ⊕ (Int×Unit)):= bif decide (st.2.2.2.2.1<st.2.2.2.1) then ((gidx st.2.2.1 st.2.2.2.2.1).bind fun x1=> (F_rice_Cost (st.1,x1)).bind fun y2=> some (.inl (st.1,(IntKind.wrap .i64 (st.2.1+y2),(st.2.2.1,(st.2.2.2.1,(IntKind.wrap .i64 (st.2.2.2.2.1+(1:Int)),()))))))) else some (.inr (st.2.1,()))
def F_rice_Sum (x:(Int×(List Int))):Option Int:= (iter F_rice_Sum_l0 (x.1,((0:Int),(x.2,(((List.length x.2:Nat):Int),((0:Int),())))))).bind fun w3=> some w3.1
def S_rice_Sum:FSem:=⟨[.v (.int .i64),.v (.list false (.int .i64))],[.v (.int .i64)],F_rice_Sum⟩
def H167:Hints:=⟨[(58,[.sv 0 (.int .i64),.sv 5 (.int .i64),.sv 8 (.list false (.int .i64)),.sv 9 (.int .i64),.sv 10 (.int .i64)],[(.exit 0,[.sv 5 (.int .i64)])])],[],[]⟩
def F_parts_Cost_l0 (st:((List Int)×(Int×(Int×(Int×((List Int)×Z15)))))):Option (((List Int)×(Int×(Int×(Int×((List Int)×Z15))))) ⊕ (Int×Unit)):= bif decide (st.2.2.2.1<st.2.2.1) then (bif (decide ((0:Int)≤st.2.2.2.1))&&(decide (st.2.2.2.1<((List.length st.2.2.2.2.1:Nat):Int))) then (bif (decide ((0:Int)≤(List.getD st.2.2.2.2.1 (Int.toNat st.2.2.2.1) (0:Int))))&&(decide ((List.getD st.2.2.2.2.1 (Int.toNat st.2.2.2.1) (0:Int))≤((List.length st.1:Nat):Int))) then (bif (decide ((0:Int)≤(List.getD st.2.2.2.2.1 (Int.toNat st.2.2.2.1) (0:Int))))&&(decide ((List.getD st.2.2.2.2.1 (Int.toNat st.2.2.2.1) (0:Int))≤((List.length st.1:Nat):Int))) then ((gidx st.2.2.2.2.2.1.2.1 st.2.2.2.1).bind fun x5=> bif x5==(31:Int) then ((F_parts_raw (List.take (Int.toNat (List.getD st.2.2.2.2.1 (Int.toNat st.2.2.2.1) (0:Int))) st.1)).bind fun y6=> some (.inl (List.drop (Int.toNat (List.getD st.2.2.2.2.1 (Int.toNat st.2.2.2.1) (0:Int))) (List.take (List.length st.1) st.1),(IntKind.wrap .i64 (st.2.1+(IntKind.wrap .i64 ((5:Int)+y6))),(st.2.2.1,(IntKind.wrap .i64 (st.2.2.2.1+(1:Int)),(st.2.2.2.2.1,(st.2.2.2.2.2.1,())))))))) else ((gidx st.2.2.2.2.2.1.2.1 st.2.2.2.1).bind fun x7=> (F_rice_Sum (x7,List.take (Int.toNat (List.getD st.2.2.2.2.1 (Int.toNat st.2.2.2.1) (0:Int))) st.1)).bind fun y8=> some (.inl (List.drop (Int.toNat (List.getD st.2.2.2.2.1 (Int.toNat st.2.2.2.1) (0:Int))) (List.take (List.length st.1) st.1),(IntKind.wrap .i64 (st.2.1+(IntKind.wrap .i64 ((5:Int)+y8))),(st.2.2.1,(IntKind.wrap .i64 (st.2.2.2.1+(1:Int)),(st.2.2.2.2.1,(st.2.2.2.2.2.1,()))))))))) else none) else none) else none) else some (.inr (st.2.1,()))
def F_parts_Cost (x:(Z5×Z1)):Option Int:= (show Option (Int×(Int×((List Int)×(Bool×Z15)))) from (F_parts_May (x.1,(x.2.1,x.2.2.1))).bind fun y1=> bif !y1 then some (x.2.1,(x.2.2.1,(x.2.2.2,(true,(x.1,()))))) else ((F_parts_right (x.2.1,(x.2.2.1,x.2.2.2))).bind fun y2=> some (x.2.1,(x.2.2.1,(x.2.2.2,(!y2,(x.1,()))))))).bind fun z3=> bif z3.2.2.2.1 then some (0:Int) else ((F_parts_Sizes (z3.2.2.2.2.1.1,(z3.1,z3.2.1))).bind fun y4=> (iter F_parts_Cost_l0 (z3.2.2.1,((4:Int),(((List.length y4:Nat):Int),((0:Int),(y4,(z3.2.2.2.2.1,()))))))).bind fun w9=> some w9.1)
def S_parts_Cost:FSem:=⟨[.v Q6,.v (.int .i64),.v (.int .i64),.v (.list false (.int .i64))],[.v (.int .i64)],F_parts_Cost⟩
def H107:Hints:=⟨[(122,[.sv 3 (.list false (.int .i64)),.sv 9 (.int .i64),.sv 30 (.int .i64),.sv 31 (.int .i64),.own 29 1029 (.int .i64),.vp 4 Q6],[(.exit 0,[.sv 9 (.int .i64)])])],[(6,[(.normal,[.sv 1 (.int .i64),.sv 2 (.int .i64),.sv 3 (.list false (.int .i64)),.sv 24 .bool,.vp 4 Q6])])],[]⟩
def F_bits_Writer_Unary_l0 (st:Z37):Option (Z37 ⊕ Z16):= bif decide (st.2.1<st.1) then ((F_bits_Writer_bit (st.2.2.1,(0:Int))).bind fun y2=> some (.inl (st.1,(IntKind.wrap .i64 (st.2.1+(1:Int)),(y2,()))))) else some (.inr (st.2.2.1,()))
def F_bits_Writer_Unary (x:(Z3×Int)):Option Z13:= (show Option (Int×(Bool×Z16)) from bif decide (x.2<(0:Int)) then some (x.2,(true,(x.1,()))) else some (x.2,(decide (x.2 > (4096:Int)),(x.1,())))).bind fun z1=> bif z1.2.1 then some ((1:Int),z1.2.2.1) else ((iter F_bits_Writer_Unary_l0 (z1.1,((0:Int),(z1.2.2.1,())))).bind fun w3=> (F_bits_Writer_bit (w3.1,(1:Int))).bind fun y4=> some ((0:Int),y4))
def S_bits_Writer_Unary:FSem:=⟨[.r Q4,.v (.int .i64)],[.v (.int .i64)],F_bits_Writer_Unary⟩
def H171:Hints:=⟨[(58,[.sv 11 (.int .i64),.sv 12 (.int .i64),.box 1000000 Q4,.ptr 0 1000000 []],[(.exit 0,[.box 1000000 Q4,.ptr 0 1000000 []])])],[(6,[(.normal,[.sv 1 (.int .i64),.sv 10 .bool,.box 1000000 Q4,.ptr 0 1000000 []])])],[]⟩
def F_rice_Put_l0 (st:(Int×((List Int)×Z55))):Option ((Int×((List Int)×Z55)) ⊕ ((Int×((List Int)×Z16)) ⊕ Z25)):= bif decide (st.2.2.2.2.1<st.2.2.2.1) then ((gidx st.2.2.1 st.2.2.2.2.1).bind fun x2=> (F_rice_wide x2).bind fun y3=> bif !y3 then some (.inr (Sum.inr (((1:Int),(st.2.2.2.2.2.1,()))))) else some (.inl (st.1,(st.2.1,(st.2.2.1,(st.2.2.2.1,(IntKind.wrap .i64 (st.2.2.2.2.1+(1:Int)),(st.2.2.2.2.2.1,())))))))) else some (.inr (Sum.inl (st.1,(st.2.1,(st.2.2.2.2.2.1,())))))
def F_rice_Put_l1 (st:Z63):Option (Z63 ⊕ Z16):= bif decide (st.2.2.2.1<st.2.2.1) then ((gidx st.2.1 st.2.2.2.1).bind fun x7=> (F_rice_Fold x7).bind fun y8=> bif decide (st.1<0) then none else (bif decide ((gshr .u64 y8 st.1)<(32:Int)) then ((F_bits_Writer_Unary (st.2.2.2.2.1,IntKind.wrap .i64 (gshr .u64 y8 st.1))).bind fun y9=> bif decide (st.1<0) then none else ((F_bits_Writer_Put (y9.2,(IntKind.wrap .u64 (y8-(gshl .u64 (gshr .u64 y8 st.1) st.1)),st.1))).bind fun y10=> some (.inl (st.1,(st.2.1,(st.2.2.1,(IntKind.wrap .i64 (st.2.2.2.1+(1:Int)),(y10.2,())))))))) else ((F_bits_Writer_Unary (st.2.2.2.2.1,(32:Int))).bind fun y11=> (F_bits_Writer_Put (y11.2,(y8,(32:Int)))).bind fun y12=> some (.inl (st.1,(st.2.1,(st.2.2.1,(IntKind.wrap .i64 (st.2.2.2.1+(1:Int)),(y12.2,()))))))))) else some (.inr (st.2.2.2.2.1,()))
def F_rice_Put (x:(Z3×(Int×(List Int)))):Option Z13:= (F_rice_parameter x.2.1).bind fun y1=> bif !y1 then some ((1:Int),x.1) else ((iter F_rice_Put_l0 (x.2.1,(x.2.2,(x.2.2,(((List.length x.2.2:Nat):Int),((0:Int),(x.1,()))))))).bind fun w4=> match w4 with |.inl a5=>((iter F_rice_Put_l1 (a5.1,(a5.2.1,(((List.length a5.2.1:Nat):Int),((0:Int),(a5.2.2.1,())))))).bind fun w13=> some ((0:Int),w13.1)) |.inr b6=>some (b6.1,b6.2.1))
def S_rice_Put:FSem:=⟨[.r Q4,.v (.int .i64),.v (.list false (.int .i64))],[.v (.int .i64)],F_rice_Put⟩
def H109:Hints:=⟨[(58,[.sv 1 (.int .i64),.sv 2 (.list false (.int .i64)),.sv 16 (.list false (.int .i64)),.sv 17 (.int .i64),.sv 18 (.int .i64),.box 1000000 Q4,.ptr 0 1000000 []],[(.exit 0,[.sv 1 (.int .i64),.sv 2 (.list false (.int .i64)),.box 1000000 Q4,.ptr 0 1000000 []]),(.ret,[.sv 6 (.int .i64),.box 1000000 Q4])]),(122,[.sv 1 (.int .i64),.sv 26 (.list false (.int .i64)),.sv 27 (.int .i64),.sv 28 (.int .i64),.box 1000000 Q4,.ptr 0 1000000 []],[(.exit 2,[.box 1000000 Q4])])],[],[]⟩
def F_parts_Put_l0 (st:((List Int)×(Int×(Int×(Int×Z72))))):Option (((List Int)×(Int×(Int×(Int×Z72)))) ⊕ Z72):= bif decide (st.2.2.2.2.2.2.1<st.2.2.2.2.2.1) then ((gidx st.2.2.2.2.1 st.2.2.2.2.2.2.1).bind fun x11=> bif decide (st.2.1<0) then none else ((F_bits_Writer_Put (st.2.2.2.2.2.2.2.2.1,(bits .u64 .and (IntKind.wrap .u64 x11) (IntKind.wrap .u64 ((gshl .u64 (1:Int) st.2.1)-(1:Int))),st.2.1))).bind fun y12=> some (.inl (st.1,(st.2.1,(st.2.2.1,(st.2.2.2.1,(st.2.2.2.2.1,(st.2.2.2.2.2.1,(IntKind.wrap .i64 (st.2.2.2.2.2.2.1+(1:Int)),(st.2.2.2.2.2.2.2.1,(y12.2,(st.2.2.2.2.2.2.2.2.2.1,()))))))))))))) else some (.inr (st.1,(st.2.2.1,(st.2.2.2.1,(st.2.2.2.2.2.2.2.1,(st.2.2.2.2.2.2.2.2.1,(st.2.2.2.2.2.2.2.2.2.1,())))))))
def F_parts_Put_l1 (st:Z72):Option (Z72 ⊕ Z16):= bif decide (st.2.2.1<st.2.1) then (bif (decide ((0:Int)≤st.2.2.1))&&(decide (st.2.2.1<((List.length st.2.2.2.1:Nat):Int))) then (bif (decide ((0:Int)≤(List.getD st.2.2.2.1 (Int.toNat st.2.2.1) (0:Int))))&&(decide ((List.getD st.2.2.2.1 (Int.toNat st.2.2.1) (0:Int))≤((List.length st.1:Nat):Int))) then (bif (decide ((0:Int)≤(List.getD st.2.2.2.1 (Int.toNat st.2.2.1) (0:Int))))&&(decide ((List.getD st.2.2.2.1 (Int.toNat st.2.2.1) (0:Int))≤((List.length st.1:Nat):Int))) then ((gidx st.2.2.2.2.2.1.2.1 st.2.2.1).bind fun x4=> (F_bits_Writer_Put (st.2.2.2.2.1,(IntKind.wrap .u64 x4,(5:Int)))).bind fun y5=> (gidx st.2.2.2.2.2.1.2.1 st.2.2.1).bind fun x6=> bif x6 != (31:Int) then ((gidx st.2.2.2.2.2.1.2.1 st.2.2.1).bind fun x7=> (F_rice_Put (y5.2,(x7,List.take (Int.toNat (List.getD st.2.2.2.1 (Int.toNat st.2.2.1) (0:Int))) st.1))).bind fun y8=> some (.inl (List.drop (Int.toNat (List.getD st.2.2.2.1 (Int.toNat st.2.2.1) (0:Int))) (List.take (List.length st.1) st.1),(st.2.1,(IntKind.wrap .i64 (st.2.2.1+(1:Int)),(st.2.2.2.1,(y8.2,(st.2.2.2.2.2.1,())))))))) else ((F_sample_Width (List.take (Int.toNat (List.getD st.2.2.2.1 (Int.toNat st.2.2.1) (0:Int))) st.1)).bind fun y9=> (F_bits_Writer_Put (y5.2,(IntKind.wrap .u64 y9,(5:Int)))).bind fun y10=> (iter F_parts_Put_l0 (List.drop (Int.toNat (List.getD st.2.2.2.1 (Int.toNat st.2.2.1) (0:Int))) (List.take (List.length st.1) st.1),(y9,(st.2.1,(st.2.2.1,(List.take (Int.toNat (List.getD st.2.2.2.1 (Int.toNat st.2.2.1) (0:Int))) st.1,(((List.length (List.take (Int.toNat (List.getD st.2.2.2.1 (Int.toNat st.2.2.1) (0:Int))) st.1):Nat):Int),((0:Int),(st.2.2.2.1,(y10.2,(st.2.2.2.2.2.1,()))))))))))).bind fun w13=> some (.inl (w13.1,(w13.2.1,(IntKind.wrap .i64 (w13.2.2.1+(1:Int)),(w13.2.2.2.1,(w13.2.2.2.2.1,(w13.2.2.2.2.2.1,()))))))))) else none) else none) else none) else some (.inr (st.2.2.2.2.1,()))
def F_parts_Put (x:(Z3×(Z5×Z1))):Option Z13:= (F_parts_Cost (x.2.1,(x.2.2.1,(x.2.2.2.1,x.2.2.2.2)))).bind fun y1=> bif y1==(0:Int) then some ((1:Int),x.1) else ((F_bits_Writer_Put (x.1,(IntKind.wrap .u64 x.2.1.1,(4:Int)))).bind fun y2=> (F_parts_Sizes (x.2.1.1,(x.2.2.1,x.2.2.2.1))).bind fun y3=> (iter F_parts_Put_l1 (x.2.2.2.2,(((List.length y3:Nat):Int),((0:Int),(y3,(y2.2,(x.2.1,()))))))).bind fun w14=> some ((0:Int),w14.1))
def S_parts_Put:FSem:=⟨[.r Q4,.v Q6,.v (.int .i64),.v (.int .i64),.v (.list false (.int .i64))],[.v (.int .i64)],F_parts_Put⟩
def H60:Hints:=⟨[(122,[.sv 4 (.list false (.int .i64)),.sv 33 (.int .i64),.sv 34 (.int .i64),.own 32 1032 (.int .i64),.box 1000000 Q4,.ptr 0 1000000 [],.vp 6 Q6],[(.exit 0,[.box 1000000 Q4])]),(2005502,[.sv 4 (.list false (.int .i64)),.sv 14 (.int .i64),.sv 33 (.int .i64),.sv 34 (.int .i64),.sv 73 (.list false (.int .i64)),.sv 74 (.int .i64),.sv 75 (.int .i64),.own 32 1032 (.int .i64),.box 1000000 Q4,.ptr 0 1000000 [],.vp 6 Q6],[(.exit 2,[.sv 4 (.list false (.int .i64)),.sv 33 (.int .i64),.sv 34 (.int .i64),.own 32 1032 (.int .i64),.box 1000000 Q4,.ptr 0 1000000 [],.vp 6 Q6])])],[],[]⟩
def F_sub_Put_l0 (st:(Int×(Int×((List Int)×Z86)))):Option ((Int×(Int×((List Int)×Z86))) ⊕ Z89):= bif decide (st.2.2.2.1<(3:Int)) then ((gidx st.2.2.1 st.2.2.2.1).bind fun x8=> (F_sub_putSigned (st.2.2.2.2.1,(x8,(8:Int)))).bind fun y9=> some (.inl (st.1,(st.2.1,(st.2.2.1,(IntKind.wrap .i64 (st.2.2.2.1+(1:Int)),(y9,(st.2.2.2.2.2.1,())))))))) else some (.inr (st.1,(st.2.1,(st.2.2.2.2.1,(st.2.2.2.2.2.1,())))))
def F_sub_Put_l1 (st:(Int×(Int×(Z4×Z89)))):Option ((Int×(Int×(Z4×Z89))) ⊕ Z89):= bif decide (st.2.2.2.2.1<st.2.2.2.1) then ((gidx st.2.2.1 st.2.2.2.2.1).bind fun x18=> (F_bits_Writer_Put (st.2.2.2.2.2.1,(IntKind.wrap .u64 (IntKind.wrap .i64 (x18.1-(1:Int))),(5:Int)))).bind fun y19=> (F_bits_Writer_Put (y19.2,(IntKind.wrap .u64 x18.2.1,(4:Int)))).bind fun y20=> some (.inl (st.1,(st.2.1,(st.2.2.1,(st.2.2.2.1,(IntKind.wrap .i64 (st.2.2.2.2.1+(1:Int)),(y20.2,(st.2.2.2.2.2.2.1,()))))))))) else some (.inr (st.1,(st.2.1,(st.2.2.2.2.2.1,(st.2.2.2.2.2.2.1,())))))
def F_sub_Put_l2 (st:(Int×(Int×((List Int)×Z89)))):Option ((Int×(Int×((List Int)×Z89))) ⊕ Z86):= bif decide (st.2.2.2.2.1<st.2.2.2.1) then ((gidx st.2.2.1 st.2.2.2.2.1).bind fun x23=> (F_sub_putSigned (st.2.2.2.2.2.1,(x23,st.2.1))).bind fun y24=> some (.inl (st.1,(st.2.1,(st.2.2.1,(st.2.2.2.1,(IntKind.wrap .i64 (st.2.2.2.2.1+(1:Int)),(y24,(st.2.2.2.2.2.2.1,()))))))))) else some (.inr (st.1,(st.2.2.2.2.2.1,(st.2.2.2.2.2.2.1,()))))
def F_sub_Put (x:(Z3×Z80)):Option Z13:= (F_sub_May (x.2.1,x.2.2)).bind fun y1=> bif !y1 then some ((1:Int),x.1) else ((F_sample_Width x.2.1.2.2.2.2.2.2.2.2.1).bind fun y2=> (F_bits_Writer_Put (x.1,(IntKind.wrap .u64 x.2.1.1,(3:Int)))).bind fun y3=> (F_bits_Writer_Put (y3.2,(IntKind.wrap .u64 x.2.1.2.1,(5:Int)))).bind fun y4=> (F_bits_Writer_Put (y4.2,(IntKind.wrap .u64 y2,(5:Int)))).bind fun y5=> (show Option Z89 from (show Option (Z89 ⊕ (Z89 ⊕ Z89)) from bif x.2.1.1==(2:Int) then ((F_bits_Writer_Put (y5.2,(IntKind.wrap .u64 x.2.1.2.2.1,(3:Int)))).bind fun y6=> some (Sum.inr (Sum.inl (x.2.2,(y2,(y6.2,(x.2.1,()))))))) else (bif x.2.1.1==(4:Int) then ((F_bits_Writer_Put (y5.2,(IntKind.wrap .u64 (IntKind.wrap .i64 (x.2.1.2.2.2.2.1-(1:Int))),(10:Int)))).bind fun y7=> (iter F_sub_Put_l0 (x.2.2,(y2,(x.2.1.2.2.2.2.2.2.1,((0:Int),(y7.2,(x.2.1,()))))))).bind fun w10=> some (Sum.inl (w10.1,(w10.2.1,(w10.2.2.1,(w10.2.2.2.1,())))))) else (bif x.2.1.1==(3:Int) then some (Sum.inl (x.2.2,(y2,(y5.2,(x.2.1,()))))) else (bif x.2.1.1==(5:Int) then some (Sum.inr (Sum.inr ((x.2.2,(y2,(y5.2,(x.2.1,()))))))) else some (Sum.inr (Sum.inl (x.2.2,(y2,(y5.2,(x.2.1,())))))))))).bind fun z11=> match z11 with |.inl a12=>((F_sub_putCoefs (a12.2.2.1,a12.2.2.2.1)).bind fun y14=> some (a12.1,(a12.2.1,(y14,(a12.2.2.2.1,()))))) |.inr b13=>(match b13 with |.inl a15=>some (a15.1,(a15.2.1,(a15.2.2.1,(a15.2.2.2.1,())))) |.inr b16=>((F_bits_Writer_Put (b16.2.2.1,(IntKind.wrap .u64 ((List.length b16.2.2.2.1.2.2.2.2.2.2.2.1:Nat):Int),(2:Int)))).bind fun y17=> (iter F_sub_Put_l1 (b16.1,(b16.2.1,(b16.2.2.2.1.2.2.2.2.2.2.2.1,(((List.length b16.2.2.2.1.2.2.2.2.2.2.2.1:Nat):Int),((0:Int),(y17.2,(b16.2.2.2.1,())))))))).bind fun w21=> some (w21.1,(w21.2.1,(w21.2.2.1,(w21.2.2.2.1,()))))))).bind fun z22=> (iter F_sub_Put_l2 (z22.1,(z22.2.1,(z22.2.2.2.1.2.2.2.2.2.2.2.2.1,(((List.length z22.2.2.2.1.2.2.2.2.2.2.2.2.1:Nat):Int),((0:Int),(z22.2.2.1,(z22.2.2.2.1,())))))))).bind fun w25=> (F_sub_rested w25.2.2.1.1).bind fun y26=> bif !y26 then some ((0:Int),w25.2.1) else ((F_parts_Put (w25.2.1,(w25.2.2.1.2.2.2.2.2.2.2.2.2.1,(w25.1,(((List.length w25.2.2.1.2.2.2.2.2.2.2.2.1:Nat):Int),w25.2.2.1.2.2.2.2.2.2.2.2.2.2.1))))).bind fun y27=> some (y27.1,y27.2)))
def S_sub_Put:FSem:=⟨[.r Q4,.v Q28,.v (.int .i64)],[.v (.int .i64)],F_sub_Put⟩
def H25:Hints:=⟨[(2042,[.sv 2 (.int .i64),.sv 7 (.int .i64),.sv 94 (.list false (.int .i64)),.sv 95 (.int .i64),.sv 96 (.int .i64),.box 1000000 Q4,.ptr 0 1000000 [],.vp 4 Q28],[(.exit 9,[.sv 2 (.int .i64),.box 1000000 Q4,.ptr 0 1000000 [],.vp 4 Q28])]),(32598,[.sv 2 (.int .i64),.sv 7 (.int .i64),.sv 75 (.list false Q3),.sv 76 (.int .i64),.sv 77 (.int .i64),.box 1000000 Q4,.ptr 0 1000000 [],.vp 4 Q28],[(.exit 7,[.sv 2 (.int .i64),.sv 7 (.int .i64),.box 1000000 Q4,.ptr 0 1000000 [],.vp 4 Q28])]),(260622,[.sv 2 (.int .i64),.sv 7 (.int .i64),.sv 57 (.arr 3 (.int .i64)),.sv 58 (.int .i64),.box 1000000 Q4,.ptr 0 1000000 [],.vp 4 Q28],[(.exit 5,[.sv 2 (.int .i64),.sv 7 (.int .i64),.box 1000000 Q4,.ptr 0 1000000 [],.vp 4 Q28])])],[(127,[(.normal,[.sv 2 (.int .i64),.sv 7 (.int .i64),.box 1000000 Q4,.ptr 0 1000000 [],.vp 4 Q28])]),(4072,[(.normal,[.sv 2 (.int .i64),.sv 7 (.int .i64),.box 1000000 Q4,.ptr 0 1000000 [],.vp 4 Q28]),(.exit 0,[.sv 2 (.int .i64),.sv 7 (.int .i64),.box 1000000 Q4,.ptr 0 1000000 [],.vp 4 Q28]),(.exit 4,[.sv 2 (.int .i64),.sv 7 (.int .i64),.box 1000000 Q4,.ptr 0 1000000 [],.vp 4 Q28])])],[]⟩
def F_bits_Writer_Len (x:Z3):Option Z13:= some (x.2.1,x)
def S_bits_Writer_Len:FSem:=⟨[.r Q4],[.v (.int .i64)],F_bits_Writer_Len⟩
def H27:Hints:=⟨[],[],[]⟩
def F_sub_Cost (x:Z80):Option Int:= (F_sub_Put ((([]:(List Int)),((0:Int),())),(x.1,x.2))).bind fun y1=> bif y1.1 != (0:Int) then some (0:Int) else ((F_bits_Writer_Len y1.2).bind fun y2=> some y2.1)
def S_sub_Cost:FSem:=⟨[.v Q28,.v (.int .i64)],[.v (.int .i64)],F_sub_Cost⟩
def H15:Hints:=⟨[],[],[]⟩
def F_r2_SameInts_l0 (st:((List Int)×Z3)):Option (((List Int)×Z3) ⊕ Z0):= bif decide (st.2.2.1<((List.length st.1:Nat):Int)) then ((gidx st.1 st.2.2.1).bind fun x1=> (gidx st.2.1 st.2.2.1).bind fun x2=> bif x1 != x2 then some (.inr (Sum.inr ((false,())))) else some (.inl (st.1,(st.2.1,(IntKind.wrap .i64 (st.2.2.1+(1:Int)),()))))) else some (.inr (Sum.inl ()))
def F_r2_SameInts (x:((List Int)×(List Int))):Option Bool:= bif ((List.length x.1:Nat):Int) != ((List.length x.2:Nat):Int) then some false else ((iter F_r2_SameInts_l0 (x.1,(x.2,((0:Int),())))).bind fun w3=> match w3 with |.inl a4=>some true |.inr b5=>some b5.1)
def S_r2_SameInts:FSem:=⟨[.v (.list false (.int .i64)),.v (.list false (.int .i64))],[.v .bool],F_r2_SameInts⟩
def H17:Hints:=⟨[(58,[.sv 0 (.list false (.int .i64)),.sv 1 (.list false (.int .i64)),.sv 5 (.int .i64)],[(.exit 0,[]),(.ret,[.sv 4 .bool])])],[],[(6,[.v,.v,.v,.v,.v,.v,.v,.v,.x])]⟩
def F_sample_Down_l0 (st:Z41):Option (Z41 ⊕ Z33):= bif decide (st.2.2.2.1<st.2.2.1) then ((gidx st.2.1 st.2.2.2.1).bind fun x2=> (show Option (Int×(Int×((List Int)×(Int×(Int×Z6))))) from (F_sample_wide x2).bind fun y3=> bif !y3 then some (st.1,(x2,(st.2.1,(st.2.2.1,(st.2.2.2.1,(true,(st.2.2.2.2.1,()))))))) else (bif decide (st.1<0) then none else (bif (gshl .i64 (1:Int) st.1)==0 then none else some (st.1,(x2,(st.2.1,(st.2.2.1,(st.2.2.2.1,((Int.tmod x2 (gshl .i64 (1:Int) st.1)) != (0:Int),(st.2.2.2.2.1,())))))))))).bind fun z4=> bif z4.2.2.2.2.2.1 then some (.inr (Sum.inr (((6:Int),(([]:(List Int)),()))))) else (bif decide (z4.1<0) then none else (bif lim ((List.length z4.2.2.2.2.2.2.1)+1) then some (.inl (z4.1,(z4.2.2.1,(z4.2.2.2.1,(IntKind.wrap .i64 (z4.2.2.2.2.1+(1:Int)),(List.append z4.2.2.2.2.2.2.1 ([gshr .i64 z4.2.1 z4.1]:List Int),())))))) else none))) else some (.inr (Sum.inl (st.2.2.2.2.1,())))
def F_sample_Down (x:((List Int)×Int)):Option ((List Int)×Int):= (show Option Z14 from bif decide (x.2<(0:Int)) then some (x.1,(x.2,(true,()))) else some (x.1,(x.2,(decide (x.2 > (30:Int)),())))).bind fun z1=> bif z1.2.2.1 then some (([]:(List Int)),(1:Int)) else ((iter F_sample_Down_l0 (z1.2.1,(z1.1,(((List.length z1.1:Nat):Int),((0:Int),(([]:(List Int)),())))))).bind fun w5=> match w5 with |.inl a6=>some (a6.1,(0:Int)) |.inr b7=>some (b7.2.1,b7.1))
def S_sample_Down:FSem:=⟨[.v (.list false (.int .i64)),.v (.int .i64)],[.o (.int .i64),.v (.int .i64)],F_sample_Down⟩
def H45:Hints:=⟨[(122,[.sv 1 (.int .i64),.sv 15 (.list false (.int .i64)),.sv 16 (.int .i64),.sv 17 (.int .i64),.own 6 6 (.int .i64)],[(.exit 0,[.own 6 6 (.int .i64)]),(.ret,[.sv 5 (.int .i64),.own 4 4 (.int .i64)])])],[(6,[(.normal,[.sv 0 (.list false (.int .i64)),.sv 1 (.int .i64),.sv 14 .bool])]),(15666,[(.normal,[.sv 1 (.int .i64),.sv 8 (.int .i64),.sv 15 (.list false (.int .i64)),.sv 16 (.int .i64),.sv 17 (.int .i64),.sv 30 .bool,.own 6 6 (.int .i64)])])],[]⟩
def F_math_bits_TrailingZeros64 (x:Int):Option Int:= bif x==(0:Int) then some (64:Int) else ((gidx glob0 (gshr .u64 (IntKind.wrap .u64 ((bits .u64 .and x (IntKind.wrap .u64 (0-x)))*(285870213051353865:Int))) (58:Int))).bind fun x1=> some (IntKind.wrap .i64 x1))
def S_math_bits_TrailingZeros64:FSem:=⟨[.v (.int .u64)],[.v (.int .i64)],F_math_bits_TrailingZeros64⟩
def H94:Hints:=⟨[],[],[]⟩
def cx94:Cx:=cxOf [] [] [0,2] []
theorem aops_append {ρ:Type} {cx:Cx} {ops:List Oper}:∀ (l1 l2:List (Md×Oper)) (Γ:AE) (K:AE→Rs ρ),aops cx ops (l1++l2) Γ K=aops cx ops l1 Γ fun Γ'=>aops cx ops l2 Γ' K
 | [],_,_,_=>rfl
 |(md,o)::l1,l2,Γ,K=>by
  simp only [List.cons_append,aops]
  congr 1
  funext Γ'
  exact aops_append l1 l2 Γ' K
theorem aexec_seq {ρ:Type} {cx:Cx} {H:Hints} {a b:Code} {p:Nat} (h:find H.cuts p=none) (Γ:AE) (K:Ex→AE→Rs ρ):aexec cx H (.seq a b) p Γ K=aexec cx H a (2*p) Γ fun e Γ'=>match e with
   |.normal=>aexec cx H b (2*p+1) Γ' K
   |e=>K e Γ':=by
 simp only [aexec,h]
 rfl
theorem aexec_region {ρ:Type} {cx:Cx} {H:Hints} {id:Nat} {ops:Array Oper} {p:Nat} (Γ:AE) (K:Ex→AE→Rs ρ):aexec cx H (.region id ops false) p Γ K=aops cx ops.toList (ops.toList.map fun o=>(.x,o)) Γ fun Γ'=>K .normal Γ':=by
 simp only [aexec,cond_false]
def code94:Code:=match Tryz.f94.body with
 |some c=>c
 |none=>.skip
def seqL:Code→Code
 |.seq a _=>a
 |c=>c
def seqR:Code→Code
 |.seq _ b=>b
 |c=>c
def regOps:Code→Array Oper
 |.region _ ops _=>ops
 |_=>#[]
def tail94:Code:=seqR (seqR code94)
def ops94:List Oper:=(regOps (seqL tail94)).toList
def Γ94 (x:Int):AE:=(((ini [.v (.int .u64)] x).set 2 (.val (.int .i64) (0:Int))).set 3 (.val (.int .u64) x)).set 4 (.val .bool (x==(0:Int)))
def Γ94r (x:Int):AE:=(Γ94 x).set 2 (.val (.int .i64) (64:Int))
def K94 (e:Ex) (Γ:AE):Option Int:=match e,Γ.pd with
  |.exit _,_=>none
  |_,some _=>none
  |_,none=>(Γ.upto Tryz.f94.ntmps).outs cx94 [] Tryz.f94.ntmps [.v (.int .i64)] (Tryz.f94.results.toList.map .inl) fun y _=>some y
def Γ94b (x a b c i:Int):AE:=((((((Γ94 x).set 5 (.val (.int .u64) x)).set 6 (.val (.int .u64) x)).set 7 (.val (.int .u64) a)).set 8 (.val (.int .u64) b)).set 9 (.val (.int .u64) c)).set 10 (.val (.int .u64) i)
set_option maxRecDepth 100000
theorem shape94:code94=.seq (seqL code94) (.seq (seqL (seqR code94)) (.seq (.region 3 (regOps (seqL tail94)) false) .ret)):=by kernel_rfl
theorem eq94_0 (x:Int):arun cx94 H94 Tryz.f94 S_math_bits_TrailingZeros64.ps S_math_bits_TrailingZeros64.rs x=aexec cx94 H94 code94 1 (ini [.v (.int .u64)] x) K94:=rfl
theorem eq94_a (x:Int) (K:Ex→AE→Option Int):aexec cx94 H94 (seqL code94) 2 (ini [.v (.int .u64)] x) K=K .normal ((ini [.v (.int .u64)] x).set 2 (.val (.int .i64) (0:Int))):=by kernel_rfl
theorem eq94_b (x:Int) (K:Ex→AE→Option Int):aexec cx94 H94 (seqL (seqR code94)) 6 ((ini [.v (.int .u64)] x).set 2 (.val (.int .i64) (0:Int))) K=bif x==(0:Int) then K .ret (Γ94r x) else K .normal (Γ94 x):=by kernel_rfl
theorem eq94_r (x:Int):K94 .ret (Γ94r x)=some (64:Int):=by kernel_rfl
theorem eq94_2 (x:Int) (K:AE→Option Int):aops cx94 ops94 ((ops94.map fun o=>(Md.x,o)).take 6) (Γ94 x) K =
  K (Γ94b x (IntKind.wrap .u64 (0-x)) (bits .u64 .and x (IntKind.wrap .u64 (0-x))) (IntKind.wrap .u64 ((bits .u64 .and x (IntKind.wrap .u64 (0-x)))*(285870213051353865:Int))) (gshr .u64 (IntKind.wrap .u64 ((bits .u64 .and x (IntKind.wrap .u64 (0-x)))*(285870213051353865:Int))) (58:Int))):=by kernel_rfl
theorem eq94_3 (x a b c i:Int):aops cx94 ops94 ((ops94.map fun o=>(Md.x,o)).drop 6) (Γ94b x a b c i) (fun Γ=>K94 .ret Γ)=(gidx glob0 i).bind fun x1=>some (IntKind.wrap .i64 x1):=by kernel_rfl
theorem eq94_4 (x:Int):aops cx94 ops94 (ops94.map fun o=>(Md.x,o)) (Γ94 x) (fun Γ=>K94 .ret Γ)=(gidx glob0 (gshr .u64 (IntKind.wrap .u64 ((bits .u64 .and x (IntKind.wrap .u64 (0-x)))*(285870213051353865:Int))) (58:Int))).bind fun x1=>some (IntKind.wrap .i64 x1):=by
 rw [←List.take_append_drop 6 (ops94.map fun o=>(Md.x,o)),aops_append,eq94_2,eq94_3]
theorem eq94' (x:Int):aexec cx94 H94 code94 1 (ini [.v (.int .u64)] x) K94=F_math_bits_TrailingZeros64 x:=by
 rw [shape94,aexec_seq rfl,eq94_a]
 simp only []
 rw [aexec_seq rfl,eq94_b]
 simp only []
 rw [aexec_seq rfl,aexec_region]
 simp only [aexec]
 rw [eq94_r]
 exact congrArg (fun z=>bif x==(0:Int) then some (64:Int) else z) (eq94_4 x)
theorem eq94 (x):arun cx94 H94 Tryz.f94 S_math_bits_TrailingZeros64.ps S_math_bits_TrailingZeros64.rs x=S_math_bits_TrailingZeros64.F x:=(eq94_0 x).trans (eq94' x)
def F_sample_Wasted_l0 (st:Z21):Option (Z21 ⊕ (Int×Unit)):= bif decide (st.2.2.2.1<st.2.2.1) then ((gidx st.2.1 st.2.2.2.1).bind fun x1=> some (.inl (bits .i64 .or st.1 x1,(st.2.1,(st.2.2.1,(IntKind.wrap .i64 (st.2.2.2.1+(1:Int)),())))))) else some (.inr (st.1,()))
def F_sample_Wasted (x:(List Int)):Option Int:= (iter F_sample_Wasted_l0 ((0:Int),(x,(((List.length x:Nat):Int),((0:Int),()))))).bind fun w2=> bif w2.1==(0:Int) then some (0:Int) else ((F_math_bits_TrailingZeros64 (IntKind.wrap .u64 w2.1)).bind fun y3=> some (imin y3 (30:Int)))
def S_sample_Wasted:FSem:=⟨[.v (.list false (.int .i64))],[.v (.int .i64)],F_sample_Wasted⟩
def H46:Hints:=⟨[(58,[.sv 3 (.int .i64),.sv 6 (.list false (.int .i64)),.sv 7 (.int .i64),.sv 8 (.int .i64)],[(.exit 0,[.sv 3 (.int .i64)])])],[],[]⟩
def F_fixed_Rest_l0 (st:(Int×Z12)):Option ((Int×Z12) ⊕ Z12):= bif decide ((IntKind.wrap .i64 (st.1+(1:Int)))<((List.length st.2.2.2.1:Nat):Int)) then (bif (decide ((0:Int)≤(IntKind.wrap .i64 (st.1+(1:Int)))))&&(decide ((IntKind.wrap .i64 (st.1+(1:Int)))<((List.length st.2.2.2.1:Nat):Int))) then (bif (decide ((0:Int)≤st.1))&&(decide (st.1<((List.length st.2.2.2.1:Nat):Int))) then (bif (decide ((0:Int)≤st.1))&&(decide (st.1<((List.length st.2.2.2.1:Nat):Int))) then some (.inl (IntKind.wrap .i64 (st.1+(1:Int)),(st.2.1,(st.2.2.1,(List.set st.2.2.2.1 (Int.toNat st.1) (IntKind.wrap .i64 ((List.getD st.2.2.2.1 (Int.toNat (IntKind.wrap .i64 (st.1+(1:Int)))) (0:Int))-(List.getD st.2.2.2.1 (Int.toNat st.1) (0:Int)))),()))))) else none) else none) else none) else some (.inr (st.2.1,(st.2.2.1,(st.2.2.2.1,()))))
end Go.Ab
namespace Go.Ab
open Go.Proofs
set_option maxRecDepth 100000
set_option linter.unusedVariables false
def F_fixed_Rest_l1 (st:Z12):Option (Z12 ⊕ ((List Int)×Unit)):= bif decide (st.2.1<st.1) then ((iter F_fixed_Rest_l0 ((0:Int),(st.1,(st.2.1,(st.2.2.1,()))))).bind fun w3=> bif (decide ((0:Int)≤(IntKind.wrap .i64 (((List.length w3.2.2.1:Nat):Int)-(1:Int)))))&&(decide ((IntKind.wrap .i64 (((List.length w3.2.2.1:Nat):Int)-(1:Int)))≤((List.length w3.2.2.1:Nat):Int))) then (bif decide ((Int.toNat (IntKind.wrap .i64 (((List.length w3.2.2.1:Nat):Int)-(1:Int))))≤(List.length w3.2.2.1)) then some (.inl (w3.1,(IntKind.wrap .i64 (w3.2.1+(1:Int)),(List.take (Int.toNat (IntKind.wrap .i64 (((List.length w3.2.2.1:Nat):Int)-(1:Int)))) w3.2.2.1,())))) else none) else none) else some (.inr (st.2.2.1,()))
def F_fixed_Rest (x:((List Int)×Int)):Option ((List Int)×Int):= (show Option Z14 from bif decide (x.2<(0:Int)) then some (x.1,(x.2,(true,()))) else (bif decide (x.2 > (4:Int)) then some (x.1,(x.2,(true,()))) else some (x.1,(x.2,(decide (((List.length x.1:Nat):Int)<x.2),()))))).bind fun z1=> bif z1.2.2.1 then some (([]:(List Int)),(1:Int)) else ((F_fixed_wide z1.1).bind fun y2=> bif !y2 then some (([]:(List Int)),(6:Int)) else (bif lim (List.length z1.1) then ((iter F_fixed_Rest_l1 (z1.2.1,((0:Int),(z1.1,())))).bind fun w4=> (F_fixed_wide w4.1).bind fun y5=> bif !y5 then some (([]:(List Int)),(6:Int)) else some (w4.1,(0:Int))) else none))
def S_fixed_Rest:FSem:=⟨[.v (.list false (.int .i64)),.v (.int .i64)],[.o (.int .i64),.v (.int .i64)],F_fixed_Rest⟩
def H118:Hints:=⟨[(250,[.sv 25 (.int .i64),.sv 26 (.int .i64),.own 6 6 (.int .i64)],[(.exit 0,[.own 6 6 (.int .i64)])]),(64098,[.sv 7 (.int .i64),.sv 25 (.int .i64),.sv 26 (.int .i64),.own 6 6 (.int .i64)],[(.exit 2,[.sv 25 (.int .i64),.sv 26 (.int .i64),.own 6 6 (.int .i64)])])],[(6,[(.normal,[.sv 0 (.list false (.int .i64)),.sv 1 (.int .i64),.sv 19 .bool])])],[(11,[.q,.v,.q,.v,.v,.q,.q,.q,.v,.q,.q,.v,.x,.x])]⟩
def F_linear_Rest_l0 (st:((List Int)×Z29)):Option (((List Int)×Z29) ⊕ Z33):= bif decide (st.2.2.2.1<((List.length st.1:Nat):Int)) then ((gidx st.1 st.2.2.2.1).bind fun x4=> bif (decide ((0:Int)≤st.2.2.2.1))&&(decide (st.2.2.2.1≤((List.length st.1:Nat):Int))) then ((F_linear_predict (List.take (Int.toNat st.2.2.2.1) st.1,(st.2.1,st.2.2.1))).bind fun y5=> (F_linear_wide (IntKind.wrap .i64 (x4-y5))).bind fun y6=> bif !y6 then some (.inr (Sum.inr (((6:Int),(([]:(List Int)),()))))) else (bif lim ((List.length st.2.2.2.2.1)+1) then some (.inl (st.1,(st.2.1,(st.2.2.1,(IntKind.wrap .i64 (st.2.2.2.1+(1:Int)),(List.append st.2.2.2.2.1 ([IntKind.wrap .i64 (x4-y5)]:List Int),())))))) else none)) else none) else some (.inr (Sum.inl (st.2.2.2.2.1,())))
def F_linear_Rest (x:Z9):Option ((List Int)×Int):= (show Option Z34 from (F_linear_May (x.2.1,x.2.2)).bind fun y1=> bif !y1 then some (x.1,(x.2.1,(x.2.2,(true,())))) else some (x.1,(x.2.1,(x.2.2,(decide (((List.length x.1:Nat):Int)<((List.length x.2.1:Nat):Int)),()))))).bind fun z2=> bif z2.2.2.2.1 then some (([]:(List Int)),(1:Int)) else ((F_linear_allWide z2.1).bind fun y3=> bif !y3 then some (([]:(List Int)),(6:Int)) else (bif (decide ((0:Int)≤(IntKind.wrap .i64 (((List.length z2.1:Nat):Int)-((List.length z2.2.1:Nat):Int)))))&&(lim (Int.toNat (IntKind.wrap .i64 (((List.length z2.1:Nat):Int)-((List.length z2.2.1:Nat):Int))))) then ((iter F_linear_Rest_l0 (z2.1,(z2.2.1,(z2.2.2.1,(((List.length z2.2.1:Nat):Int),(([]:(List Int)),())))))).bind fun w7=> match w7 with |.inl a8=>some (a8.1,(0:Int)) |.inr b9=>some (b9.2.1,b9.1)) else none))
def S_linear_Rest:FSem:=⟨[.v (.list false (.int .i64)),.v (.list false (.int .i64)),.v (.int .i64)],[.o (.int .i64),.v (.int .i64)],F_linear_Rest⟩
def H119:Hints:=⟨[(250,[.sv 0 (.list false (.int .i64)),.sv 1 (.list false (.int .i64)),.sv 2 (.int .i64),.sv 9 (.int .i64),.own 8 8 (.int .i64)],[(.exit 0,[.own 8 8 (.int .i64)]),(.ret,[.sv 7 (.int .i64),.own 6 6 (.int .i64)])])],[(6,[(.normal,[.sv 0 (.list false (.int .i64)),.sv 1 (.list false (.int .i64)),.sv 2 (.int .i64),.sv 21 .bool])])],[(9,[.v,.v,.v,.v,.v,.v,.v,.v,.v,.v,.x,.x])]⟩
def F_long_Rest_l0 (st:((List Int)×Z60)):Option (((List Int)×Z60) ⊕ Z33):= bif decide (st.2.2.2.2.1<st.2.2.2.1) then ((gidx st.2.2.1 st.2.2.2.2.1).bind fun x3=> (F_long_predict (st.1,(st.2.2.2.2.1,(st.2.1,st.2.2.2.2.2.2.1)))).bind fun y4=> (F_long_wide (IntKind.wrap .i64 (x3-y4))).bind fun y5=> bif !y5 then some (.inr (Sum.inr (((6:Int),(([]:(List Int)),()))))) else (bif lim ((List.length st.2.2.2.2.2.1)+1) then some (.inl (st.1,(st.2.1,(st.2.2.1,(st.2.2.2.1,(IntKind.wrap .i64 (st.2.2.2.2.1+(1:Int)),(List.append st.2.2.2.2.2.1 ([IntKind.wrap .i64 (x3-y4)]:List Int),(st.2.2.2.2.2.2.1,())))))))) else none)) else some (.inr (Sum.inl (st.2.2.2.2.2.1,())))
def F_long_Rest (x:((List Int)×(Int×(List Int)))):Option ((List Int)×Int):= (F_long_May (x.2.1,x.2.2)).bind fun y1=> bif !y1 then some (([]:(List Int)),(1:Int)) else ((F_long_allWide x.1).bind fun y2=> bif !y2 then some (([]:(List Int)),(6:Int)) else (bif (decide ((0:Int)≤((List.length x.1:Nat):Int)))&&(lim (Int.toNat ((List.length x.1:Nat):Int))) then ((iter F_long_Rest_l0 (x.1,(x.2.1,(x.1,(((List.length x.1:Nat):Int),((0:Int),(([]:(List Int)),(x.2.2,())))))))).bind fun w6=> match w6 with |.inl a7=>some (a7.1,(0:Int)) |.inr b8=>some (b8.2.1,b8.1)) else none))
def S_long_Rest:FSem:=⟨[.v (.list false (.int .i64)),.v (.int .i64),.v (.arr 3 (.int .i64))],[.o (.int .i64),.v (.int .i64)],F_long_Rest⟩
def H120:Hints:=⟨[(250,[.sv 0 (.list false (.int .i64)),.sv 1 (.int .i64),.sv 22 (.list false (.int .i64)),.sv 23 (.int .i64),.sv 24 (.int .i64),.own 8 8 (.int .i64),.vp 5 (.arr 3 (.int .i64))],[(.exit 0,[.own 8 8 (.int .i64)]),(.ret,[.sv 7 (.int .i64),.own 6 6 (.int .i64)])])],[],[]⟩
def F_learn_Rest_l0 (st:(Z4×(Int×(Int×(Int×Z61))))):Option ((Z4×(Int×(Int×(Int×Z61)))) ⊕ ((Z4×Z12) ⊕ Z5)):= bif decide (st.2.2.2.2.1<st.2.2.2.1) then (bif (decide ((0:Int)≤st.2.2.2.2.1))&&(decide (st.2.2.2.2.1<((List.length st.2.2.2.2.2.1:Nat):Int))) then ((F_learn_Filter_Guess st.2.2.2.2.2.2.1).bind fun y6=> (F_learn_wide (IntKind.wrap .i64 ((List.getD st.2.2.2.2.2.1 (Int.toNat st.2.2.2.2.1) (0:Int))-y6.1))).bind fun y7=> bif !y7 then some (.inr (Sum.inr (((6:Int),(([]:(List Int)),()))))) else ((F_learn_Filter_Tell (y6.2,List.getD st.2.2.2.2.2.1 (Int.toNat st.2.2.2.2.1) (0:Int))).bind fun y8=> bif (decide ((0:Int)≤st.2.2.2.2.1))&&(decide (st.2.2.2.2.1<((List.length st.2.2.2.2.2.1:Nat):Int))) then some (.inl (st.1,(st.2.1,(st.2.2.1,(st.2.2.2.1,(IntKind.wrap .i64 (st.2.2.2.2.1+(1:Int)),(List.set st.2.2.2.2.2.1 (Int.toNat st.2.2.2.2.1) (IntKind.wrap .i64 ((List.getD st.2.2.2.2.2.1 (Int.toNat st.2.2.2.2.1) (0:Int))-y6.1)),(y8,())))))))) else none)) else none) else some (.inr (Sum.inl (st.1,(st.2.1,(st.2.2.1,(st.2.2.2.2.2.1,()))))))
def F_learn_Rest_l1 (st:(Z4×Z12)):Option ((Z4×Z12) ⊕ Z33):= bif decide (st.2.2.1<st.2.1) then ((gidx st.1 st.2.2.1).bind fun x4=> (F_learn_New x4).bind fun y5=> bif y5.2 != (0:Int) then some (.inr (Sum.inr ((y5.2,(([]:(List Int)),()))))) else ((iter F_learn_Rest_l0 (st.1,(st.2.1,(st.2.2.1,(((List.length st.2.2.2.1:Nat):Int),((0:Int),(st.2.2.2.1,(y5.1,())))))))).bind fun w9=> match w9 with |.inl a10=>some (.inl (a10.1,(a10.2.1,(IntKind.wrap .i64 (a10.2.2.1+(1:Int)),(a10.2.2.2.1,()))))) |.inr b11=>some (.inr (Sum.inr ((b11.1,(b11.2.1,()))))))) else some (.inr (Sum.inl (st.2.2.2.1,())))
def F_learn_Rest (x:((List Int)×Z4)):Option ((List Int)×Int):= (F_learn_May x.2).bind fun y1=> bif !y1 then some (([]:(List Int)),(1:Int)) else ((F_learn_allWide x.1).bind fun y2=> bif !y2 then some (([]:(List Int)),(6:Int)) else ((F_slices_Clone___int_int_ x.1).bind fun y3=> (iter F_learn_Rest_l1 (x.2,(((List.length x.2:Nat):Int),((0:Int),(y3,()))))).bind fun w12=> match w12 with |.inl a13=>some (a13.1,(0:Int)) |.inr b14=>some (b14.2.1,b14.1)))
def S_learn_Rest:FSem:=⟨[.v (.list false (.int .i64)),.v (.list false Q3)],[.o (.int .i64),.v (.int .i64)],F_learn_Rest⟩
def H121:Hints:=⟨[(250,[.sv 22 (.list false Q3),.sv 23 (.int .i64),.sv 24 (.int .i64),.own 6 6 (.int .i64)],[(.exit 0,[.own 6 6 (.int .i64)]),(.ret,[.sv 5 (.int .i64),.own 4 4 (.int .i64)])]),(256414,[.sv 22 (.list false Q3),.sv 23 (.int .i64),.sv 24 (.int .i64),.sv 37 (.int .i64),.sv 38 (.int .i64),.own 6 6 (.int .i64),.box 1030 Q9,.ptr 9 1030 [],.ref 36 6 []],[(.exit 2,[.sv 22 (.list false Q3),.sv 23 (.int .i64),.sv 24 (.int .i64),.own 6 6 (.int .i64)]),(.ret,[.sv 5 (.int .i64),.own 4 4 (.int .i64)])])],[],[]⟩
def F_sub_split (x:(Z78×(List Int))):Option (Int×Z78):= (show Option ((List Int)×((List Int)×(Int×Z81))) from bif x.1.1==(2:Int) then ((F_fixed_Rest (x.2,x.1.2.2.1)).bind fun y1=> some (x.2,(y1.1,(y1.2,(x.1,()))))) else (bif x.1.1==(3:Int) then ((F_linear_Rest (x.2,(x.1.2.2.2.2.2.1,x.1.2.2.2.1))).bind fun y2=> some (x.2,(y2.1,(y2.2,(x.1,()))))) else (bif x.1.1==(4:Int) then ((F_long_Rest (x.2,(x.1.2.2.2.2.1,x.1.2.2.2.2.2.2.1))).bind fun y3=> bif y3.2==(0:Int) then ((F_linear_Rest (y3.1,(x.1.2.2.2.2.2.1,x.1.2.2.2.1))).bind fun y4=> some (y3.1,(y4.1,(y4.2,(x.1,()))))) else some (y3.1,(([]:(List Int)),(y3.2,(x.1,()))))) else (bif x.1.1==(5:Int) then ((F_learn_Rest (x.2,x.1.2.2.2.2.2.2.2.1)).bind fun y5=> some (x.2,(y5.1,(y5.2,(x.1,()))))) else some (x.2,(([]:(List Int)),((0:Int),(x.1,())))))))).bind fun z6=> bif z6.2.2.1 != (0:Int) then some (z6.2.2.1,z6.2.2.2.1) else ((F_sub_warmth (z6.2.2.2.1,((List.length z6.1:Nat):Int))).bind fun y7=> bif (decide ((0:Int)≤y7))&&(decide (y7≤((List.length z6.1:Nat):Int))) then ((F_slices_Clone___int_int_ (List.take (Int.toNat y7) z6.1)).bind fun y8=> some ((0:Int),(z6.2.2.2.1.1,(z6.2.2.2.1.2.1,(z6.2.2.2.1.2.2.1,(z6.2.2.2.1.2.2.2.1,(z6.2.2.2.1.2.2.2.2.1,(z6.2.2.2.1.2.2.2.2.2.1,(z6.2.2.2.1.2.2.2.2.2.2.1,(z6.2.2.2.1.2.2.2.2.2.2.2.1,(y8,(z6.2.2.2.1.2.2.2.2.2.2.2.2.2.1,(z6.2.1,z6.2.2.2.1.2.2.2.2.2.2.2.2.2.2.2))))))))))))) else none)
def S_sub_split:FSem:=⟨[.r Q28,.v (.list false (.int .i64))],[.v (.int .i64)],F_sub_split⟩
def H68:Hints:=⟨[],[(15,[(.normal,[.sv 1 (.list false (.int .i64)),.sv 5 (.list false (.int .i64)),.sv 6 (.int .i64),.box 1000000 Q28,.ptr 0 1000000 []])])],[(7,[.v,.p,.p,.q,.q,.p,.p,.q,.q,.x,.x,.q,.q,.q,.x]),(9,[.v,.p,.p,.q,.q,.p,.p,.q,.q,.x,.x,.q,.q,.q,.x]),(11,[.q,.p,.p,.q,.q,.p,.p,.q,.q,.x,.x,.q,.q,.q,.x])]⟩
def F_rice_Best_l0 (st:Z22):Option (Z22 ⊕ (Int×Unit)):= bif decide (st.2.2.2.1≤(25:Int)) then ((F_rice_Sum (st.2.2.2.1,st.1)).bind fun y2=> bif decide (y2<st.2.2.1) then some (.inl (st.1,(st.2.2.2.1,(y2,(IntKind.wrap .i64 (st.2.2.2.1+(1:Int)),()))))) else some (.inl (st.1,(st.2.1,(st.2.2.1,(IntKind.wrap .i64 (st.2.2.2.1+(1:Int)),())))))) else some (.inr (st.2.1,()))
def F_rice_Best (x:(List Int)):Option Int:= (F_rice_Sum ((0:Int),x)).bind fun y1=> (iter F_rice_Best_l0 (x,((0:Int),(y1,((1:Int),()))))).bind fun w3=> some w3.1
def S_rice_Best:FSem:=⟨[.v (.list false (.int .i64))],[.v (.int .i64)],F_rice_Best⟩
def H178:Hints:=⟨[(58,[.sv 0 (.list false (.int .i64)),.sv 3 (.int .i64),.sv 4 (.int .i64),.sv 5 (.int .i64)],[(.exit 0,[.sv 3 (.int .i64)])])],[],[]⟩
def F_parts_choose (x:(List Int)):Option Int:= (F_rice_Best x).bind fun y1=> (F_parts_raw x).bind fun y2=> (F_rice_Sum (y1,x)).bind fun y3=> bif decide (y2<y3) then some (31:Int) else some y1
def S_parts_choose:FSem:=⟨[.v (.list false (.int .i64))],[.v (.int .i64)],F_parts_choose⟩
def H123:Hints:=⟨[],[],[]⟩
def F_parts_Best_l0 (st:(Int×(Int×(Int×((List Int)×(Int×(Int×((List Int)×(Int×(Int×((List Int)×Z70))))))))))):Option ((Int×(Int×(Int×((List Int)×(Int×(Int×((List Int)×(Int×(Int×((List Int)×Z70)))))))))) ⊕ (Int×(Int×(Int×((List Int)×(Int×(Int×Z70))))))):= bif decide (st.2.2.2.2.2.2.2.2.1<st.2.2.2.2.2.2.2.1) then (bif (decide ((0:Int)≤st.2.2.2.2.2.2.2.2.1))&&(decide (st.2.2.2.2.2.2.2.2.1<((List.length st.2.2.2.2.2.2.2.2.2.1:Nat):Int))) then (bif (decide ((0:Int)≤(List.getD st.2.2.2.2.2.2.2.2.2.1 (Int.toNat st.2.2.2.2.2.2.2.2.1) (0:Int))))&&(decide ((List.getD st.2.2.2.2.2.2.2.2.2.1 (Int.toNat st.2.2.2.2.2.2.2.2.1) (0:Int))≤((List.length st.2.2.2.2.2.2.1:Nat):Int))) then ((F_parts_choose (List.take (Int.toNat (List.getD st.2.2.2.2.2.2.2.2.2.1 (Int.toNat st.2.2.2.2.2.2.2.2.1) (0:Int))) st.2.2.2.2.2.2.1)).bind fun y3=> bif lim ((List.length st.2.2.2.2.2.2.2.2.2.2.2.2.1.2.1)+1) then (bif (decide ((0:Int)≤(List.getD st.2.2.2.2.2.2.2.2.2.1 (Int.toNat st.2.2.2.2.2.2.2.2.1) (0:Int))))&&(decide ((List.getD st.2.2.2.2.2.2.2.2.2.1 (Int.toNat st.2.2.2.2.2.2.2.2.1) (0:Int))≤((List.length st.2.2.2.2.2.2.1:Nat):Int))) then some (.inl (st.1,(st.2.1,(st.2.2.1,(st.2.2.2.1,(st.2.2.2.2.1,(st.2.2.2.2.2.1,(List.drop (Int.toNat (List.getD st.2.2.2.2.2.2.2.2.2.1 (Int.toNat st.2.2.2.2.2.2.2.2.1) (0:Int))) (List.take (List.length st.2.2.2.2.2.2.1) st.2.2.2.2.2.2.1),(st.2.2.2.2.2.2.2.1,(IntKind.wrap .i64 (st.2.2.2.2.2.2.2.2.1+(1:Int)),(st.2.2.2.2.2.2.2.2.2.1,(st.2.2.2.2.2.2.2.2.2.2.1,(st.2.2.2.2.2.2.2.2.2.2.2.1,((st.2.2.2.2.2.2.2.2.2.2.2.2.1.1,(List.append st.2.2.2.2.2.2.2.2.2.2.2.2.1.2.1 ([y3]:List Int),st.2.2.2.2.2.2.2.2.2.2.2.2.1.2.2)),())))))))))))))) else none) else none) else none) else none) else some (.inr (st.1,(st.2.1,(st.2.2.1,(st.2.2.2.1,(st.2.2.2.2.1,(st.2.2.2.2.2.1,(st.2.2.2.2.2.2.2.2.2.2.1,(st.2.2.2.2.2.2.2.2.2.2.2.1,(st.2.2.2.2.2.2.2.2.2.2.2.2.1,()))))))))))
def F_parts_Best_l1 (st:(Int×(Int×(Int×((List Int)×(Int×(Int×Z58))))))):Option ((Int×(Int×(Int×((List Int)×(Int×(Int×Z58)))))) ⊕ Z58):= bif decide (st.2.2.2.2.2.1≤(imin (imax st.2.2.1 (0:Int)) (8:Int))) then ((F_parts_Sizes (st.2.2.2.2.2.1,(st.1,st.2.1))).bind fun y2=> bif ((List.length y2:Nat):Int)==(0:Int) then some (.inl (st.1,(st.2.1,(st.2.2.1,(st.2.2.2.1,(st.2.2.2.2.1,(IntKind.wrap .i64 (st.2.2.2.2.2.1+(1:Int)),(st.2.2.2.2.2.2.1,(st.2.2.2.2.2.2.2.1,()))))))))) else ((iter F_parts_Best_l0 (st.1,(st.2.1,(st.2.2.1,(st.2.2.2.1,(st.2.2.2.2.1,(st.2.2.2.2.2.1,(st.2.2.2.1,(((List.length y2:Nat):Int),((0:Int),(y2,(st.2.2.2.2.2.2.1,(st.2.2.2.2.2.2.2.1,((st.2.2.2.2.2.1,(([]:(List Int)),())),())))))))))))))).bind fun w4=> (F_parts_Cost (w4.2.2.2.2.2.2.2.2.1,(w4.1,(w4.2.1,w4.2.2.2.1)))).bind fun y5=> (show Option (Int×(Int×(Int×((List Int)×(Int×(Int×(Int×(Bool×Z70)))))))) from bif w4.2.2.2.2.1==(0:Int) then some (w4.1,(w4.2.1,(w4.2.2.1,(w4.2.2.2.1,(w4.2.2.2.2.1,(w4.2.2.2.2.2.1,(y5,(true,(w4.2.2.2.2.2.2.1,(w4.2.2.2.2.2.2.2.1,(w4.2.2.2.2.2.2.2.2.1,()))))))))))) else some (w4.1,(w4.2.1,(w4.2.2.1,(w4.2.2.2.1,(w4.2.2.2.2.1,(w4.2.2.2.2.2.1,(y5,(decide (y5<w4.2.2.2.2.1),(w4.2.2.2.2.2.2.1,(w4.2.2.2.2.2.2.2.1,(w4.2.2.2.2.2.2.2.2.1,())))))))))))).bind fun z6=> bif z6.2.2.2.2.2.2.2.1 then some (.inl (z6.1,(z6.2.1,(z6.2.2.1,(z6.2.2.2.1,(z6.2.2.2.2.2.2.1,(IntKind.wrap .i64 (z6.2.2.2.2.2.1+(1:Int)),(z6.2.2.2.2.2.2.2.2.1,(z6.2.2.2.2.2.2.2.2.2.2.1,()))))))))) else some (.inl (z6.1,(z6.2.1,(z6.2.2.1,(z6.2.2.2.1,(z6.2.2.2.2.1,(IntKind.wrap .i64 (z6.2.2.2.2.2.1+(1:Int)),(z6.2.2.2.2.2.2.2.2.1,(z6.2.2.2.2.2.2.2.2.2.1,()))))))))))) else some (.inr (st.2.2.2.2.2.2.1,(st.2.2.2.2.2.2.2.1,())))
def F_parts_Best (x:(Int×Z1)):Option (Z5×Int):= (F_parts_right (x.1,(x.2.1,x.2.2.2))).bind fun y1=> bif !y1 then some (((0:Int),(([]:(List Int)),())),(1:Int)) else ((iter F_parts_Best_l1 (x.1,(x.2.1,(x.2.2.1,(x.2.2.2,((0:Int),((0:Int),(((0:Int),(([]:(List Int)),())),(((0:Int),(([]:(List Int)),())),()))))))))).bind fun w7=> some (w7.2.1,(0:Int)))
def S_parts_Best:FSem:=⟨[.v (.int .i64),.v (.int .i64),.v (.int .i64),.v (.list false (.int .i64))],[.v Q6,.v (.int .i64)],F_parts_Best⟩
def H69:Hints:=⟨[(250,[.sv 0 (.int .i64),.sv 1 (.int .i64),.sv 2 (.int .i64),.sv 3 (.list false (.int .i64)),.sv 11 (.int .i64),.sv 12 (.int .i64),.box 8 Q6,.box 10 Q6,.ptr 8 8 [],.ptr 10 10 []],[(.exit 0,[.box 8 Q6,.box 10 Q6,.ptr 8 8 [],.ptr 10 10 []])]),(512634,[.sv 0 (.int .i64),.sv 1 (.int .i64),.sv 2 (.int .i64),.sv 3 (.list false (.int .i64)),.sv 11 (.int .i64),.sv 12 (.int .i64),.sv 15 (.list false (.int .i64)),.sv 43 (.int .i64),.sv 44 (.int .i64),.own 42 13 (.int .i64),.box 8 Q6,.box 10 Q6,.box 14 Q5,.ptr 8 8 [],.ptr 10 10 [],.ptr 14 14 []],[(.exit 2,[.sv 0 (.int .i64),.sv 1 (.int .i64),.sv 2 (.int .i64),.sv 3 (.list false (.int .i64)),.sv 11 (.int .i64),.sv 12 (.int .i64),.box 8 Q6,.box 10 Q6,.box 14 Q5,.ptr 8 8 [],.ptr 10 10 [],.ptr 14 14 []])])],[(256319,[(.normal,[.sv 0 (.int .i64),.sv 1 (.int .i64),.sv 2 (.int .i64),.sv 3 (.list false (.int .i64)),.sv 11 (.int .i64),.sv 12 (.int .i64),.sv 18 (.int .i64),.sv 72 .bool,.box 8 Q6,.box 10 Q6,.box 14 Q6,.ptr 8 8 [],.ptr 10 10 [],.ptr 14 14 []])])],[(15,[.q,.q,.v,.v,.v,.v,.q,.x,.x,.x])]⟩
def F_sub_Make_l0 (st:((List Int)×((List Int)×Z94))):Option (((List Int)×((List Int)×Z94)) ⊕ (((List Int)×Z92) ⊕ (Int×Z81))):= bif decide (st.2.2.2.1<st.2.2.1) then ((gidx st.2.1 st.2.2.2.1).bind fun x5=> (gidx st.1 (0:Int)).bind fun x6=> bif x5 != x6 then some (.inr (Sum.inr (((7:Int),(((0:Int),((0:Int),((0:Int),((0:Int),((0:Int),(([]:(List Int)),(List.replicate 3 (0:Int),(([]:Z4),(([]:(List Int)),(((0:Int),(([]:(List Int)),())),(([]:(List Int)),()))))))))))),()))))) else some (.inl (st.1,(st.2.1,(st.2.2.1,(IntKind.wrap .i64 (st.2.2.2.1+(1:Int)),(st.2.2.2.2.1,(st.2.2.2.2.2.1,())))))))) else some (.inr (Sum.inl (st.1,(st.2.2.2.2.1,(st.2.2.2.2.2.1,())))))
def F_sub_Make (x:(Int×((List Int)×Z78))):Option Z80:= (show Option (Int×((List Int)×(Int×(Bool×Z92)))) from bif decide (((List.length x.2.1:Nat):Int)<(1:Int)) then some (x.1,(x.2.1,(((List.length x.2.1:Nat):Int),(true,(((0:Int),((0:Int),((0:Int),((0:Int),((0:Int),(([]:(List Int)),(List.replicate 3 (0:Int),(([]:Z4),(([]:(List Int)),(((0:Int),(([]:(List Int)),())),(([]:(List Int)),()))))))))))),(x.2.2,())))))) else (bif decide (((List.length x.2.1:Nat):Int) > (4096:Int)) then some (x.1,(x.2.1,(((List.length x.2.1:Nat):Int),(true,(((0:Int),((0:Int),((0:Int),((0:Int),((0:Int),(([]:(List Int)),(List.replicate 3 (0:Int),(([]:Z4),(([]:(List Int)),(((0:Int),(([]:(List Int)),())),(([]:(List Int)),()))))))))))),(x.2.2,())))))) else ((F_sub_fit (x.1,(x.2.2,((List.length x.2.1:Nat):Int)))).bind fun y1=> some (x.1,(x.2.1,(((List.length x.2.1:Nat):Int),(!y1,(((0:Int),((0:Int),((0:Int),((0:Int),((0:Int),(([]:(List Int)),(List.replicate 3 (0:Int),(([]:Z4),(([]:(List Int)),(((0:Int),(([]:(List Int)),())),(([]:(List Int)),()))))))))))),(x.2.2,()))))))))).bind fun z2=> bif z2.2.2.2.1 then some (((0:Int),((0:Int),((0:Int),((0:Int),((0:Int),(([]:(List Int)),(List.replicate 3 (0:Int),(([]:Z4),(([]:(List Int)),(((0:Int),(([]:(List Int)),())),(([]:(List Int)),()))))))))))),(1:Int)) else ((F_sub_allWide z2.2.1).bind fun y3=> bif !y3 then some (((0:Int),((0:Int),((0:Int),((0:Int),((0:Int),(([]:(List Int)),(List.replicate 3 (0:Int),(([]:Z4),(([]:(List Int)),(((0:Int),(([]:(List Int)),())),(([]:(List Int)),()))))))))))),(6:Int)) else ((F_sub_chosen (z2.1,z2.2.2.2.2.2.1)).bind fun y4=> bif z2.1==(0:Int) then ((iter F_sub_Make_l0 (z2.2.1,(z2.2.1,(((List.length z2.2.1:Nat):Int),((0:Int),(z2.2.2.2.2.1,(y4,()))))))).bind fun w7=> match w7 with |.inl a8=>((gidx a8.1 (0:Int)).bind fun x10=> some ((a8.2.2.1.1,(a8.2.2.1.2.1,(a8.2.2.1.2.2.1,(a8.2.2.1.2.2.2.1,(a8.2.2.1.2.2.2.2.1,(a8.2.2.1.2.2.2.2.2.1,(a8.2.2.1.2.2.2.2.2.2.1,(a8.2.2.1.2.2.2.2.2.2.2.1,(([x10]:List Int),a8.2.2.1.2.2.2.2.2.2.2.2.2))))))))),(0:Int))) |.inr b9=>some (b9.2.1,b9.1)) else ((F_sample_Wasted z2.2.1).bind fun y11=> (F_sample_Down (z2.2.1,y11)).bind fun y12=> bif y12.2 != (0:Int) then some (((0:Int),((0:Int),((0:Int),((0:Int),((0:Int),(([]:(List Int)),(List.replicate 3 (0:Int),(([]:Z4),(([]:(List Int)),(((0:Int),(([]:(List Int)),())),(([]:(List Int)),()))))))))))),(6:Int)) else (bif z2.1==(1:Int) then some ((y4.1,(y11,(y4.2.2.1,(y4.2.2.2.1,(y4.2.2.2.2.1,(y4.2.2.2.2.2.1,(y4.2.2.2.2.2.2.1,(y4.2.2.2.2.2.2.2.1,(y12.1,y4.2.2.2.2.2.2.2.2.2))))))))),(0:Int)) else ((F_sub_split ((y4.1,(y11,y4.2.2)),y12.1)).bind fun y13=> bif y13.1 != (0:Int) then some (((0:Int),((0:Int),((0:Int),((0:Int),((0:Int),(([]:(List Int)),(List.replicate 3 (0:Int),(([]:Z4),(([]:(List Int)),(((0:Int),(([]:(List Int)),())),(([]:(List Int)),()))))))))))),(6:Int)) else ((F_parts_Best (z2.2.2.1,(((List.length y13.2.2.2.2.2.2.2.2.2.1:Nat):Int),((6:Int),y13.2.2.2.2.2.2.2.2.2.2.2.1)))).bind fun y14=> bif y14.2 != (0:Int) then some (((0:Int),((0:Int),((0:Int),((0:Int),((0:Int),(([]:(List Int)),(List.replicate 3 (0:Int),(([]:Z4),(([]:(List Int)),(((0:Int),(([]:(List Int)),())),(([]:(List Int)),()))))))))))),(6:Int)) else some ((y13.2.1,(y13.2.2.1,(y13.2.2.2.1,(y13.2.2.2.2.1,(y13.2.2.2.2.2.1,(y13.2.2.2.2.2.2.1,(y13.2.2.2.2.2.2.2.1,(y13.2.2.2.2.2.2.2.2.1,(y13.2.2.2.2.2.2.2.2.2.1,(y14.1,y13.2.2.2.2.2.2.2.2.2.2.2)))))))))),(0:Int))))))))
def S_sub_Make:FSem:=⟨[.v (.int .i64),.v (.list false (.int .i64)),.v Q28],[.v Q28,.v (.int .i64)],F_sub_Make⟩
def H32:Hints:=⟨[(4050,[.sv 1 (.list false (.int .i64)),.sv 39 (.list false (.int .i64)),.sv 40 (.int .i64),.sv 41 (.int .i64),.box 6 Q28,.box 9 Q28,.ptr 6 6 [],.ptr 9 9 []],[(.exit 0,[.sv 1 (.list false (.int .i64)),.box 6 Q28,.box 9 Q28,.ptr 6 6 [],.ptr 9 9 []]),(.ret,[.sv 7 (.int .i64),.box 6 Q28,.ptr 6 6 []])])],[(14,[(.normal,[.sv 0 (.int .i64),.sv 1 (.list false (.int .i64)),.sv 8 (.int .i64),.sv 28 .bool,.box 6 Q28,.vp 5 Q28,.ptr 6 6 []])])],[]⟩
def F_fixed_weigh_l0 (st:Z35):Option (Z35 ⊕ (Int×Unit)):= bif decide (st.2.2.2.2.1<st.2.2.2.1) then ((gidx st.2.2.1 st.2.2.2.2.1).bind fun x1=> bif decide ((IntKind.wrap .i64 (st.2.2.2.2.1+st.1))≥(4:Int)) then some (.inl (st.1,(IntKind.wrap .i64 (st.2.1+(imax x1 (IntKind.wrap .i64 (0-x1)))),(st.2.2.1,(st.2.2.2.1,(IntKind.wrap .i64 (st.2.2.2.2.1+(1:Int)),())))))) else some (.inl (st.1,(st.2.1,(st.2.2.1,(st.2.2.2.1,(IntKind.wrap .i64 (st.2.2.2.2.1+(1:Int)),()))))))) else some (.inr (st.2.1,()))
def F_fixed_weigh (x:((List Int)×Int)):Option Int:= (iter F_fixed_weigh_l0 (x.2,((0:Int),(x.1,(((List.length x.1:Nat):Int),((0:Int),())))))).bind fun w2=> some w2.1
def S_fixed_weigh:FSem:=⟨[.v (.list false (.int .i64)),.v (.int .i64)],[.v (.int .i64)],F_fixed_weigh⟩
def H149:Hints:=⟨[(58,[.sv 1 (.int .i64),.sv 5 (.int .i64),.sv 8 (.list false (.int .i64)),.sv 9 (.int .i64),.sv 10 (.int .i64)],[(.exit 0,[.sv 5 (.int .i64)])])],[],[]⟩
def F_fixed_Best_l0 (st:Z22):Option (Z22 ⊕ (Int×Unit)):= bif decide (st.2.2.2.1≤(4:Int)) then ((F_fixed_Rest (st.1,st.2.2.2.1)).bind fun y1=> bif y1.2 != (0:Int) then some (.inl (st.1,(st.2.1,(st.2.2.1,(IntKind.wrap .i64 (st.2.2.2.1+(1:Int)),()))))) else ((F_fixed_weigh (y1.1,st.2.2.2.1)).bind fun y2=> (show Option ((List Int)×(Int×Z18)) from bif decide (st.2.2.1<(0:Int)) then some (st.1,(st.2.1,(st.2.2.1,(st.2.2.2.1,(y2,(true,())))))) else some (st.1,(st.2.1,(st.2.2.1,(st.2.2.2.1,(y2,(decide (y2<st.2.2.1),()))))))).bind fun z3=> bif z3.2.2.2.2.2.1 then some (.inl (z3.1,(z3.2.2.2.1,(z3.2.2.2.2.1,(IntKind.wrap .i64 (z3.2.2.2.1+(1:Int)),()))))) else some (.inl (z3.1,(z3.2.1,(z3.2.2.1,(IntKind.wrap .i64 (z3.2.2.2.1+(1:Int)),()))))))) else some (.inr (st.2.1,()))
def F_fixed_Best (x:(List Int)):Option Int:= (iter F_fixed_Best_l0 (x,((0:Int),((-1:Int),((0:Int),()))))).bind fun w4=> some w4.1
def S_fixed_Best:FSem:=⟨[.v (.list false (.int .i64))],[.v (.int .i64)],F_fixed_Best⟩
def H95:Hints:=⟨[(58,[.sv 0 (.list false (.int .i64)),.sv 3 (.int .i64),.sv 4 (.int .i64),.sv 5 (.int .i64)],[(.exit 0,[.sv 3 (.int .i64)])])],[(7463,[(.normal,[.sv 0 (.list false (.int .i64)),.sv 3 (.int .i64),.sv 4 (.int .i64),.sv 5 (.int .i64),.sv 8 (.int .i64),.sv 30 .bool])])],[]⟩
def F_linear_clamp (x:Int):Option Int:= some (imin (imax x (-1048576:Int)) (1048575:Int))
def S_linear_clamp:FSem:=⟨[.v (.int .i64)],[.v (.int .i64)],F_linear_clamp⟩
def H187:Hints:=⟨[],[],[]⟩
def F_linear_scaled_l0 (st:Z51):Option (Z51 ⊕ Z42):= bif decide (st.2.1<0) then none else ((F_linear_clamp (gshr .i64 st.2.2.1 st.2.1)).bind fun y2=> bif decide (st.2.1<0) then none else (bif y2 != (gshr .i64 st.2.2.1 st.2.1) then some (.inl (st.1,(IntKind.wrap .i64 (st.2.1+(1:Int)),(st.2.2.1,(st.2.2.2.1,(st.2.2.2.2.1,(st.2.2.2.2.2.1,()))))))) else some (.inr (st.1,(st.2.1,(st.2.2.2.1,(st.2.2.2.2.1,(st.2.2.2.2.2.1,()))))))))
def F_linear_scaled_l1 (st:Z42):Option (Z42 ⊕ Z3):= bif decide (st.2.2.2.2.1<st.2.2.2.1) then ((gidx st.2.2.1 st.2.2.2.2.1).bind fun x1=> (iter F_linear_scaled_l0 (st.1,(st.2.1,(x1,(st.2.2.1,(st.2.2.2.1,(st.2.2.2.2.1,()))))))).bind fun w3=> some (.inl (w3.1,(w3.2.1,(w3.2.2.1,(w3.2.2.2.1,(IntKind.wrap .i64 (w3.2.2.2.2.1+(1:Int)),()))))))) else some (.inr (st.1,(st.2.1,())))
def F_linear_scaled_l2 (st:Z41):Option (Z41 ⊕ ((List Int)×Unit)):= bif decide (st.2.2.2.1<st.2.2.1) then ((gidx st.2.1 st.2.2.2.1).bind fun x5=> bif decide (st.1<0) then none else (bif (decide ((0:Int)≤st.2.2.2.1))&&(decide (st.2.2.2.1<((List.length st.2.2.2.2.1:Nat):Int))) then some (.inl (st.1,(st.2.1,(st.2.2.1,(IntKind.wrap .i64 (st.2.2.2.1+(1:Int)),(List.set st.2.2.2.2.1 (Int.toNat st.2.2.2.1) (gshr .i64 x5 st.1),())))))) else none)) else some (.inr (st.2.2.2.2.1,()))
def F_linear_scaled (x:(List Int)):Option (List Int):= (iter F_linear_scaled_l1 (x,((0:Int),(x,(((List.length x:Nat):Int),((0:Int),())))))).bind fun w4=> bif (decide ((0:Int)≤((List.length w4.1:Nat):Int)))&&((decide (((List.length w4.1:Nat):Int)≤((List.length w4.1:Nat):Int)))&&(lim (Int.toNat ((List.length w4.1:Nat):Int)))) then ((iter F_linear_scaled_l2 (w4.2.1,(w4.1,(((List.length w4.1:Nat):Int),((0:Int),(List.replicate (Int.toNat ((List.length w4.1:Nat):Int)) (0:Int),())))))).bind fun w6=> some w6.1) else none
def S_linear_scaled:FSem:=⟨[.v (.list false (.int .i64))],[.o (.int .i64)],F_linear_scaled⟩
def H185:Hints:=⟨[(58,[.sv 0 (.list false (.int .i64)),.sv 3 (.int .i64),.sv 9 (.list false (.int .i64)),.sv 10 (.int .i64),.sv 11 (.int .i64)],[(.exit 0,[.sv 0 (.list false (.int .i64)),.sv 3 (.int .i64)])]),(250,[.sv 3 (.int .i64),.sv 29 (.list false (.int .i64)),.sv 30 (.int .i64),.sv 31 (.int .i64),.own 6 6 (.int .i64)],[(.exit 4,[.own 6 6 (.int .i64)])]),(7474,[.sv 0 (.list false (.int .i64)),.sv 3 (.int .i64),.sv 5 (.int .i64),.sv 9 (.list false (.int .i64)),.sv 10 (.int .i64),.sv 11 (.int .i64)],[(.exit 2,[.sv 0 (.list false (.int .i64)),.sv 3 (.int .i64),.sv 9 (.list false (.int .i64)),.sv 10 (.int .i64),.sv 11 (.int .i64)])])],[],[(5,[.v,.v,.v,.v,.v,.v,.v,.x])]⟩
def F_linear_reflection_l0 (st:((List Int)×Z22)):Option (((List Int)×Z22) ⊕ (Int×(Int×Unit))):= bif decide (st.2.2.2.2.1<((List.length st.1:Nat):Int)) then ((gidx st.1 st.2.2.2.2.1).bind fun x1=> (gidx st.2.1 (IntKind.wrap .i64 (st.2.2.2.2.1-(1:Int)))).bind fun x2=> (gidx st.1 st.2.2.2.2.1).bind fun x3=> (gidx st.1 st.2.2.2.2.1).bind fun x4=> (gidx st.2.1 (IntKind.wrap .i64 (st.2.2.2.2.1-(1:Int)))).bind fun x5=> (gidx st.2.1 (IntKind.wrap .i64 (st.2.2.2.2.1-(1:Int)))).bind fun x6=> some (.inl (st.1,(st.2.1,(IntKind.wrap .i64 (st.2.2.1+(IntKind.wrap .i64 (x1*x2))),(IntKind.wrap .i64 (st.2.2.2.1+(IntKind.wrap .i64 ((IntKind.wrap .i64 (x3*x4))+(IntKind.wrap .i64 (x5*x6))))),(IntKind.wrap .i64 (st.2.2.2.2.1+(1:Int)),()))))))) else some (.inr (st.2.2.1,(st.2.2.2.1,())))
def F_linear_reflection_l1 (st:(Int×(Int×Unit))):Option ((Int×(Int×Unit)) ⊕ (Int×(Int×Unit))):= bif decide (st.2.1≥(1099511627776:Int)) then some (.inl (gshr .i64 st.1 (1:Int),(gshr .i64 st.2.1 (1:Int),()))) else some (.inr (st.1,(st.2.1,())))
def F_linear_reflection (x:Z9):Option Int:= (iter F_linear_reflection_l0 (x.1,(x.2.1,((0:Int),((0:Int),(x.2.2,())))))).bind fun w7=> (iter F_linear_reflection_l1 (w7.1,(w7.2.1,()))).bind fun w8=> bif w8.2.1==(0:Int) then some (0:Int) else (bif w8.2.1==0 then none else ((show Option (Int×Unit) from bif w8.2.1==0 then none else (bif decide ((Int.tmod (gshl .i64 w8.1 (15:Int)) w8.2.1)<(0:Int)) then some (IntKind.wrap .i64 ((IntKind.wrap .i64 (Int.tdiv (gshl .i64 w8.1 (15:Int)) w8.2.1))-(1:Int)),()) else some (IntKind.wrap .i64 (Int.tdiv (gshl .i64 w8.1 (15:Int)) w8.2.1),()))).bind fun z9=> some (imin (imax z9.1 (-16383:Int)) (16383:Int))))
def S_linear_reflection:FSem:=⟨[.v (.list false (.int .i64)),.v (.list false (.int .i64)),.v (.int .i64)],[.v (.int .i64)],F_linear_reflection⟩
def H186:Hints:=⟨[(58,[.sv 0 (.list false (.int .i64)),.sv 1 (.list false (.int .i64)),.sv 7 (.int .i64),.sv 8 (.int .i64),.sv 9 (.int .i64)],[(.exit 0,[.sv 7 (.int .i64),.sv 8 (.int .i64)])]),(60,[.sv 7 (.int .i64),.sv 8 (.int .i64)],[(.exit 2,[.sv 7 (.int .i64),.sv 8 (.int .i64)])])],[(255,[(.normal,[.sv 10 (.int .i64)])])],[(5,[.v,.v,.v,.v,.v,.v,.v,.v,.v,.v,.v,.x,.x]),(6,[.v,.v,.v,.v,.v,.v,.v,.v,.v,.v,.v,.v,.v,.v,.v,.v,.v,.v,.v,.v,.v,.v,.x,.x])]⟩
def F_linear_Reflect_l0 (st:(Int×(Int×Z49))):Option ((Int×(Int×Z49)) ⊕ Z49):= bif decide (st.2.2.2.1≥st.2.1) then (bif (decide ((0:Int)≤st.2.2.2.1))&&(decide (st.2.2.2.1<((List.length st.2.2.2.2.1:Nat):Int))) then (bif (decide ((0:Int)≤(IntKind.wrap .i64 (st.2.2.2.1-(1:Int)))))&&(decide ((IntKind.wrap .i64 (st.2.2.2.1-(1:Int)))<((List.length st.2.2.2.2.2.1:Nat):Int))) then ((F_linear_clamp (IntKind.wrap .i64 ((List.getD st.2.2.2.2.1 (Int.toNat st.2.2.2.1) (0:Int))-(gshr .i64 (IntKind.wrap .i64 (st.2.2.1*(List.getD st.2.2.2.2.2.1 (Int.toNat (IntKind.wrap .i64 (st.2.2.2.1-(1:Int)))) (0:Int)))) (14:Int))))).bind fun y6=> bif (decide ((0:Int)≤st.2.2.2.1))&&(decide (st.2.2.2.1<((List.length st.2.2.2.2.1:Nat):Int))) then ((F_linear_clamp (IntKind.wrap .i64 ((List.getD st.2.2.2.2.2.1 (Int.toNat (IntKind.wrap .i64 (st.2.2.2.1-(1:Int)))) (0:Int))-(gshr .i64 (IntKind.wrap .i64 (st.2.2.1*(List.getD st.2.2.2.2.1 (Int.toNat st.2.2.2.1) (0:Int)))) (14:Int))))).bind fun y7=> bif (decide ((0:Int)≤st.2.2.2.1))&&(decide (st.2.2.2.1<((List.length st.2.2.2.2.2.1:Nat):Int))) then some (.inl (st.1,(st.2.1,(st.2.2.1,(IntKind.wrap .i64 (st.2.2.2.1-(1:Int)),(List.set st.2.2.2.2.1 (Int.toNat st.2.2.2.1) y6,(List.set st.2.2.2.2.2.1 (Int.toNat st.2.2.2.1) y7,(st.2.2.2.2.2.2.1,())))))))) else none) else none) else none) else none) else some (.inr (st.1,(st.2.1,(st.2.2.2.2.1,(st.2.2.2.2.2.1,(st.2.2.2.2.2.2.1,()))))))
def F_linear_Reflect_l1 (st:Z49):Option (Z49 ⊕ ((List Int)×Unit)):= bif decide (st.2.1≤st.1) then ((F_linear_reflection (st.2.2.1,(st.2.2.2.1,st.2.1))).bind fun y5=> bif lim ((List.length st.2.2.2.2.1)+1) then ((iter F_linear_Reflect_l0 (st.1,(st.2.1,(y5,(IntKind.wrap .i64 (((List.length st.2.2.1:Nat):Int)-(1:Int)),(st.2.2.1,(st.2.2.2.1,(List.append st.2.2.2.2.1 ([y5]:List Int),())))))))).bind fun w8=> some (.inl (w8.1,(IntKind.wrap .i64 (w8.2.1+(1:Int)),(w8.2.2.1,(w8.2.2.2.1,(w8.2.2.2.2.1,()))))))) else none) else some (.inr (st.2.2.2.2.1,()))
def F_linear_Reflect (x:((List Int)×Int)):Option ((List Int)×Int):= (show Option Z14 from bif decide (x.2<(1:Int)) then some (x.1,(x.2,(true,()))) else (bif decide (x.2 > (32:Int)) then some (x.1,(x.2,(true,()))) else some (x.1,(x.2,(decide (((List.length x.1:Nat):Int) > (4096:Int)),()))))).bind fun z1=> bif z1.2.2.1 then some (([]:(List Int)),(1:Int)) else ((F_linear_allWide z1.1).bind fun y2=> bif !y2 then some (([]:(List Int)),(6:Int)) else ((F_linear_scaled z1.1).bind fun y3=> (F_slices_Clone___int_int_ y3).bind fun y4=> bif (decide ((0:Int)≤z1.2.1))&&(lim (Int.toNat z1.2.1)) then ((iter F_linear_Reflect_l1 (z1.2.1,((1:Int),(y3,(y4,(([]:(List Int)),())))))).bind fun w9=> some (w9.1,(0:Int))) else none))
def S_linear_Reflect:FSem:=⟨[.v (.list false (.int .i64)),.v (.int .i64)],[.o (.int .i64),.v (.int .i64)],F_linear_Reflect⟩
def H150:Hints:=⟨[(1018,[.sv 1 (.int .i64),.sv 9 (.int .i64),.own 6 6 (.int .i64),.own 7 7 (.int .i64),.own 8 8 (.int .i64)],[(.exit 0,[.own 8 8 (.int .i64)])]),(260686,[.sv 1 (.int .i64),.sv 9 (.int .i64),.sv 10 (.int .i64),.sv 11 (.int .i64),.own 6 6 (.int .i64),.own 7 7 (.int .i64),.own 8 8 (.int .i64)],[(.exit 2,[.sv 1 (.int .i64),.sv 9 (.int .i64),.own 6 6 (.int .i64),.own 7 7 (.int .i64),.own 8 8 (.int .i64)])])],[(6,[(.normal,[.sv 0 (.list false (.int .i64)),.sv 1 (.int .i64),.sv 24 .bool])])],[(16,[.q,.v,.q,.q,.q,.v,.v,.q,.q,.v,.x])]⟩
def F_linear_Climb_l0 (st:Z31):Option (Z31 ⊕ (((List Int)×Unit) ⊕ Z3)):= bif decide (st.2.2.2.1<st.2.2.1) then ((gidx st.2.1 st.2.2.2.1).bind fun x2=> (show Option ((List Int)×Z24) from bif decide (x2<(-16383:Int)) then some (st.1,(st.2.1,(st.2.2.1,(st.2.2.2.1,(true,()))))) else some (st.1,(st.2.1,(st.2.2.1,(st.2.2.2.1,(decide (x2 > (16383:Int)),())))))).bind fun z3=> bif z3.2.2.2.2.1 then some (.inr (Sum.inr ((([]:(List Int)),((1:Int),()))))) else some (.inl (z3.1,(z3.2.1,(z3.2.2.1,(IntKind.wrap .i64 (z3.2.2.2.1+(1:Int)),())))))) else some (.inr (Sum.inl (st.1,())))
def F_linear_Climb_l1 (st:((List Int)×(Int×(Int×((List Int)×Z53))))):Option (((List Int)×(Int×(Int×((List Int)×Z53)))) ⊕ Z41):= bif decide (st.2.2.2.2.2.2.2.2.1<st.2.2.2.2.2.2.2.1) then ((gidx st.2.2.2.2.2.2.1 st.2.2.2.2.2.2.2.2.1).bind fun x8=> (gidx st.1 (IntKind.wrap .i64 ((IntKind.wrap .i64 (st.2.1-(1:Int)))-st.2.2.2.2.2.2.2.2.1))).bind fun x9=> bif lim ((List.length st.2.2.2.2.2.2.2.2.2.1)+1) then some (.inl (st.1,(st.2.1,(st.2.2.1,(st.2.2.2.1,(st.2.2.2.2.1,(st.2.2.2.2.2.1,(st.2.2.2.2.2.2.1,(st.2.2.2.2.2.2.2.1,(IntKind.wrap .i64 (st.2.2.2.2.2.2.2.2.1+(1:Int)),(List.append st.2.2.2.2.2.2.2.2.2.1 ([IntKind.wrap .i64 (x8-(gshr .i64 (IntKind.wrap .i64 (st.2.2.1*x9)) (14:Int)))]:List Int),()))))))))))) else none) else some (.inr (st.2.2.1,(st.2.2.2.1,(st.2.2.2.2.1,(st.2.2.2.2.2.1,(st.2.2.2.2.2.2.2.2.2.1,()))))))
def F_linear_Climb_l2 (st:Z31):Option (Z31 ⊕ ((List Int)×Unit)):= bif decide (st.2.2.2.1<st.2.2.1) then ((gidx st.2.1 st.2.2.2.1).bind fun x7=> bif (decide ((0:Int)≤(IntKind.wrap .i64 (st.2.2.2.1+(1:Int)))))&&(lim (Int.toNat (IntKind.wrap .i64 (st.2.2.2.1+(1:Int))))) then ((iter F_linear_Climb_l1 (st.1,(st.2.2.2.1,(x7,(st.2.1,(st.2.2.1,(st.2.2.2.1,(st.1,(((List.length st.1:Nat):Int),((0:Int),(([]:(List Int)),()))))))))))).bind fun w10=> bif lim ((List.length w10.2.2.2.2.1)+1) then some (.inl (List.append w10.2.2.2.2.1 ([w10.1]:List Int),(w10.2.1,(w10.2.2.1,(IntKind.wrap .i64 (w10.2.2.2.1+(1:Int)),()))))) else none) else none) else some (.inr (st.1,()))
def F_linear_Climb (x:(List Int)):Option ((List Int)×Int):= (show Option ((List Int)×(Bool×Unit)) from bif decide (((List.length x:Nat):Int)<(1:Int)) then some (x,(true,())) else some (x,(decide (((List.length x:Nat):Int) > (32:Int)),()))).bind fun z1=> bif z1.2.1 then some (([]:(List Int)),(1:Int)) else ((iter F_linear_Climb_l0 (z1.1,(z1.1,(((List.length z1.1:Nat):Int),((0:Int),()))))).bind fun w4=> match w4 with |.inl a5=>((iter F_linear_Climb_l2 (([]:List Int),(a5.1,(((List.length a5.1:Nat):Int),((0:Int),()))))).bind fun w11=> some (w11.1,(0:Int))) |.inr b6=>some (b6.1,b6.2.1))
def S_linear_Climb:FSem:=⟨[.v (.list false (.int .i64))],[.v (.list false (.int .i64)),.v (.int .i64)],F_linear_Climb⟩
def H151:Hints:=⟨[(58,[.sv 0 (.list false (.int .i64)),.sv 20 (.list false (.int .i64)),.sv 21 (.int .i64),.sv 22 (.int .i64)],[(.exit 0,[.sv 0 (.list false (.int .i64))]),(.ret,[.sv 2 (.list false (.int .i64)),.sv 3 (.int .i64)])]),(250,[.sv 6 (.list false (.int .i64)),.sv 34 (.list false (.int .i64)),.sv 35 (.int .i64),.sv 36 (.int .i64)],[(.exit 2,[.sv 6 (.list false (.int .i64))])]),(256410,[.sv 6 (.list false (.int .i64)),.sv 7 (.int .i64),.sv 8 (.int .i64),.sv 34 (.list false (.int .i64)),.sv 35 (.int .i64),.sv 36 (.int .i64),.sv 44 (.list false (.int .i64)),.sv 45 (.int .i64),.sv 46 (.int .i64),.own 9 9 (.int .i64)],[(.exit 4,[.sv 8 (.int .i64),.sv 34 (.list false (.int .i64)),.sv 35 (.int .i64),.sv 36 (.int .i64),.own 9 9 (.int .i64)])])],[(6,[(.normal,[.sv 0 (.list false (.int .i64)),.sv 19 .bool])]),(3737,[(.normal,[.sv 0 (.list false (.int .i64)),.sv 20 (.list false (.int .i64)),.sv 21 (.int .i64),.sv 22 (.int .i64),.sv 31 .bool])])],[]⟩
def F_linear_Round_l0 (st:Z42):Option (Z42 ⊕ (Z3 ⊕ Z12)):= bif decide (st.2.2.2.2.1<st.2.2.2.1) then ((gidx st.2.2.1 st.2.2.2.2.1).bind fun x2=> (show Option ((List Int)×(Int×Z24)) from bif decide (x2<(-35184372088832:Int)) then some (st.1,(st.2.1,(st.2.2.1,(st.2.2.2.1,(st.2.2.2.2.1,(true,())))))) else some (st.1,(st.2.1,(st.2.2.1,(st.2.2.2.1,(st.2.2.2.2.1,(decide (x2 > (35184372088832:Int)),()))))))).bind fun z3=> bif z3.2.2.2.2.2.1 then some (.inr (Sum.inr (((0:Int),((1:Int),(([]:(List Int)),())))))) else some (.inl (z3.1,(z3.2.1,(z3.2.2.1,(z3.2.2.2.1,(IntKind.wrap .i64 (z3.2.2.2.2.1+(1:Int)),()))))))) else some (.inr (Sum.inl (st.1,(st.2.1,()))))
def F_linear_Round_l1 (st:((List Int)×(Int×Z53))):Option (((List Int)×(Int×Z53)) ⊕ Z29):= bif decide (st.2.2.2.2.2.2.1<st.2.2.2.2.2.1) then ((gidx st.2.2.2.2.1 st.2.2.2.2.2.2.1).bind fun x8=> bif decide (st.2.2.1<0) then none else ((F_sample_Fits (gshr .i64 (IntKind.wrap .i64 (x8+st.2.2.2.1)) st.2.2.1,st.2.1)).bind fun y9=> bif !y9 then some (.inr (st.1,(st.2.1,(st.2.2.1,(st.2.2.2.2.2.2.2.1,()))))) else (bif lim ((List.length st.2.2.2.2.2.2.2.1)+1) then some (.inl (st.1,(st.2.1,(st.2.2.1,(st.2.2.2.1,(st.2.2.2.2.1,(st.2.2.2.2.2.1,(IntKind.wrap .i64 (st.2.2.2.2.2.2.1+(1:Int)),(List.append st.2.2.2.2.2.2.2.1 ([gshr .i64 (IntKind.wrap .i64 (x8+st.2.2.2.1)) st.2.2.1]:List Int),()))))))))) else none))) else some (.inr (st.1,(st.2.1,(st.2.2.1,(st.2.2.2.2.2.2.2.1,())))))
def F_linear_Round_l2 (st:Z11):Option (Z11 ⊕ (Unit ⊕ Z12)):= bif decide (st.2.2.1≤(14:Int)) then ((show Option Z22 from bif decide (st.2.2.1 > (0:Int)) then (bif decide ((IntKind.wrap .i64 (st.2.2.1-(1:Int)))<0) then none else some (st.1,(st.2.1,(st.2.2.1,(gshl .i64 (1:Int) (IntKind.wrap .i64 (st.2.2.1-(1:Int))),()))))) else some (st.1,(st.2.1,(st.2.2.1,((0:Int),()))))).bind fun z7=> bif (decide ((0:Int)≤((List.length z7.1:Nat):Int)))&&(lim (Int.toNat ((List.length z7.1:Nat):Int))) then ((iter F_linear_Round_l1 (z7.1,(z7.2.1,(z7.2.2.1,(z7.2.2.2.1,(z7.1,(((List.length z7.1:Nat):Int),((0:Int),(([]:(List Int)),()))))))))).bind fun w10=> bif ((List.length w10.2.2.2.1:Nat):Int)==((List.length w10.1:Nat):Int) then some (.inr (Sum.inr ((IntKind.wrap .i64 ((14:Int)-w10.2.2.1),((0:Int),(w10.2.2.2.1,())))))) else some (.inl (w10.1,(w10.2.1,(IntKind.wrap .i64 (w10.2.2.1+(1:Int)),()))))) else none) else some (.inr (Sum.inl ()))
def F_linear_Round (x:((List Int)×Int)):Option Z2:= (show Option Z14 from bif decide (((List.length x.1:Nat):Int)<(1:Int)) then some (x.1,(x.2,(true,()))) else (bif decide (((List.length x.1:Nat):Int) > (32:Int)) then some (x.1,(x.2,(true,()))) else (bif decide (x.2<(2:Int)) then some (x.1,(x.2,(true,()))) else some (x.1,(x.2,(decide (x.2 > (16:Int)),())))))).bind fun z1=> bif z1.2.2.1 then some (([]:(List Int)),((0:Int),(1:Int))) else ((iter F_linear_Round_l0 (z1.1,(z1.2.1,(z1.1,(((List.length z1.1:Nat):Int),((0:Int),())))))).bind fun w4=> match w4 with |.inl a5=>((iter F_linear_Round_l2 (a5.1,(a5.2.1,((0:Int),())))).bind fun w11=> match w11 with |.inl a12=>some (([]:(List Int)),((0:Int),(6:Int))) |.inr b13=>some (b13.2.2.1,(b13.1,b13.2.1))) |.inr b6=>some (b6.2.2.1,(b6.1,b6.2.1)))
def S_linear_Round:FSem:=⟨[.v (.list false (.int .i64)),.v (.int .i64)],[.o (.int .i64),.v (.int .i64),.v (.int .i64)],F_linear_Round⟩
def H152:Hints:=⟨[(58,[.sv 0 (.list false (.int .i64)),.sv 1 (.int .i64),.sv 31 (.list false (.int .i64)),.sv 32 (.int .i64),.sv 33 (.int .i64)],[(.exit 0,[.sv 0 (.list false (.int .i64)),.sv 1 (.int .i64)]),(.ret,[.sv 5 (.int .i64),.sv 6 (.int .i64),.own 4 4 (.int .i64)])]),(122,[.sv 0 (.list false (.int .i64)),.sv 1 (.int .i64),.sv 9 (.int .i64)],[(.exit 2,[]),(.ret,[.sv 5 (.int .i64),.sv 6 (.int .i64),.own 4 11 (.int .i64)])]),(125242,[.sv 0 (.list false (.int .i64)),.sv 1 (.int .i64),.sv 9 (.int .i64),.sv 10 (.int .i64),.sv 56 (.list false (.int .i64)),.sv 57 (.int .i64),.sv 58 (.int .i64),.own 11 11 (.int .i64)],[(.exit 4,[.sv 0 (.list false (.int .i64)),.sv 1 (.int .i64),.sv 9 (.int .i64),.own 11 11 (.int .i64)])])],[(6,[(.normal,[.sv 0 (.list false (.int .i64)),.sv 1 (.int .i64),.sv 30 .bool])]),(3737,[(.normal,[.sv 0 (.list false (.int .i64)),.sv 1 (.int .i64),.sv 31 (.list false (.int .i64)),.sv 32 (.int .i64),.sv 33 (.int .i64),.sv 42 .bool])]),(3913,[(.normal,[.sv 0 (.list false (.int .i64)),.sv 1 (.int .i64),.sv 9 (.int .i64),.sv 10 (.int .i64)])])],[]⟩
def F_linear_Find (x:Z2):Option Z2:= (F_linear_Reflect (x.1,x.2.1)).bind fun y1=> bif y1.2 != (0:Int) then some (([]:(List Int)),((0:Int),y1.2)) else ((F_linear_Climb y1.1).bind fun y2=> bif y2.2 != (0:Int) then some (([]:(List Int)),((0:Int),y2.2)) else ((F_linear_Round (y2.1,x.2.2)).bind fun y3=> some (y3.1,(y3.2.1,y3.2.2))))
def S_linear_Find:FSem:=⟨[.v (.list false (.int .i64)),.v (.int .i64),.v (.int .i64)],[.o (.int .i64),.v (.int .i64),.v (.int .i64)],F_linear_Find⟩
def H97:Hints:=⟨[],[],[]⟩
def F_long_Find_l0 (st:((List Int)×(Int×(Int×Z26)))):Option (((List Int)×(Int×(Int×Z26))) ⊕ ((List Int)×(Int×Z26))):= bif decide (st.2.2.2.2.2.2.2.1<((List.length st.1:Nat):Int)) then ((gidx st.1 st.2.2.2.2.2.2.2.1).bind fun x3=> (gidx st.1 (IntKind.wrap .i64 (st.2.2.2.2.2.2.2.1-st.2.2.2.2.2.1))).bind fun x4=> some (.inl (st.1,(st.2.1,(st.2.2.1,(st.2.2.2.1,(st.2.2.2.2.1,(st.2.2.2.2.2.1,(IntKind.wrap .i64 (st.2.2.2.2.2.2.1+(imax (IntKind.wrap .i64 (x3-x4)) (IntKind.wrap .i64 (0-(IntKind.wrap .i64 (x3-x4)))))),(IntKind.wrap .i64 (st.2.2.2.2.2.2.2.1+(1:Int)),())))))))))) else some (.inr (st.1,(st.2.1,(st.2.2.1,(st.2.2.2.1,(st.2.2.2.2.1,(st.2.2.2.2.2.1,(st.2.2.2.2.2.2.1,()))))))))
def F_long_Find_l1 (st:((List Int)×Z26)):Option (((List Int)×Z26) ⊕ (Int×Unit)):= bif decide (st.2.2.2.2.2.1≤st.2.2.1) then ((iter F_long_Find_l0 (st.1,(st.2.1,(st.2.2.1,(st.2.2.2.1,(st.2.2.2.2.1,(st.2.2.2.2.2.1,((0:Int),(st.2.2.1,()))))))))).bind fun w5=> (show Option ((List Int)×(Int×(Int×(Int×Z18)))) from bif w5.2.2.2.2.2.1==w5.2.1 then some (w5.1,(w5.2.1,(w5.2.2.1,(w5.2.2.2.1,(w5.2.2.2.2.1,(w5.2.2.2.2.2.1,(w5.2.2.2.2.2.2.1,(true,())))))))) else some (w5.1,(w5.2.1,(w5.2.2.1,(w5.2.2.2.1,(w5.2.2.2.2.1,(w5.2.2.2.2.2.1,(w5.2.2.2.2.2.2.1,(decide (w5.2.2.2.2.2.2.1<w5.2.2.2.2.1),()))))))))).bind fun z6=> bif z6.2.2.2.2.2.2.2.1 then some (.inl (z6.1,(z6.2.1,(z6.2.2.1,(z6.2.2.2.2.2.1,(z6.2.2.2.2.2.2.1,(IntKind.wrap .i64 (z6.2.2.2.2.2.1+(1:Int)),()))))))) else some (.inl (z6.1,(z6.2.1,(z6.2.2.1,(z6.2.2.2.1,(z6.2.2.2.2.1,(IntKind.wrap .i64 (z6.2.2.2.2.2.1+(1:Int)),())))))))) else some (.inr (st.2.2.2.1,()))
def F_long_Find (x:Z2):Option (Int×Int):= (show Option Z24 from bif decide (x.2.1<(2:Int)) then some (x.1,(x.2.1,(x.2.2,(true,())))) else (bif decide (x.2.1 > x.2.2) then some (x.1,(x.2.1,(x.2.2,(true,())))) else (bif decide (x.2.2 > (1024:Int)) then some (x.1,(x.2.1,(x.2.2,(true,())))) else some (x.1,(x.2.1,(x.2.2,(decide (((List.length x.1:Nat):Int) > (4096:Int)),()))))))).bind fun z1=> bif z1.2.2.2.1 then some ((0:Int),(1:Int)) else (bif decide (((List.length z1.1:Nat):Int)≤z1.2.2.1) then some ((0:Int),(7:Int)) else ((F_long_allWide z1.1).bind fun y2=> bif !y2 then some ((0:Int),(6:Int)) else ((iter F_long_Find_l1 (z1.1,(z1.2.1,(z1.2.2.1,((0:Int),((0:Int),(z1.2.1,()))))))).bind fun w7=> some (w7.1,(0:Int)))))
def S_long_Find:FSem:=⟨[.v (.list false (.int .i64)),.v (.int .i64),.v (.int .i64)],[.v (.int .i64),.v (.int .i64)],F_long_Find⟩
def H153:Hints:=⟨[(506,[.sv 0 (.list false (.int .i64)),.sv 1 (.int .i64),.sv 2 (.int .i64),.sv 8 (.int .i64),.sv 9 (.int .i64),.sv 10 (.int .i64)],[(.exit 0,[.sv 8 (.int .i64)])]),(129610,[.sv 0 (.list false (.int .i64)),.sv 1 (.int .i64),.sv 2 (.int .i64),.sv 8 (.int .i64),.sv 9 (.int .i64),.sv 10 (.int .i64),.sv 11 (.int .i64),.sv 12 (.int .i64)],[(.exit 2,[.sv 0 (.list false (.int .i64)),.sv 1 (.int .i64),.sv 2 (.int .i64),.sv 8 (.int .i64),.sv 9 (.int .i64),.sv 10 (.int .i64),.sv 11 (.int .i64)])])],[(6,[(.normal,[.sv 0 (.list false (.int .i64)),.sv 1 (.int .i64),.sv 2 (.int .i64),.sv 29 .bool])]),(32403,[(.normal,[.sv 0 (.list false (.int .i64)),.sv 1 (.int .i64),.sv 2 (.int .i64),.sv 8 (.int .i64),.sv 9 (.int .i64),.sv 10 (.int .i64),.sv 11 (.int .i64),.sv 74 .bool])])],[(15,[.v,.v,.v,.v,.v,.v,.v,.v,.v,.v,.x,.x])]⟩
def F_long_Table (x:Unit):Option (List (List Int)):= some ([List.set (List.set (List.set (List.replicate 3 (0:Int)) 0 (0:Int)) 1 (0:Int)) 2 (0:Int),List.set (List.set (List.set (List.replicate 3 (0:Int)) 0 (0:Int)) 1 (64:Int)) 2 (0:Int),List.set (List.set (List.set (List.replicate 3 (0:Int)) 0 (0:Int)) 1 (32:Int)) 2 (0:Int),List.set (List.set (List.set (List.replicate 3 (0:Int)) 0 (16:Int)) 1 (32:Int)) 2 (16:Int),List.set (List.set (List.set (List.replicate 3 (0:Int)) 0 (21:Int)) 1 (22:Int)) 2 (21:Int),List.set (List.set (List.set (List.replicate 3 (0:Int)) 0 (0:Int)) 1 (48:Int)) 2 (0:Int),List.set (List.set (List.set (List.replicate 3 (0:Int)) 0 (-8:Int)) 1 (64:Int)) 2 (-8:Int),List.set (List.set (List.set (List.replicate 3 (0:Int)) 0 (32:Int)) 1 (32:Int)) 2 (0:Int),List.set (List.set (List.set (List.replicate 3 (0:Int)) 0 (0:Int)) 1 (32:Int)) 2 (32:Int)]:List (List Int))
def S_long_Table:FSem:=⟨[],[.o (.arr 3 (.int .i64))],F_long_Table⟩
def H188:Hints:=⟨[],[],[]⟩
def F_long_Tune_l0 (st:((List Int)×(Int×(Int×(Bool×(Int×(Int×(Int×(Int×(Int×((List (List Int))×((List Int)×Z28)))))))))))):Option (((List Int)×(Int×(Int×(Bool×(Int×(Int×(Int×(Int×(Int×((List (List Int))×((List Int)×Z28))))))))))) ⊕ ((List Int)×(Int×(Int×(Bool×(Int×(Int×(Int×((List (List Int))×Z28))))))))):= bif decide (st.2.2.2.2.2.2.2.2.1<st.2.2.2.2.2.2.2.1) then (bif (decide ((0:Int)≤st.2.2.2.2.2.2.2.2.1))&&(decide (st.2.2.2.2.2.2.2.2.1<((List.length st.2.2.2.2.2.2.2.2.2.2.1:Nat):Int))) then some (.inl (st.1,(st.2.1,(st.2.2.1,(st.2.2.2.1,(IntKind.wrap .i64 (st.2.2.2.2.1+(imax (List.getD st.2.2.2.2.2.2.2.2.2.2.1 (Int.toNat st.2.2.2.2.2.2.2.2.1) (0:Int)) (IntKind.wrap .i64 (0-(List.getD st.2.2.2.2.2.2.2.2.2.2.1 (Int.toNat st.2.2.2.2.2.2.2.2.1) (0:Int)))))),(st.2.2.2.2.2.1,(st.2.2.2.2.2.2.1,(st.2.2.2.2.2.2.2.1,(IntKind.wrap .i64 (st.2.2.2.2.2.2.2.2.1+(1:Int)),(st.2.2.2.2.2.2.2.2.2.1,(st.2.2.2.2.2.2.2.2.2.2.1,(st.2.2.2.2.2.2.2.2.2.2.2.1,(st.2.2.2.2.2.2.2.2.2.2.2.2.1,(st.2.2.2.2.2.2.2.2.2.2.2.2.2.1,()))))))))))))))) else none) else some (.inr (st.1,(st.2.1,(st.2.2.1,(st.2.2.2.1,(st.2.2.2.2.1,(st.2.2.2.2.2.1,(st.2.2.2.2.2.2.1,(st.2.2.2.2.2.2.2.2.2.1,(st.2.2.2.2.2.2.2.2.2.2.2.1,(st.2.2.2.2.2.2.2.2.2.2.2.2.1,(st.2.2.2.2.2.2.2.2.2.2.2.2.2.1,()))))))))))))
def F_long_Tune_l1 (st:((List Int)×(Int×(Int×(Bool×(Int×(Int×((List (List Int))×Z10)))))))):Option (((List Int)×(Int×(Int×(Bool×(Int×(Int×((List (List Int))×Z10))))))) ⊕ (Bool×Z10)):= bif decide (st.2.2.2.2.2.1<st.2.2.2.2.1) then (bif (decide ((0:Int)≤st.2.2.2.2.2.1))&&(decide (st.2.2.2.2.2.1<((List.length st.2.2.2.2.2.2.1:Nat):Int))) then ((F_long_Rest (st.1,(st.2.1,List.getD st.2.2.2.2.2.2.1 (Int.toNat st.2.2.2.2.2.1) (List.replicate 3 (0:Int))))).bind fun y3=> bif y3.2 != (0:Int) then some (.inl (st.1,(st.2.1,(st.2.2.1,(st.2.2.2.1,(st.2.2.2.2.1,(IntKind.wrap .i64 (st.2.2.2.2.2.1+(1:Int)),(st.2.2.2.2.2.2.1,(st.2.2.2.2.2.2.2.1,(st.2.2.2.2.2.2.2.2.1,())))))))))) else ((iter F_long_Tune_l0 (st.1,(st.2.1,(st.2.2.1,(st.2.2.2.1,((0:Int),(st.2.2.2.2.1,(st.2.2.2.2.2.1,(((List.length y3.1:Nat):Int),((0:Int),(st.2.2.2.2.2.2.1,(y3.1,(st.2.2.2.2.2.2.2.1,(st.2.2.2.2.2.2.2.2.1,(List.getD st.2.2.2.2.2.2.1 (Int.toNat st.2.2.2.2.2.1) (List.replicate 3 (0:Int)),()))))))))))))))).bind fun w4=> (show Option ((List Int)×(Int×(Int×(Bool×(Int×(Int×(Int×(Bool×((List (List Int))×Z28))))))))) from bif !w4.2.2.2.1 then some (w4.1,(w4.2.1,(w4.2.2.1,(w4.2.2.2.1,(w4.2.2.2.2.1,(w4.2.2.2.2.2.1,(w4.2.2.2.2.2.2.1,(true,(w4.2.2.2.2.2.2.2.1,(w4.2.2.2.2.2.2.2.2.1,(w4.2.2.2.2.2.2.2.2.2.1,(w4.2.2.2.2.2.2.2.2.2.2.1,())))))))))))) else some (w4.1,(w4.2.1,(w4.2.2.1,(w4.2.2.2.1,(w4.2.2.2.2.1,(w4.2.2.2.2.2.1,(w4.2.2.2.2.2.2.1,(decide (w4.2.2.2.2.1<w4.2.2.1),(w4.2.2.2.2.2.2.2.1,(w4.2.2.2.2.2.2.2.2.1,(w4.2.2.2.2.2.2.2.2.2.1,(w4.2.2.2.2.2.2.2.2.2.2.1,()))))))))))))).bind fun z5=> bif z5.2.2.2.2.2.2.2.1 then some (.inl (z5.1,(z5.2.1,(z5.2.2.2.2.1,(true,(z5.2.2.2.2.2.1,(IntKind.wrap .i64 (z5.2.2.2.2.2.2.1+(1:Int)),(z5.2.2.2.2.2.2.2.2.1,(z5.2.2.2.2.2.2.2.2.2.1,(z5.2.2.2.2.2.2.2.2.2.2.2.1,())))))))))) else some (.inl (z5.1,(z5.2.1,(z5.2.2.1,(z5.2.2.2.1,(z5.2.2.2.2.2.1,(IntKind.wrap .i64 (z5.2.2.2.2.2.2.1+(1:Int)),(z5.2.2.2.2.2.2.2.2.1,(z5.2.2.2.2.2.2.2.2.2.1,(z5.2.2.2.2.2.2.2.2.2.2.1,())))))))))))) else none) else some (.inr (st.2.2.2.1,(st.2.2.2.2.2.2.2.1,(st.2.2.2.2.2.2.2.2.1,()))))
def F_long_Tune (x:((List Int)×Int)):Option ((List Int)×Int):= (show Option ((List Int)×(Int×Z6)) from bif decide (x.2<(2:Int)) then some (x.1,(x.2,(true,(List.replicate 3 (0:Int),())))) else some (x.1,(x.2,(decide (x.2 > (1024:Int)),(List.replicate 3 (0:Int),()))))).bind fun z1=> bif z1.2.2.1 then some (List.replicate 3 (0:Int),(1:Int)) else ((F_long_Table ()).bind fun y2=> (iter F_long_Tune_l1 (z1.1,(z1.2.1,((0:Int),(false,(((List.length y2:Nat):Int),((0:Int),(y2,(z1.2.2.2.1,(List.replicate 3 (0:Int),())))))))))).bind fun w6=> bif !w6.1 then some (List.replicate 3 (0:Int),(6:Int)) else some (w6.2.2.1,(0:Int)))
def S_long_Tune:FSem:=⟨[.v (.list false (.int .i64)),.v (.int .i64)],[.v (.arr 3 (.int .i64)),.v (.int .i64)],F_long_Tune⟩
def H154:Hints:=⟨[(122,[.sv 0 (.list false (.int .i64)),.sv 1 (.int .i64),.sv 7 (.int .i64),.sv 8 .bool,.sv 25 (.int .i64),.sv 26 (.int .i64),.own 24 1024 (.arr 3 (.int .i64)),.box 4 (.arr 3 (.int .i64)),.box 6 (.arr 3 (.int .i64)),.ptr 4 4 [],.ptr 6 6 []],[(.exit 0,[.sv 8 .bool,.box 4 (.arr 3 (.int .i64)),.box 6 (.arr 3 (.int .i64)),.ptr 4 4 [],.ptr 6 6 []])]),(501370,[.sv 0 (.list false (.int .i64)),.sv 1 (.int .i64),.sv 7 (.int .i64),.sv 8 .bool,.sv 13 (.int .i64),.sv 25 (.int .i64),.sv 26 (.int .i64),.sv 40 (.int .i64),.sv 41 (.int .i64),.own 24 1024 (.arr 3 (.int .i64)),.own 39 11 (.int .i64),.box 4 (.arr 3 (.int .i64)),.box 6 (.arr 3 (.int .i64)),.box 10 (.arr 3 (.int .i64)),.ptr 4 4 [],.ptr 6 6 [],.ptr 10 10 []],[(.exit 2,[.sv 0 (.list false (.int .i64)),.sv 1 (.int .i64),.sv 7 (.int .i64),.sv 8 .bool,.sv 13 (.int .i64),.sv 25 (.int .i64),.sv 26 (.int .i64),.own 24 1024 (.arr 3 (.int .i64)),.box 4 (.arr 3 (.int .i64)),.box 6 (.arr 3 (.int .i64)),.box 10 (.arr 3 (.int .i64)),.ptr 4 4 [],.ptr 6 6 [],.ptr 10 10 []])])],[(6,[(.normal,[.sv 0 (.list false (.int .i64)),.sv 1 (.int .i64),.sv 21 .bool,.box 4 (.arr 3 (.int .i64)),.ptr 4 4 []])]),(125343,[(.normal,[.sv 0 (.list false (.int .i64)),.sv 1 (.int .i64),.sv 7 (.int .i64),.sv 8 .bool,.sv 13 (.int .i64),.sv 25 (.int .i64),.sv 26 (.int .i64),.sv 58 .bool,.own 24 1024 (.arr 3 (.int .i64)),.box 4 (.arr 3 (.int .i64)),.box 6 (.arr 3 (.int .i64)),.box 10 (.arr 3 (.int .i64)),.ptr 4 4 [],.ptr 6 6 [],.ptr 10 10 []])])],[]⟩
def F_sub_lagged (x:(List Int)):Option (Z78×Bool):= (F_long_Find (x,((16:Int),(256:Int)))).bind fun y1=> bif y1.2 != (0:Int) then some (((0:Int),((0:Int),((0:Int),((0:Int),((0:Int),(([]:(List Int)),(List.replicate 3 (0:Int),(([]:Z4),(([]:(List Int)),(((0:Int),(([]:(List Int)),())),(([]:(List Int)),()))))))))))),false) else ((F_long_Tune (x,y1.1)).bind fun y2=> bif y2.2 != (0:Int) then some (((0:Int),((0:Int),((0:Int),((0:Int),((0:Int),(([]:(List Int)),(List.replicate 3 (0:Int),(([]:Z4),(([]:(List Int)),(((0:Int),(([]:(List Int)),())),(([]:(List Int)),()))))))))))),false) else ((F_long_Rest (x,(y1.1,y2.1))).bind fun y3=> bif y3.2 != (0:Int) then some (((0:Int),((0:Int),((0:Int),((0:Int),((0:Int),(([]:(List Int)),(List.replicate 3 (0:Int),(([]:Z4),(([]:(List Int)),(((0:Int),(([]:(List Int)),())),(([]:(List Int)),()))))))))))),false) else ((F_linear_Find (y3.1,((4:Int),(12:Int)))).bind fun y4=> bif y4.2.2 != (0:Int) then some (((0:Int),((0:Int),((0:Int),((0:Int),((0:Int),(([]:(List Int)),(List.replicate 3 (0:Int),(([]:Z4),(([]:(List Int)),(((0:Int),(([]:(List Int)),())),(([]:(List Int)),()))))))))))),false) else some (((4:Int),((0:Int),((0:Int),(y4.2.1,(y1.1,(y4.1,(y2.1,(([]:Z4),(([]:(List Int)),(((0:Int),(([]:(List Int)),())),(([]:(List Int)),()))))))))))),true))))
def S_sub_lagged:FSem:=⟨[.v (.list false (.int .i64))],[.v Q28,.v .bool],F_sub_lagged⟩
def H98:Hints:=⟨[],[],[]⟩
def F_sub_candidates_1 (x:(Int×(Int×((List Int)×Z79)))):Option ((List Int)×Z79):= (F_linear_Find (x.2.2.1,(x.1,x.2.1))).bind fun y1=> bif y1.2.2==(0:Int) then (bif lim ((List.length x.2.2.2)+1) then some (x.2.2.1,List.append x.2.2.2 ([((3:Int),((0:Int),((0:Int),(y1.2.1,((0:Int),(y1.1,(List.replicate 3 (0:Int),(([]:Z4),(([]:(List Int)),(((0:Int),(([]:(List Int)),())),(([]:(List Int)),())))))))))))]:List Z78)) else none) else some (x.2.2.1,x.2.2.2)
def S_sub_candidates_1:FSem:=⟨[.v (.int .i64),.v (.int .i64),.r (.list false (.int .i64)),.r (.list true Q28)],[],F_sub_candidates_1⟩
def H96:Hints:=⟨[],[],[]⟩
def F_sub_candidates_l0 (st:(Int×Z84)):Option ((Int×Z84) ⊕ Z84):= bif decide (st.1<(5:Int)) then (bif lim ((List.length st.2.1)+1) then some (.inl (IntKind.wrap .i64 (st.1+(1:Int)),(List.append st.2.1 ([((2:Int),((0:Int),(st.1,((0:Int),((0:Int),(([]:(List Int)),(List.replicate 3 (0:Int),(([]:Z4),(([]:(List Int)),(((0:Int),(([]:(List Int)),())),(([]:(List Int)),())))))))))))]:List Z78),(st.2.2.1,())))) else none) else some (.inr (st.2.1,(st.2.2.1,())))
def F_sub_candidates (x:((List Int)×Int)):Option Z79:= (F_fixed_Best x.1).bind fun y1=> (show Option (Int×((List Int)×(Z79×Unit))) from bif decide (x.2≥(1:Int)) then ((F_sub_candidates_1 ((4:Int),((12:Int),(x.1,([((0:Int),((0:Int),((0:Int),((0:Int),((0:Int),(([]:(List Int)),(List.replicate 3 (0:Int),(([]:Z4),(([]:(List Int)),(((0:Int),(([]:(List Int)),())),(([]:(List Int)),()))))))))))),((1:Int),((0:Int),((0:Int),((0:Int),((0:Int),(([]:(List Int)),(List.replicate 3 (0:Int),(([]:Z4),(([]:(List Int)),(((0:Int),(([]:(List Int)),())),(([]:(List Int)),()))))))))))),((2:Int),((0:Int),(y1,((0:Int),((0:Int),(([]:(List Int)),(List.replicate 3 (0:Int),(([]:Z4),(([]:(List Int)),(((0:Int),(([]:(List Int)),())),(([]:(List Int)),())))))))))))]:List Z78))))).bind fun y2=> (F_sub_candidates_1 ((8:Int),((12:Int),(y2.1,y2.2)))).bind fun y3=> some (x.2,(y3.1,(y3.2,())))) else some (x.2,(x.1,(([((0:Int),((0:Int),((0:Int),((0:Int),((0:Int),(([]:(List Int)),(List.replicate 3 (0:Int),(([]:Z4),(([]:(List Int)),(((0:Int),(([]:(List Int)),())),(([]:(List Int)),()))))))))))),((1:Int),((0:Int),((0:Int),((0:Int),((0:Int),(([]:(List Int)),(List.replicate 3 (0:Int),(([]:Z4),(([]:(List Int)),(((0:Int),(([]:(List Int)),())),(([]:(List Int)),()))))))))))),((2:Int),((0:Int),(y1,((0:Int),((0:Int),(([]:(List Int)),(List.replicate 3 (0:Int),(([]:Z4),(([]:(List Int)),(((0:Int),(([]:(List Int)),())),(([]:(List Int)),())))))))))))]:List Z78),())))).bind fun z4=> (show Option (Int×Z84) from bif decide (z4.1≥(2:Int)) then (bif lim ((List.length z4.2.2.1)+1) then (bif lim ((List.length (List.append z4.2.2.1 ([((5:Int),((0:Int),((0:Int),((0:Int),((0:Int),(([]:(List Int)),(List.replicate 3 (0:Int),(([((16:Int),((4:Int),()))]:List (Int×(Int×Unit))),(([]:(List Int)),(((0:Int),(([]:(List Int)),())),(([]:(List Int)),())))))))))))]:List Z78)))+1) then ((F_sub_lagged z4.2.1).bind fun y5=> bif y5.2 then (bif lim ((List.length (List.append (List.append z4.2.2.1 ([((5:Int),((0:Int),((0:Int),((0:Int),((0:Int),(([]:(List Int)),(List.replicate 3 (0:Int),(([((16:Int),((4:Int),()))]:List (Int×(Int×Unit))),(([]:(List Int)),(((0:Int),(([]:(List Int)),())),(([]:(List Int)),())))))))))))]:List Z78)) ([((5:Int),((0:Int),((0:Int),((0:Int),((0:Int),(([]:(List Int)),(List.replicate 3 (0:Int),(([((32:Int),((3:Int),())),((16:Int),((5:Int),()))]:List (Int×(Int×Unit))),(([]:(List Int)),(((0:Int),(([]:(List Int)),())),(([]:(List Int)),())))))))))))]:List Z78)))+1) then some (z4.1,(List.append (List.append (List.append z4.2.2.1 ([((5:Int),((0:Int),((0:Int),((0:Int),((0:Int),(([]:(List Int)),(List.replicate 3 (0:Int),(([((16:Int),((4:Int),()))]:List (Int×(Int×Unit))),(([]:(List Int)),(((0:Int),(([]:(List Int)),())),(([]:(List Int)),())))))))))))]:List Z78)) ([((5:Int),((0:Int),((0:Int),((0:Int),((0:Int),(([]:(List Int)),(List.replicate 3 (0:Int),(([((32:Int),((3:Int),())),((16:Int),((5:Int),()))]:List (Int×(Int×Unit))),(([]:(List Int)),(((0:Int),(([]:(List Int)),())),(([]:(List Int)),())))))))))))]:List Z78)) ([y5.1]:List Z78),(z4.2.1,()))) else none) else some (z4.1,(List.append (List.append z4.2.2.1 ([((5:Int),((0:Int),((0:Int),((0:Int),((0:Int),(([]:(List Int)),(List.replicate 3 (0:Int),(([((16:Int),((4:Int),()))]:List (Int×(Int×Unit))),(([]:(List Int)),(((0:Int),(([]:(List Int)),())),(([]:(List Int)),())))))))))))]:List Z78)) ([((5:Int),((0:Int),((0:Int),((0:Int),((0:Int),(([]:(List Int)),(List.replicate 3 (0:Int),(([((32:Int),((3:Int),())),((16:Int),((5:Int),()))]:List (Int×(Int×Unit))),(([]:(List Int)),(((0:Int),(([]:(List Int)),())),(([]:(List Int)),())))))))))))]:List Z78),(z4.2.1,())))) else none) else none) else some (z4.1,(z4.2.2.1,(z4.2.1,())))).bind fun z6=> (show Option (Z79×Unit) from bif decide (z6.1≥(3:Int)) then ((iter F_sub_candidates_l0 ((0:Int),(z6.2.1,(z6.2.2.1,())))).bind fun w7=> (F_sub_candidates_1 ((1:Int),((12:Int),(w7.2.1,w7.1)))).bind fun y8=> (F_sub_candidates_1 ((2:Int),((12:Int),(y8.1,y8.2)))).bind fun y9=> (F_sub_candidates_1 ((12:Int),((14:Int),(y9.1,y9.2)))).bind fun y10=> (F_sub_candidates_1 ((16:Int),((14:Int),(y10.1,y10.2)))).bind fun y11=> some (y11.2,())) else some (z6.2.1,())).bind fun z12=> some z12.1
def S_sub_candidates:FSem:=⟨[.v (.list false (.int .i64)),.v (.int .i64)],[.v (.list false Q28)],F_sub_candidates⟩
def H47:Hints:=⟨[(4050,[.sv 50 (.int .i64),.box 5 (.list true Q28),.box 2 (.list false (.int .i64)),.ptr 5 5 [],.clo 6 96 [2,5]],[(.exit 0,[.box 5 (.list true Q28),.box 2 (.list false (.int .i64)),.ptr 5 5 [],.clo 6 96 [2,5]])])],[(15,[(.normal,[.sv 1 (.int .i64),.box 2 (.list false (.int .i64)),.box 5 (.list true Q28),.ptr 2 2 [],.ptr 5 5 [],.clo 6 96 [2,5]])]),(31,[(.normal,[.sv 1 (.int .i64),.box 5 (.list true Q28),.box 2 (.list false (.int .i64)),.ptr 5 5 [],.clo 6 96 [2,5]])]),(63,[(.normal,[.box 5 (.list true Q28),.ptr 5 5 []])])],[]⟩
def F_sub_Best_l0 (st:((List Int)×(Int×(Bool×(Z79×Z94))))):Option (((List Int)×(Int×(Bool×(Z79×Z94)))) ⊕ Z92):= bif decide (st.2.2.2.2.2.1<st.2.2.2.2.1) then ((gidx st.2.2.2.1 st.2.2.2.2.2.1).bind fun x6=> (F_sub_Make (x6.1,(st.1,x6))).bind fun y7=> bif y7.2 != (0:Int) then some (.inl (st.1,(st.2.1,(st.2.2.1,(st.2.2.2.1,(st.2.2.2.2.1,(IntKind.wrap .i64 (st.2.2.2.2.2.1+(1:Int)),(st.2.2.2.2.2.2.1,(st.2.2.2.2.2.2.2.1,()))))))))) else ((F_sub_Cost (y7.1,((List.length st.1:Nat):Int))).bind fun y8=> (show Option ((List Int)×(Int×(Bool×(Int×(Z79×(Int×(Int×(Bool×(Z78×Z92))))))))) from bif !st.2.2.1 then some (st.1,(st.2.1,(st.2.2.1,(y8,(st.2.2.2.1,(st.2.2.2.2.1,(st.2.2.2.2.2.1,(true,(st.2.2.2.2.2.2.1,(st.2.2.2.2.2.2.2.1,(y7.1,()))))))))))) else some (st.1,(st.2.1,(st.2.2.1,(y8,(st.2.2.2.1,(st.2.2.2.2.1,(st.2.2.2.2.2.1,(decide (y8<st.2.1),(st.2.2.2.2.2.2.1,(st.2.2.2.2.2.2.2.1,(y7.1,())))))))))))).bind fun z9=> bif z9.2.2.2.2.2.2.2.1 then some (.inl (z9.1,(z9.2.2.2.1,(true,(z9.2.2.2.2.1,(z9.2.2.2.2.2.1,(IntKind.wrap .i64 (z9.2.2.2.2.2.2.1+(1:Int)),(z9.2.2.2.2.2.2.2.2.1,(z9.2.2.2.2.2.2.2.2.2.2.1,()))))))))) else some (.inl (z9.1,(z9.2.1,(z9.2.2.1,(z9.2.2.2.2.1,(z9.2.2.2.2.2.1,(IntKind.wrap .i64 (z9.2.2.2.2.2.2.1+(1:Int)),(z9.2.2.2.2.2.2.2.2.1,(z9.2.2.2.2.2.2.2.2.2.1,()))))))))))) else some (.inr (st.2.2.2.2.2.2.1,(st.2.2.2.2.2.2.2.1,())))
def F_sub_Best (x:((List Int)×Int)):Option Z80:= (show Option ((List Int)×Z83) from bif decide (((List.length x.1:Nat):Int)<(1:Int)) then some (x.1,(x.2,(true,(((0:Int),((0:Int),((0:Int),((0:Int),((0:Int),(([]:(List Int)),(List.replicate 3 (0:Int),(([]:Z4),(([]:(List Int)),(((0:Int),(([]:(List Int)),())),(([]:(List Int)),()))))))))))),())))) else (bif decide (((List.length x.1:Nat):Int) > (4096:Int)) then some (x.1,(x.2,(true,(((0:Int),((0:Int),((0:Int),((0:Int),((0:Int),(([]:(List Int)),(List.replicate 3 (0:Int),(([]:Z4),(([]:(List Int)),(((0:Int),(([]:(List Int)),())),(([]:(List Int)),()))))))))))),())))) else (bif decide (x.2<(0:Int)) then some (x.1,(x.2,(true,(((0:Int),((0:Int),((0:Int),((0:Int),((0:Int),(([]:(List Int)),(List.replicate 3 (0:Int),(([]:Z4),(([]:(List Int)),(((0:Int),(([]:(List Int)),())),(([]:(List Int)),()))))))))))),())))) else some (x.1,(x.2,(decide (x.2 > (3:Int)),(((0:Int),((0:Int),((0:Int),((0:Int),((0:Int),(([]:(List Int)),(List.replicate 3 (0:Int),(([]:Z4),(([]:(List Int)),(((0:Int),(([]:(List Int)),())),(([]:(List Int)),()))))))))))),()))))))).bind fun z1=> bif z1.2.2.1 then some (((0:Int),((0:Int),((0:Int),((0:Int),((0:Int),(([]:(List Int)),(List.replicate 3 (0:Int),(([]:Z4),(([]:(List Int)),(((0:Int),(([]:(List Int)),())),(([]:(List Int)),()))))))))))),(1:Int)) else ((F_sub_allWide z1.1).bind fun y2=> bif !y2 then some (((0:Int),((0:Int),((0:Int),((0:Int),((0:Int),(([]:(List Int)),(List.replicate 3 (0:Int),(([]:Z4),(([]:(List Int)),(((0:Int),(([]:(List Int)),())),(([]:(List Int)),()))))))))))),(6:Int)) else ((F_sample_Wasted z1.1).bind fun y3=> (F_sample_Down (z1.1,y3)).bind fun y4=> bif y4.2 != (0:Int) then some (((0:Int),((0:Int),((0:Int),((0:Int),((0:Int),(([]:(List Int)),(List.replicate 3 (0:Int),(([]:Z4),(([]:(List Int)),(((0:Int),(([]:(List Int)),())),(([]:(List Int)),()))))))))))),y4.2) else ((F_sub_candidates (y4.1,z1.2.1)).bind fun y5=> (iter F_sub_Best_l0 (z1.1,((0:Int),(false,(y5,(((List.length y5:Nat):Int),((0:Int),(z1.2.2.2.1,(((0:Int),((0:Int),((0:Int),((0:Int),((0:Int),(([]:(List Int)),(List.replicate 3 (0:Int),(([]:Z4),(([]:(List Int)),(((0:Int),(([]:(List Int)),())),(([]:(List Int)),()))))))))))),()))))))))).bind fun w10=> some (w10.2.1,(0:Int)))))
def S_sub_Best:FSem:=⟨[.v (.list false (.int .i64)),.v (.int .i64)],[.v Q28,.v (.int .i64)],F_sub_Best⟩
def H18:Hints:=⟨[(2042,[.sv 0 (.list false (.int .i64)),.sv 9 (.int .i64),.sv 10 .bool,.sv 50 (.list false Q28),.sv 51 (.int .i64),.sv 52 (.int .i64),.box 4 Q28,.box 8 Q28,.ptr 4 4 [],.ptr 8 8 []],[(.exit 0,[.box 4 Q28,.box 8 Q28,.ptr 4 4 [],.ptr 8 8 []])])],[(6,[(.normal,[.sv 0 (.list false (.int .i64)),.sv 1 (.int .i64),.sv 31 .bool,.box 4 Q28,.ptr 4 4 []])]),(1045711,[(.normal,[.sv 0 (.list false (.int .i64)),.sv 9 (.int .i64),.sv 10 .bool,.sv 15 (.int .i64),.sv 50 (.list false Q28),.sv 51 (.int .i64),.sv 52 (.int .i64),.sv 76 .bool,.box 4 Q28,.box 8 Q28,.box 13 Q28,.ptr 4 4 [],.ptr 8 8 [],.ptr 13 13 []])])],[]⟩
def F_l15_known (x:Unit):Option Bool:= (F_sub_Make ((2:Int),(([(4:Int),(8:Int),(12:Int),(16:Int)]:List Int),((0:Int),((0:Int),((1:Int),((0:Int),((0:Int),(([]:(List Int)),(List.replicate 3 (0:Int),(([]:Z4),(([]:(List Int)),(((0:Int),(([]:(List Int)),())),(([]:(List Int)),())))))))))))))).bind fun y1=> (F_sub_Row (y1.1,(4:Int))).bind fun y2=> (F_sub_Best (([(6:Int),(6:Int),(6:Int)]:List Int),(0:Int))).bind fun y3=> bif y1.2==(0:Int) then (bif y2.2==(0:Int) then (bif y3.2==(0:Int) then (bif y1.1.2.1==(2:Int) then ((F_r2_SameInts (y1.1.2.2.2.2.2.2.2.2.1,([(1:Int)]:List Int))).bind fun y4=> bif y4 then ((F_r2_SameInts (y1.1.2.2.2.2.2.2.2.2.2.2.1,([(1:Int),(1:Int),(1:Int)]:List Int))).bind fun y5=> bif y5 then ((F_r2_SameInts (y2.1,([(4:Int),(8:Int),(12:Int),(16:Int)]:List Int))).bind fun y6=> bif y6 then (bif y3.1.1==(0:Int) then ((F_r2_SameInts (y3.1.2.2.2.2.2.2.2.2.1,([(6:Int)]:List Int))).bind fun y7=> bif y7 then ((F_sub_Cost (y3.1,(3:Int))).bind fun y8=> some (y8==(17:Int))) else some false) else some false) else some false) else some false) else some false) else some false) else some false) else some false) else some false
def S_l15_known:FSem:=⟨[],[.v .bool],F_l15_known⟩
def H10:Hints:=⟨[],[],[]⟩
def F_l15_Small (x:Z80):Option Bool:= bif decide (((List.length x.1.2.2.2.2.2.1:Nat):Int)≤(40:Int)) then (bif decide (((List.length x.1.2.2.2.2.2.2.2.1:Nat):Int)≤(6:Int)) then (bif decide (((List.length x.1.2.2.2.2.2.2.2.2.1:Nat):Int)≤x.2) then (bif decide (((List.length x.1.2.2.2.2.2.2.2.2.2.2.1:Nat):Int)≤x.2) then some (decide (((List.length x.1.2.2.2.2.2.2.2.2.2.1.2.1:Nat):Int)≤(300:Int))) else some false) else some false) else some false) else some false
def S_l15_Small:FSem:=⟨[.v Q28,.v (.int .i64)],[.v .bool],F_l15_Small⟩
def H11:Hints:=⟨[],[],[]⟩
def F_r14_SameStages_l0 (st:(Z4×(Z4×(Int×Unit)))):Option ((Z4×(Z4×(Int×Unit))) ⊕ Z0):= bif decide (st.2.2.1<((List.length st.1:Nat):Int)) then ((gidx st.1 st.2.2.1).bind fun x1=> (gidx st.2.1 st.2.2.1).bind fun x2=> bif !(eqT Q3 x1 x2) then some (.inr (Sum.inr ((false,())))) else some (.inl (st.1,(st.2.1,(IntKind.wrap .i64 (st.2.2.1+(1:Int)),()))))) else some (.inr (Sum.inl ()))
def F_r14_SameStages (x:(Z4×Z4)):Option Bool:= bif ((List.length x.1:Nat):Int) != ((List.length x.2:Nat):Int) then some false else ((iter F_r14_SameStages_l0 (x.1,(x.2,((0:Int),())))).bind fun w3=> match w3 with |.inl a4=>some true |.inr b5=>some b5.1)
def S_r14_SameStages:FSem:=⟨[.v (.list false Q3),.v (.list false Q3)],[.v .bool],F_r14_SameStages⟩
def H52:Hints:=⟨[(58,[.sv 0 (.list false Q3),.sv 1 (.list false Q3),.sv 5 (.int .i64)],[(.exit 0,[]),(.ret,[.sv 4 .bool])])],[],[(6,[.v,.v,.v,.v,.v,.v,.v,.v,.x])]⟩
def F_r8_SameParts (x:(Z5×Z5)):Option Bool:= bif x.1.1==x.2.1 then ((F_r2_SameInts (x.1.2.1,x.2.2.1)).bind fun y1=> some y1) else some false
def S_r8_SameParts:FSem:=⟨[.v Q6,.v Q6],[.v .bool],F_r8_SameParts⟩
def H53:Hints:=⟨[],[],[]⟩
def F_r19_SameSub (x:(Z78×Z78)):Option Bool:= bif x.1.1==x.2.1 then (bif x.1.2.1==x.2.2.1 then (bif x.1.2.2.1==x.2.2.2.1 then (bif x.1.2.2.2.1==x.2.2.2.2.1 then (bif x.1.2.2.2.2.1==x.2.2.2.2.2.1 then ((F_r2_SameInts (x.1.2.2.2.2.2.1,x.2.2.2.2.2.2.1)).bind fun y1=> bif y1 then (bif eqT (.arr 3 (.int .i64)) x.1.2.2.2.2.2.2.1 x.2.2.2.2.2.2.2.1 then ((F_r14_SameStages (x.1.2.2.2.2.2.2.2.1,x.2.2.2.2.2.2.2.2.1)).bind fun y2=> bif y2 then ((F_r2_SameInts (x.1.2.2.2.2.2.2.2.2.1,x.2.2.2.2.2.2.2.2.2.1)).bind fun y3=> bif y3 then ((F_r8_SameParts (x.1.2.2.2.2.2.2.2.2.2.1,x.2.2.2.2.2.2.2.2.2.2.1)).bind fun y4=> bif y4 then ((F_r2_SameInts (x.1.2.2.2.2.2.2.2.2.2.2.1,x.2.2.2.2.2.2.2.2.2.2.2.1)).bind fun y5=> some y5) else some false) else some false) else some false) else some false) else some false) else some false) else some false) else some false) else some false) else some false
def S_r19_SameSub:FSem:=⟨[.v Q28,.v Q28],[.v .bool],F_r19_SameSub⟩
def H20:Hints:=⟨[],[],[]⟩
def F_bits_Writer_Bytes (x:Z3):Option ((List Int)×Z3):= bif lim (List.length x.1) then some (x.1,x) else none
def S_bits_Writer_Bytes:FSem:=⟨[.r Q4],[.o (.int .u8)],F_bits_Writer_Bytes⟩
def H30:Hints:=⟨[],[],[]⟩
def F_bits_New (x:(List Int)):Option Z11:= bif lim (List.length x) then some (x,((0:Int),((0:Int),()))) else none
def S_bits_New:FSem:=⟨[.v (.list false (.int .u8))],[.b Q8],F_bits_New⟩
def H33:Hints:=⟨[],[],[]⟩
def F_bits_Reader_Err (x:Z11):Option Z21:= some (x.2.2.1,x)
def S_bits_Reader_Err:FSem:=⟨[.r Q8],[.v (.int .i64)],F_bits_Reader_Err⟩
def H70:Hints:=⟨[],[],[]⟩
def F_bits_Reader_Left (x:Z11):Option Z21:= some (IntKind.wrap .i64 ((IntKind.wrap .i64 ((8:Int)*((List.length x.1:Nat):Int)))-x.2.1),x)
def S_bits_Reader_Left:FSem:=⟨[.r Q8],[.v (.int .i64)],F_bits_Reader_Left⟩
def H75:Hints:=⟨[],[],[(1,[.p,.p,.q,.q,.v,.v,.p,.p,.q,.q,.x,.x])]⟩
def F_bits_Reader_look (x:Z23):Option Z21:= (gidx x.1.1 (IntKind.wrap .i64 (Int.tdiv x.2 (8:Int)))).bind fun x1=> bif decide ((IntKind.wrap .i64 ((7:Int)-(Int.tmod x.2 (8:Int))))<0) then none else some (bits .u8 .and (gshr .u8 x1 (IntKind.wrap .i64 ((7:Int)-(Int.tmod x.2 (8:Int))))) (1:Int),x.1)
def S_bits_Reader_look:FSem:=⟨[.r Q8,.v (.int .i64)],[.v (.int .u8)],F_bits_Reader_look⟩
def H76:Hints:=⟨[],[],[]⟩
def F_bits_Reader_Get_l0 (st:Z59):Option (Z59 ⊕ Z38):= bif decide (st.2.2.1<st.2.1) then ((F_bits_Reader_look (st.2.2.2.1,st.2.2.2.1.2.1)).bind fun y3=> some (.inl (bits .u64 .or (gshl .u64 st.1 (1:Int)) (IntKind.wrap .u64 y3.1),(st.2.1,(IntKind.wrap .i64 (st.2.2.1+(1:Int)),((y3.2.1,(IntKind.wrap .i64 (y3.2.2.1+(1:Int)),y3.2.2.2)),())))))) else some (.inr (st.1,(st.2.2.2.1,())))
def F_bits_Reader_Get (x:Z23):Option Z21:= bif x.1.2.2.1 != (0:Int) then some ((0:Int),x.1) else ((show Option Z46 from bif decide (x.2<(0:Int)) then some (x.2,(true,(x.1,()))) else some (x.2,(decide (x.2 > (64:Int)),(x.1,())))).bind fun z1=> bif z1.2.1 then some ((0:Int),(z1.2.2.1.1,(z1.2.2.1.2.1,((1:Int),z1.2.2.1.2.2.2)))) else ((F_bits_Reader_Left z1.2.2.1).bind fun y2=> bif decide (z1.1 > y2.1) then some ((0:Int),(y2.2.1,(y2.2.2.1,((3:Int),y2.2.2.2.2)))) else ((iter F_bits_Reader_Get_l0 ((0:Int),(z1.1,((0:Int),(y2.2,()))))).bind fun w4=> some (w4.1,w4.2.1))))
def S_bits_Reader_Get:FSem:=⟨[.r Q8,.v (.int .i64)],[.v (.int .u64)],F_bits_Reader_Get⟩
def H35:Hints:=⟨[(506,[.sv 5 (.int .u64),.sv 27 (.int .i64),.sv 28 (.int .i64),.box 1000000 Q8,.ptr 0 1000000 []],[(.exit 0,[.sv 5 (.int .u64),.box 1000000 Q8])])],[(14,[(.normal,[.sv 1 (.int .i64),.sv 16 .bool,.box 1000000 Q8,.ptr 0 1000000 []])])],[]⟩
def F_bits_Reader_Signed (x:Z23):Option Z21:= (F_bits_Reader_Get (x.1,x.2)).bind fun y1=> (show Option (Int×Z46) from bif y1.2.2.2.1 != (0:Int) then some (x.2,(y1.1,(true,(y1.2,())))) else some (x.2,(y1.1,(x.2==(0:Int),(y1.2,()))))).bind fun z2=> bif z2.2.2.1 then some ((0:Int),z2.2.2.2.1) else (bif decide ((IntKind.wrap .i64 ((64:Int)-z2.1))<0) then none else (bif decide ((IntKind.wrap .i64 ((64:Int)-z2.1))<0) then none else some (gshr .i64 (IntKind.wrap .i64 (gshl .u64 z2.2.1 (IntKind.wrap .i64 ((64:Int)-z2.1)))) (IntKind.wrap .i64 ((64:Int)-z2.1)),z2.2.2.2.1)))
def S_bits_Reader_Signed:FSem:=⟨[.r Q8,.v (.int .i64)],[.v (.int .i64)],F_bits_Reader_Signed⟩
def H73:Hints:=⟨[],[(14,[(.normal,[.sv 1 (.int .i64),.sv 5 (.int .u64),.sv 17 .bool,.box 1000000 Q8])])],[]⟩
def F_sub_getCoefs_l0 (st:(Int×Z91)):Option ((Int×Z91) ⊕ (Int×Z88)):= bif decide (st.2.2.1<st.2.1) then ((F_bits_Reader_Signed (st.2.2.2.1,st.1)).bind fun y4=> bif lim ((List.length st.2.2.2.2.1.2.2.2.2.2.1)+1) then some (.inl (st.1,(st.2.1,(IntKind.wrap .i64 (st.2.2.1+(1:Int)),(y4.2,((st.2.2.2.2.1.1,(st.2.2.2.2.1.2.1,(st.2.2.2.2.1.2.2.1,(st.2.2.2.2.1.2.2.2.1,(st.2.2.2.2.1.2.2.2.2.1,(List.append st.2.2.2.2.1.2.2.2.2.2.1 ([y4.1]:List Int),st.2.2.2.2.1.2.2.2.2.2.2)))))),())))))) else none) else some (.inr (st.1,(st.2.2.2.2.1,(st.2.2.2.1,()))))
def F_sub_getCoefs (x:(Z11×Z78)):Option (Bool×(Z11×Z78)):= (F_bits_Reader_Get (x.1,(5:Int))).bind fun y1=> (F_bits_Reader_Get (y1.2,(4:Int))).bind fun y2=> (F_bits_Reader_Get (y2.2,(5:Int))).bind fun y3=> (iter F_sub_getCoefs_l0 (IntKind.wrap .i64 y3.1,(IntKind.wrap .i64 ((IntKind.wrap .i64 y1.1)+(1:Int)),((0:Int),(y3.2,((x.2.1,(x.2.2.1,(x.2.2.2.1,(IntKind.wrap .i64 y2.1,x.2.2.2.2.2)))),())))))).bind fun w5=> (F_sample_Width w5.2.1.2.2.2.2.2.1).bind fun y6=> some (y6==w5.1,(w5.2.2.1,w5.2.1))
def S_sub_getCoefs:FSem:=⟨[.r Q8,.r Q27],[.v .bool],F_sub_getCoefs⟩
def H124:Hints:=⟨[(250,[.sv 6 (.int .i64),.sv 20 (.int .i64),.sv 21 (.int .i64),.box 1000000 Q8,.box 1000001 Q27,.ptr 0 1000000 [],.ptr 1 1000001 []],[(.exit 0,[.sv 6 (.int .i64),.box 1000001 Q27,.box 1000000 Q8,.ptr 1 1000001 []])])],[],[(6,[.p,.p,.p,.r [26,1000001],.r [27,1000001],.p,.v,.w [30,1030,1000000],.q,.a [31,32,1000001],.x,.x,.x])]⟩
def F_sub_getHead_l0 (st:Z91):Option (Z91 ⊕ Z90):= bif decide (st.2.1<(3:Int)) then ((F_bits_Reader_Signed (st.2.2.1,(8:Int))).bind fun y6=> bif (decide ((0:Int)≤st.2.1))&&(decide (st.2.1<(3:Int))) then some (.inl (st.1,(IntKind.wrap .i64 (st.2.1+(1:Int)),(y6.2,((st.2.2.2.1.1,(st.2.2.2.1.2.1,(st.2.2.2.1.2.2.1,(st.2.2.2.1.2.2.2.1,(st.2.2.2.1.2.2.2.2.1,(st.2.2.2.1.2.2.2.2.2.1,(List.set st.2.2.2.1.2.2.2.2.2.2.1 (Int.toNat st.2.1) y6.1,st.2.2.2.1.2.2.2.2.2.2.2))))))),()))))) else none) else some (.inr (st.1,(st.2.2.1,(st.2.2.2.1,()))))
def F_sub_getHead_l1 (st:(Int×(Bool×Z91))):Option ((Int×(Bool×Z91)) ⊕ (Int×(Bool×Z88))):= bif decide (st.2.2.2.1<st.2.2.1) then ((F_bits_Reader_Get (st.2.2.2.2.1,(5:Int))).bind fun y15=> (F_bits_Reader_Get (y15.2,(4:Int))).bind fun y16=> bif lim ((List.length st.2.2.2.2.2.1.2.2.2.2.2.2.2.1)+1) then some (.inl (st.1,(st.2.1,(st.2.2.1,(IntKind.wrap .u64 (st.2.2.2.1+(1:Int)),(y16.2,((st.2.2.2.2.2.1.1,(st.2.2.2.2.2.1.2.1,(st.2.2.2.2.2.1.2.2.1,(st.2.2.2.2.2.1.2.2.2.1,(st.2.2.2.2.2.1.2.2.2.2.1,(st.2.2.2.2.2.1.2.2.2.2.2.1,(st.2.2.2.2.2.1.2.2.2.2.2.2.1,(List.append st.2.2.2.2.2.1.2.2.2.2.2.2.2.1 ([(IntKind.wrap .i64 ((IntKind.wrap .i64 y15.1)+(1:Int)),(IntKind.wrap .i64 y16.1,()))]:List (Int×(Int×Unit))),st.2.2.2.2.2.1.2.2.2.2.2.2.2.2)))))))),()))))))) else none) else some (.inr (st.1,(st.2.1,(st.2.2.2.2.2.1,(st.2.2.2.2.1,())))))
def F_sub_getHead (x:Z11):Option (Z78×(Int×(Bool×Z11))):= (F_bits_Reader_Get (x,(3:Int))).bind fun y1=> (F_bits_Reader_Get (y1.2,(5:Int))).bind fun y2=> (F_bits_Reader_Get (y2.2,(5:Int))).bind fun y3=> (show Option (Int×(Bool×Z88)) from (show Option (Z90 ⊕ ((Int×(Bool×Z88)) ⊕ (Int×(Bool×Z87)))) from bif (IntKind.wrap .i64 y1.1)==(2:Int) then ((F_bits_Reader_Get (y3.2,(3:Int))).bind fun y4=> some (Sum.inr (Sum.inl (IntKind.wrap .i64 y3.1,(true,((IntKind.wrap .i64 y1.1,(IntKind.wrap .i64 y2.1,(IntKind.wrap .i64 y4.1,((0:Int),((0:Int),(([]:(List Int)),(List.replicate 3 (0:Int),(([]:Z4),(([]:(List Int)),(((0:Int),(([]:(List Int)),())),(([]:(List Int)),()))))))))))),(y4.2,()))))))) else (bif (IntKind.wrap .i64 y1.1)==(4:Int) then ((F_bits_Reader_Get (y3.2,(10:Int))).bind fun y5=> (iter F_sub_getHead_l0 (IntKind.wrap .i64 y3.1,((0:Int),(y5.2,((IntKind.wrap .i64 y1.1,(IntKind.wrap .i64 y2.1,((0:Int),((0:Int),(IntKind.wrap .i64 ((IntKind.wrap .i64 y5.1)+(1:Int)),(([]:(List Int)),(List.replicate 3 (0:Int),(([]:Z4),(([]:(List Int)),(((0:Int),(([]:(List Int)),())),(([]:(List Int)),()))))))))))),()))))).bind fun w7=> some (Sum.inl (w7.1,(w7.2.1,(w7.2.2.1,()))))) else (bif (IntKind.wrap .i64 y1.1)==(3:Int) then some (Sum.inl (IntKind.wrap .i64 y3.1,(y3.2,((IntKind.wrap .i64 y1.1,(IntKind.wrap .i64 y2.1,((0:Int),((0:Int),((0:Int),(([]:(List Int)),(List.replicate 3 (0:Int),(([]:Z4),(([]:(List Int)),(((0:Int),(([]:(List Int)),())),(([]:(List Int)),()))))))))))),())))) else (bif (IntKind.wrap .i64 y1.1)==(5:Int) then some (Sum.inr (Sum.inr ((IntKind.wrap .i64 y3.1,(true,(y3.2,((IntKind.wrap .i64 y1.1,(IntKind.wrap .i64 y2.1,((0:Int),((0:Int),((0:Int),(([]:(List Int)),(List.replicate 3 (0:Int),(([]:Z4),(([]:(List Int)),(((0:Int),(([]:(List Int)),())),(([]:(List Int)),()))))))))))),()))))))) else some (Sum.inr (Sum.inl (IntKind.wrap .i64 y3.1,(true,((IntKind.wrap .i64 y1.1,(IntKind.wrap .i64 y2.1,((0:Int),((0:Int),((0:Int),(([]:(List Int)),(List.replicate 3 (0:Int),(([]:Z4),(([]:(List Int)),(((0:Int),(([]:(List Int)),())),(([]:(List Int)),()))))))))))),(y3.2,())))))))))).bind fun z8=> match z8 with |.inl a9=>((F_sub_getCoefs (a9.2.1,a9.2.2.1)).bind fun y11=> some (a9.1,(y11.1,(y11.2.2,(y11.2.1,()))))) |.inr b10=>(match b10 with |.inl a12=>some (a12.1,(a12.2.1,(a12.2.2.1,(a12.2.2.2.1,())))) |.inr b13=>((F_bits_Reader_Get (b13.2.2.1,(2:Int))).bind fun y14=> (iter F_sub_getHead_l1 (b13.1,(b13.2.1,(y14.1,((0:Int),(y14.2,(b13.2.2.2.1,()))))))).bind fun w17=> some (w17.1,(w17.2.1,(w17.2.2.1,(w17.2.2.2.1,()))))))).bind fun z18=> some (z18.2.2.1,(z18.1,(z18.2.1,z18.2.2.2.1)))
def S_sub_getHead:FSem:=⟨[.r Q8],[.v (.pair (.int .i64) (.pair (.int .i64) (.pair (.int .i64) (.pair (.int .i64) (.pair (.int .i64) (.pair (.list false (.int .i64)) (.pair (.arr 3 (.int .i64)) (.pair (.list false Q3) Q11)))))))),.v (.int .i64),.v .bool],F_sub_getHead⟩
def H71:Hints:=⟨[(8106,[.sv 3 (.int .i64),.sv 4 .bool,.sv 50 (.int .u64),.sv 51 (.int .u64),.box 1000000 Q8,.box 2 Q27,.ptr 0 1000000 [],.ptr 2 2 []],[(.exit 7,[.sv 3 (.int .i64),.sv 4 .bool,.box 2 Q27,.box 1000000 Q8,.ptr 2 2 []])]),(129550,[.sv 3 (.int .i64),.sv 38 (.int .i64),.box 1000000 Q8,.box 2 Q27,.ptr 0 1000000 [],.ptr 2 2 []],[(.exit 5,[.sv 3 (.int .i64),.box 1000000 Q8,.box 2 Q27,.ptr 0 1000000 [],.ptr 2 2 []])])],[(63,[(.normal,[.sv 3 (.int .i64),.sv 4 .bool,.box 2 Q27,.box 1000000 Q8,.ptr 2 2 []])]),(2024,[(.normal,[.sv 3 (.int .i64),.box 1000000 Q8,.box 2 Q27,.ptr 0 1000000 [],.ptr 2 2 []]),(.exit 0,[.sv 3 (.int .i64),.sv 4 .bool,.box 2 Q27,.box 1000000 Q8,.ptr 2 2 []]),(.exit 4,[.sv 3 (.int .i64),.sv 4 .bool,.box 1000000 Q8,.box 2 Q27,.ptr 0 1000000 [],.ptr 2 2 []])])],[]⟩
def F_bits_Reader_Unary_l0 (st:Z59):Option (Z59 ⊕ Z38):= bif st.2.2.1==(IntKind.wrap .i64 ((8:Int)*((List.length st.2.2.2.1.1:Nat):Int))) then some (.inr ((0:Int),((st.2.2.2.1.1,(st.2.2.2.1.2.1,((3:Int),st.2.2.2.1.2.2.2))),()))) else ((F_bits_Reader_look (st.2.2.2.1,st.2.2.1)).bind fun y2=> bif y2.1==(1:Int) then some (.inr (st.2.1,((y2.2.1,(IntKind.wrap .i64 (st.2.2.1+(1:Int)),y2.2.2.2)),()))) else (bif st.2.1==st.1 then some (.inr ((0:Int),((y2.2.1,(y2.2.2.1,((2:Int),y2.2.2.2.2))),()))) else some (.inl (st.1,(IntKind.wrap .i64 (st.2.1+(1:Int)),(IntKind.wrap .i64 (st.2.2.1+(1:Int)),(y2.2,())))))))
def F_bits_Reader_Unary (x:Z23):Option Z21:= bif x.1.2.2.1 != (0:Int) then some ((0:Int),x.1) else ((iter F_bits_Reader_Unary_l0 (imax x.2 (0:Int),((0:Int),(x.1.2.1,(x.1,()))))).bind fun w3=> some (w3.1,w3.2.1))
def S_bits_Reader_Unary:FSem:=⟨[.r Q8,.v (.int .i64)],[.v (.int .i64)],F_bits_Reader_Unary⟩
def H202:Hints:=⟨[(62,[.sv 1 (.int .i64),.sv 5 (.int .i64),.sv 6 (.int .i64),.box 1000000 Q8,.ptr 0 1000000 []],[(.ret,[.sv 4 (.int .i64),.box 1000000 Q8])])],[],[(4,[.p,.p,.q,.q,.v,.x])]⟩
def F_rice_Unfold (x:Int):Option Int:= bif decide (x≥(2147483648:Int)) then some (0:Int) else (bif (Int.tmod x (2:Int))==(0:Int) then some (IntKind.wrap .i64 (IntKind.wrap .u64 (Int.tdiv x (2:Int)))) else some (IntKind.wrap .i64 ((IntKind.wrap .i64 (0-(IntKind.wrap .i64 (IntKind.wrap .u64 (Int.tdiv x (2:Int))))))-(1:Int))))
def S_rice_Unfold:FSem:=⟨[.v (.int .u64)],[.v (.int .i64)],F_rice_Unfold⟩
def H203:Hints:=⟨[],[],[]⟩
def F_rice_one (x:Z23):Option Z35:= (F_bits_Reader_Unary (x.1,(32:Int))).bind fun y1=> (F_bits_Reader_Err y1.2).bind fun y2=> bif y2.1 != (0:Int) then ((F_bits_Reader_Err y2.2).bind fun y3=> some ((0:Int),(y3.1,y3.2))) else (bif decide ((IntKind.wrap .u64 y1.1)<(32:Int)) then ((F_bits_Reader_Get (y2.2,x.2)).bind fun y4=> bif decide (x.2<0) then none else ((F_rice_Unfold (IntKind.wrap .u64 ((gshl .u64 (IntKind.wrap .u64 y1.1) x.2)+y4.1))).bind fun y5=> (F_bits_Reader_Err y4.2).bind fun y6=> some (y5,(y6.1,y6.2)))) else ((F_bits_Reader_Get (y2.2,(32:Int))).bind fun y7=> (F_bits_Reader_Err y7.2).bind fun y8=> bif y8.1 != (0:Int) then ((F_bits_Reader_Err y8.2).bind fun y9=> some ((0:Int),(y9.1,y9.2))) else ((show Option Z46 from bif decide (y7.1≥(2147483648:Int)) then some (y7.1,(true,(y8.2,()))) else (bif decide (x.2<0) then none else some (y7.1,(decide ((gshr .u64 y7.1 x.2)<(32:Int)),(y8.2,()))))).bind fun z10=> bif z10.2.1 then some ((0:Int),((2:Int),z10.2.2.1)) else ((F_rice_Unfold z10.1).bind fun y11=> some (y11,((0:Int),z10.2.2.1))))))
def S_rice_one:FSem:=⟨[.r Q8,.v (.int .i64)],[.v (.int .i64),.v (.int .i64)],F_rice_one⟩
def H197:Hints:=⟨[],[(254,[(.normal,[.sv 8 (.int .u64),.sv 44 .bool,.box 1000000 Q8])])],[]⟩
def F_rice_Get_l0 (st:Z66):Option (Z66 ⊕ (Z44 ⊕ Z56)):= bif decide (st.2.2.1<st.2.1) then ((F_rice_one (st.2.2.2.2.1,st.1)).bind fun y5=> bif y5.2.1 != (0:Int) then some (.inr (Sum.inr ((y5.2.1,(([]:(List Int)),(y5.2.2,())))))) else (bif lim ((List.length st.2.2.2.1)+1) then some (.inl (st.1,(st.2.1,(IntKind.wrap .i64 (st.2.2.1+(1:Int)),(List.append st.2.2.2.1 ([y5.1]:List Int),(y5.2.2,())))))) else none)) else some (.inr (Sum.inl (st.2.2.2.1,(st.2.2.2.2.1,()))))
def F_rice_Get (x:(Z11×(Int×Int))):Option Z42:= (show Option (Int×Z46) from (F_rice_parameter x.2.1).bind fun y1=> bif !y1 then some (x.2.1,(x.2.2,(true,(x.1,())))) else (bif decide (x.2.2<(0:Int)) then some (x.2.1,(x.2.2,(true,(x.1,())))) else some (x.2.1,(x.2.2,(decide (x.2.2 > (4194304:Int)),(x.1,())))))).bind fun z2=> bif z2.2.2.1 then some (([]:(List Int)),((1:Int),z2.2.2.2.1)) else ((F_bits_Reader_Err z2.2.2.2.1).bind fun y3=> bif y3.1 != (0:Int) then ((F_bits_Reader_Err y3.2).bind fun y4=> some (([]:(List Int)),(y4.1,y4.2))) else ((iter F_rice_Get_l0 (z2.1,(z2.2.1,((0:Int),(([]:(List Int)),(y3.2,())))))).bind fun w6=> match w6 with |.inl a7=>some (a7.1,((0:Int),a7.2.1)) |.inr b8=>some (b8.2.1,(b8.1,b8.2.2.1))))
def S_rice_Get:FSem:=⟨[.r Q8,.v (.int .i64),.v (.int .i64)],[.o (.int .i64),.v (.int .i64)],F_rice_Get⟩
def H179:Hints:=⟨[(250,[.sv 1 (.int .i64),.sv 27 (.int .i64),.sv 28 (.int .i64),.own 8 8 (.int .i64),.box 1000000 Q8,.ptr 0 1000000 []],[(.exit 0,[.own 8 8 (.int .i64),.box 1000000 Q8]),(.ret,[.sv 7 (.int .i64),.own 6 6 (.int .i64),.box 1000000 Q8])])],[(6,[(.normal,[.sv 1 (.int .i64),.sv 2 (.int .i64),.sv 21 .bool,.box 1000000 Q8,.ptr 0 1000000 []])])],[]⟩
def F_parts_one_l0 (st:(Int×Z66)):Option ((Int×Z66) ⊕ Z64):= bif decide (st.2.2.2.1<st.2.2.1) then ((F_bits_Reader_Signed (st.2.2.2.2.2.1,st.2.1)).bind fun y6=> bif lim ((List.length st.2.2.2.2.1)+1) then some (.inl (st.1,(st.2.1,(st.2.2.1,(IntKind.wrap .i64 (st.2.2.2.1+(1:Int)),(List.append st.2.2.2.2.1 ([y6.1]:List Int),(y6.2,()))))))) else none) else some (.inr (st.1,(st.2.1,(st.2.2.2.2.1,(st.2.2.2.2.2.1,())))))
def F_parts_one (x:Z23):Option (Int×Z42):= (F_bits_Reader_Get (x.1,(5:Int))).bind fun y1=> (F_bits_Reader_Err y1.2).bind fun y2=> bif y2.1 != (0:Int) then ((F_bits_Reader_Err y2.2).bind fun y3=> some ((0:Int),(([]:(List Int)),(y3.1,y3.2)))) else (bif decide ((IntKind.wrap .i64 y1.1)≤(25:Int)) then ((F_rice_Get (y2.2,(IntKind.wrap .i64 y1.1,x.2))).bind fun y4=> some (IntKind.wrap .i64 y1.1,(y4.1,(y4.2.1,y4.2.2)))) else (bif (IntKind.wrap .i64 y1.1) != (31:Int) then some ((0:Int),(([]:(List Int)),((2:Int),y2.2))) else ((F_bits_Reader_Get (y2.2,(5:Int))).bind fun y5=> (iter F_parts_one_l0 (IntKind.wrap .i64 y1.1,(IntKind.wrap .i64 y5.1,(x.2,((0:Int),(([]:(List Int)),(y5.2,()))))))).bind fun w7=> (F_bits_Reader_Err w7.2.2.2.1).bind fun y8=> bif y8.1 != (0:Int) then ((F_bits_Reader_Err y8.2).bind fun y9=> some ((0:Int),(([]:(List Int)),(y9.1,y9.2)))) else ((F_sample_Width w7.2.2.1).bind fun y10=> bif y10 != w7.2.1 then some ((0:Int),(([]:(List Int)),((2:Int),y8.2))) else some (w7.1,(w7.2.2.1,((0:Int),y8.2)))))))
def S_parts_one:FSem:=⟨[.r Q8,.v (.int .i64)],[.v (.int .i64),.o (.int .i64),.v (.int .i64)],F_parts_one⟩
def H126:Hints:=⟨[(2042,[.sv 7 (.int .i64),.sv 10 (.int .i64),.sv 37 (.int .i64),.sv 38 (.int .i64),.own 11 11 (.int .i64),.box 1000000 Q8,.ptr 0 1000000 []],[(.exit 0,[.sv 7 (.int .i64),.sv 10 (.int .i64),.own 11 11 (.int .i64),.box 1000000 Q8,.ptr 0 1000000 []])])],[],[]⟩
def F_parts_Get_l0 (st:(Int×(Int×((List Int)×((List Int)×(Z11×Z58)))))):Option ((Int×(Int×((List Int)×((List Int)×(Z11×Z58))))) ⊕ (((List Int)×(Z5×(Z5×Z27))) ⊕ (Int×((List Int)×(Z5×Z27))))):= bif decide (st.2.1<st.1) then (bif (decide ((0:Int)≤st.2.1))&&(decide (st.2.1<((List.length st.2.2.2.1:Nat):Int))) then ((F_parts_one (st.2.2.2.2.1,List.getD st.2.2.2.1 (Int.toNat st.2.1) (0:Int))).bind fun y6=> bif y6.2.2.1 != (0:Int) then some (.inr (Sum.inr ((y6.2.2.1,(([]:(List Int)),(((0:Int),(([]:(List Int)),())),(y6.2.2.2,()))))))) else (bif lim ((List.length st.2.2.2.2.2.2.1.2.1)+1) then (bif lim ((List.length st.2.2.1)+(List.length y6.2.1)) then some (.inl (st.1,(IntKind.wrap .i64 (st.2.1+(1:Int)),(List.append st.2.2.1 y6.2.1,(st.2.2.2.1,(y6.2.2.2,(st.2.2.2.2.2.1,((st.2.2.2.2.2.2.1.1,(List.append st.2.2.2.2.2.2.1.2.1 ([y6.1]:List Int),st.2.2.2.2.2.2.1.2.2)),())))))))) else none) else none)) else none) else some (.inr (Sum.inl (st.2.2.1,(st.2.2.2.2.2.1,(st.2.2.2.2.2.2.1,(st.2.2.2.2.1,()))))))
def F_parts_Get (x:(Z11×(Int×Int))):Option (Z5×Z42):= (F_parts_row (x.2.1,x.2.2)).bind fun y1=> bif !y1 then some (((0:Int),(([]:(List Int)),())),(([]:(List Int)),((1:Int),x.1))) else ((F_bits_Reader_Get (x.1,(4:Int))).bind fun y2=> (F_bits_Reader_Err y2.2).bind fun y3=> bif y3.1 != (0:Int) then ((F_bits_Reader_Err y3.2).bind fun y4=> some (((0:Int),(([]:(List Int)),())),(([]:(List Int)),(y4.1,y4.2)))) else ((F_parts_Sizes (IntKind.wrap .i64 y2.1,(x.2.1,x.2.2))).bind fun y5=> bif ((List.length y5:Nat):Int)==(0:Int) then some (((0:Int),(([]:(List Int)),())),(([]:(List Int)),((2:Int),y3.2))) else ((iter F_parts_Get_l0 (((List.length y5:Nat):Int),((0:Int),(([]:(List Int)),(y5,(y3.2,(((0:Int),(([]:(List Int)),())),((IntKind.wrap .i64 y2.1,(([]:(List Int)),())),())))))))).bind fun w7=> match w7 with |.inl a8=>some (a8.2.2.1,(a8.1,((0:Int),a8.2.2.2.1))) |.inr b9=>some (b9.2.2.1,(b9.2.1,(b9.1,b9.2.2.2.1))))))
def S_parts_Get:FSem:=⟨[.r Q8,.v (.int .i64),.v (.int .i64)],[.v Q6,.o (.int .i64),.v (.int .i64)],F_parts_Get⟩
def H74:Hints:=⟨[(4090,[.sv 43 (.int .i64),.sv 44 (.int .i64),.own 12 12 (.int .i64),.own 42 10 (.int .i64),.box 1000000 Q8,.box 6 Q6,.box 11 Q5,.ptr 0 1000000 [],.ptr 6 6 [],.ptr 11 11 []],[(.exit 0,[.own 12 12 (.int .i64),.box 6 Q6,.box 11 Q5,.box 1000000 Q8,.ptr 6 6 [],.ptr 11 11 []]),(.ret,[.sv 8 (.int .i64),.own 7 7 (.int .i64),.box 6 Q6,.box 1000000 Q8,.ptr 6 6 []])])],[],[]⟩
def F_sub_Get_l0 (st:(Int×(Int×(Bool×(Int×(Int×(Z11×Z92))))))):Option ((Int×(Int×(Bool×(Int×(Int×(Z11×Z92)))))) ⊕ (Int×(Int×(Bool×(Z11×Z92))))):= bif decide (st.2.2.2.2.1<st.2.2.2.1) then ((F_bits_Reader_Signed (st.2.2.2.2.2.1,st.2.1)).bind fun y7=> bif lim ((List.length st.2.2.2.2.2.2.2.1.2.2.2.2.2.2.2.2.1)+1) then some (.inl (st.1,(st.2.1,(st.2.2.1,(st.2.2.2.1,(IntKind.wrap .i64 (st.2.2.2.2.1+(1:Int)),(y7.2,(st.2.2.2.2.2.2.1,((st.2.2.2.2.2.2.2.1.1,(st.2.2.2.2.2.2.2.1.2.1,(st.2.2.2.2.2.2.2.1.2.2.1,(st.2.2.2.2.2.2.2.1.2.2.2.1,(st.2.2.2.2.2.2.2.1.2.2.2.2.1,(st.2.2.2.2.2.2.2.1.2.2.2.2.2.1,(st.2.2.2.2.2.2.2.1.2.2.2.2.2.2.1,(st.2.2.2.2.2.2.2.1.2.2.2.2.2.2.2.1,(List.append st.2.2.2.2.2.2.2.1.2.2.2.2.2.2.2.2.1 ([y7.1]:List Int),st.2.2.2.2.2.2.2.1.2.2.2.2.2.2.2.2.2))))))))),()))))))))) else none) else some (.inr (st.1,(st.2.1,(st.2.2.1,(st.2.2.2.2.2.1,(st.2.2.2.2.2.2.1,(st.2.2.2.2.2.2.2.1,())))))))
end Go.Ab
namespace Go.Ab
open Go.Proofs
set_option maxRecDepth 100000
set_option linter.unusedVariables false
def F_sub_Get (x:Z23):Option (Z78×Z21):= bif decide (x.2<(1:Int)) then some (((0:Int),((0:Int),((0:Int),((0:Int),((0:Int),(([]:(List Int)),(List.replicate 3 (0:Int),(([]:Z4),(([]:(List Int)),(((0:Int),(([]:(List Int)),())),(([]:(List Int)),()))))))))))),((1:Int),x.1)) else (bif decide (x.2 > (4096:Int)) then some (((0:Int),((0:Int),((0:Int),((0:Int),((0:Int),(([]:(List Int)),(List.replicate 3 (0:Int),(([]:Z4),(([]:(List Int)),(((0:Int),(([]:(List Int)),())),(([]:(List Int)),()))))))))))),((1:Int),x.1)) else ((F_bits_Reader_Err x.1).bind fun y1=> bif y1.1 != (0:Int) then some (((0:Int),((0:Int),((0:Int),((0:Int),((0:Int),(([]:(List Int)),(List.replicate 3 (0:Int),(([]:Z4),(([]:(List Int)),(((0:Int),(([]:(List Int)),())),(([]:(List Int)),()))))))))))),(y1.1,y1.2)) else ((F_sub_getHead y1.2).bind fun y2=> (F_bits_Reader_Err y2.2.2.2).bind fun y3=> bif y3.1 != (0:Int) then some (((0:Int),((0:Int),((0:Int),((0:Int),((0:Int),(([]:(List Int)),(List.replicate 3 (0:Int),(([]:Z4),(([]:(List Int)),(((0:Int),(([]:(List Int)),())),(([]:(List Int)),()))))))))))),(y3.1,y3.2)) else ((F_sub_fit (y2.1.1,(y2.1,x.2))).bind fun y4=> bif !y4 then some (((0:Int),((0:Int),((0:Int),((0:Int),((0:Int),(([]:(List Int)),(List.replicate 3 (0:Int),(([]:Z4),(([]:(List Int)),(((0:Int),(([]:(List Int)),())),(([]:(List Int)),()))))))))))),((2:Int),y3.2)) else ((F_sub_warmth (y2.1,x.2)).bind fun y5=> (iter F_sub_Get_l0 (x.2,(y2.2.1,(y2.2.2.1,(y5,((0:Int),(y3.2,(((0:Int),((0:Int),((0:Int),((0:Int),((0:Int),(([]:(List Int)),(List.replicate 3 (0:Int),(([]:Z4),(([]:(List Int)),(((0:Int),(([]:(List Int)),())),(([]:(List Int)),()))))))))))),(y2.1,()))))))))).bind fun w8=> (F_bits_Reader_Err w8.2.2.2.1).bind fun y9=> bif y9.1 != (0:Int) then some (((0:Int),((0:Int),((0:Int),((0:Int),((0:Int),(([]:(List Int)),(List.replicate 3 (0:Int),(([]:Z4),(([]:(List Int)),(((0:Int),(([]:(List Int)),())),(([]:(List Int)),()))))))))))),(y9.1,y9.2)) else ((F_sub_rested w8.2.2.2.2.2.1.1).bind fun y10=> bif y10 then ((F_parts_Get (y9.2,(w8.1,((List.length w8.2.2.2.2.2.1.2.2.2.2.2.2.2.2.1:Nat):Int)))).bind fun y11=> bif y11.2.2.1 != (0:Int) then some (((0:Int),((0:Int),((0:Int),((0:Int),((0:Int),(([]:(List Int)),(List.replicate 3 (0:Int),(([]:Z4),(([]:(List Int)),(((0:Int),(([]:(List Int)),())),(([]:(List Int)),()))))))))))),(y11.2.2.1,y11.2.2.2)) else (bif !w8.2.2.1 then some (((0:Int),((0:Int),((0:Int),((0:Int),((0:Int),(([]:(List Int)),(List.replicate 3 (0:Int),(([]:Z4),(([]:(List Int)),(((0:Int),(([]:(List Int)),())),(([]:(List Int)),()))))))))))),((2:Int),y11.2.2.2)) else ((F_sample_Width w8.2.2.2.2.2.1.2.2.2.2.2.2.2.2.1).bind fun y12=> bif y12 != w8.2.1 then some (((0:Int),((0:Int),((0:Int),((0:Int),((0:Int),(([]:(List Int)),(List.replicate 3 (0:Int),(([]:Z4),(([]:(List Int)),(((0:Int),(([]:(List Int)),())),(([]:(List Int)),()))))))))))),((2:Int),y11.2.2.2)) else ((F_sub_May ((w8.2.2.2.2.2.1.1,(w8.2.2.2.2.2.1.2.1,(w8.2.2.2.2.2.1.2.2.1,(w8.2.2.2.2.2.1.2.2.2.1,(w8.2.2.2.2.2.1.2.2.2.2.1,(w8.2.2.2.2.2.1.2.2.2.2.2.1,(w8.2.2.2.2.2.1.2.2.2.2.2.2.1,(w8.2.2.2.2.2.1.2.2.2.2.2.2.2.1,(w8.2.2.2.2.2.1.2.2.2.2.2.2.2.2.1,(y11.1,(y11.2.1,w8.2.2.2.2.2.1.2.2.2.2.2.2.2.2.2.2.2))))))))))),w8.1)).bind fun y13=> bif !y13 then some (((0:Int),((0:Int),((0:Int),((0:Int),((0:Int),(([]:(List Int)),(List.replicate 3 (0:Int),(([]:Z4),(([]:(List Int)),(((0:Int),(([]:(List Int)),())),(([]:(List Int)),()))))))))))),((2:Int),y11.2.2.2)) else some ((w8.2.2.2.2.2.1.1,(w8.2.2.2.2.2.1.2.1,(w8.2.2.2.2.2.1.2.2.1,(w8.2.2.2.2.2.1.2.2.2.1,(w8.2.2.2.2.2.1.2.2.2.2.1,(w8.2.2.2.2.2.1.2.2.2.2.2.1,(w8.2.2.2.2.2.1.2.2.2.2.2.2.1,(w8.2.2.2.2.2.1.2.2.2.2.2.2.2.1,(w8.2.2.2.2.2.1.2.2.2.2.2.2.2.2.1,(y11.1,(y11.2.1,w8.2.2.2.2.2.1.2.2.2.2.2.2.2.2.2.2.2))))))))))),((0:Int),y11.2.2.2)))))) else (bif !w8.2.2.1 then some (((0:Int),((0:Int),((0:Int),((0:Int),((0:Int),(([]:(List Int)),(List.replicate 3 (0:Int),(([]:Z4),(([]:(List Int)),(((0:Int),(([]:(List Int)),())),(([]:(List Int)),()))))))))))),((2:Int),y9.2)) else ((F_sample_Width w8.2.2.2.2.2.1.2.2.2.2.2.2.2.2.1).bind fun y14=> bif y14 != w8.2.1 then some (((0:Int),((0:Int),((0:Int),((0:Int),((0:Int),(([]:(List Int)),(List.replicate 3 (0:Int),(([]:Z4),(([]:(List Int)),(((0:Int),(([]:(List Int)),())),(([]:(List Int)),()))))))))))),((2:Int),y9.2)) else ((F_sub_May (w8.2.2.2.2.2.1,w8.1)).bind fun y15=> bif !y15 then some (((0:Int),((0:Int),((0:Int),((0:Int),((0:Int),(([]:(List Int)),(List.replicate 3 (0:Int),(([]:Z4),(([]:(List Int)),(((0:Int),(([]:(List Int)),())),(([]:(List Int)),()))))))))))),((2:Int),y9.2)) else some (w8.2.2.2.2.2.1,((0:Int),y9.2)))))))))))
def S_sub_Get:FSem:=⟨[.r Q8,.v (.int .i64)],[.v Q28,.v (.int .i64)],F_sub_Get⟩
def H34:Hints:=⟨[(1018,[.sv 1 (.int .i64),.sv 8 (.int .i64),.sv 9 .bool,.sv 47 (.int .i64),.sv 48 (.int .i64),.box 1000000 Q8,.box 4 Q28,.box 7 (.pair (.int .i64) (.pair (.int .i64) (.pair (.int .i64) (.pair (.int .i64) (.pair (.int .i64) (.pair (.list false (.int .i64)) (.pair (.arr 3 (.int .i64)) (.pair (.list false Q3) (.pair (.list true (.int .i64)) Q10))))))))),.ptr 0 1000000 [],.ptr 4 4 [],.ptr 7 7 []],[(.exit 0,[.sv 1 (.int .i64),.sv 8 (.int .i64),.sv 9 .bool,.box 1000000 Q8,.box 4 Q28,.box 7 (.pair (.int .i64) (.pair (.int .i64) (.pair (.int .i64) (.pair (.int .i64) (.pair (.int .i64) (.pair (.list false (.int .i64)) (.pair (.arr 3 (.int .i64)) (.pair (.list false Q3) (.pair (.list true (.int .i64)) Q10))))))))),.ptr 0 1000000 [],.ptr 4 4 [],.ptr 7 7 []])])],[],[(14,[.r [7,50],.r [7,51],.p,.v,.w [54,1054,1000000],.q,.x,.x,.x])]⟩
def F_l15_SubKinds (x:(Int×((List Int)×Z78))):Option Bool:= (F_l15_known ()).bind fun y1=> bif !y1 then some false else ((show Option (Int×((List Int)×Z82)) from bif decide (((List.length x.2.1:Nat):Int) > (150:Int)) then some (x.1,(x.2.1,(true,(x.2.2,())))) else ((F_l15_Small (x.2.2,(200:Int))).bind fun y2=> some (x.1,(x.2.1,(!y2,(x.2.2,())))))).bind fun z3=> bif z3.2.2.1 then some true else ((F_sub_Make (z3.1,(z3.2.1,z3.2.2.2.1))).bind fun y4=> bif y4.2 != (0:Int) then ((F_r19_SameSub (y4.1,((0:Int),((0:Int),((0:Int),((0:Int),((0:Int),(([]:(List Int)),(List.replicate 3 (0:Int),(([]:Z4),(([]:(List Int)),(((0:Int),(([]:(List Int)),())),(([]:(List Int)),()))))))))))))).bind fun y5=> some y5) else ((F_sub_Row (y4.1,((List.length z3.2.1:Nat):Int))).bind fun y6=> (F_sub_Put ((([]:(List Int)),((0:Int),())),(y4.1,((List.length z3.2.1:Nat):Int)))).bind fun y7=> (F_bits_Writer_Bytes y7.2).bind fun y8=> (F_bits_New y8.1).bind fun y9=> (F_sub_Get (y9,((List.length z3.2.1:Nat):Int))).bind fun y10=> (F_sub_Row (y10.1,((List.length z3.2.1:Nat):Int))).bind fun y11=> bif y4.1.1==z3.1 then (bif y6.2==(0:Int) then (bif y7.1==(0:Int) then (bif y10.2.1==(0:Int) then (bif y11.2==(0:Int) then ((F_r2_SameInts (z3.2.1,y6.1)).bind fun y12=> bif y12 then ((F_r2_SameInts (z3.2.1,y11.1)).bind fun y13=> some y13) else some false) else some false) else some false) else some false) else some false) else some false)))
def S_l15_SubKinds:FSem:=⟨[.v (.int .i64),.v (.list false (.int .i64)),.v Q28],[.v .bool],F_l15_SubKinds⟩
def H8:Hints:=⟨[],[(14,[(.normal,[.sv 0 (.int .i64),.sv 1 (.list false (.int .i64)),.sv 27 .bool,.vp 5 Q28])])],[]⟩
end Go.Ab
namespace Go.Ab
open Go.Proofs
set_option maxRecDepth 100000
theorem mixed:Tryz.prog.follows .mixedOrders=true:=by kernel_rfl
theorem tab1:tabOk Tryz.prog tyTab=true:=by kernel_rfl
theorem tab2:ptrOk Tryz.prog ptrTab=true:=by kernel_rfl
theorem tab3:eqsOk Tryz.prog tyTab eqTab=true:=by kernel_rfl
theorem laidOut:laidOutB Tryz.prog=true:=by kernel_rfl
@[reducible] def Ok0 (n:Nat) (s:FSem):Prop:=FSound Tryz.prog G0 n s∧Bodied Tryz.prog n
theorem cxo {a:List (Nat×FSem)} {b:List (Nat×Ty)} {c d:List Nat} (h:∀ p∈a,Ok0 p.1 p.2):CxOk Tryz.prog (cxOf a b c d):=
 CxOk.of (CxTy.of (tab:=tyTab) (l:=eqTab) (q:=ptrTab) (fun _=>rfl) (fun _=>rfl) (fun _=>rfl) tab1 tab2 tab3) (fun _=>rfl) h
theorem fo (a : List (Nat × FSem)) (b : List (Nat × Ty)) (c d : List Nat) (H : Hints) {n : Nat} {fn : Func} {e : Code} {s : FSem} (h : ∀ p ∈ a, Ok0 p.1 p.2) (hf : Tryz.prog.funcs[n]? = some fn) (hb : fn.body = some e) (hk : fnOk fn e H s = true) (hn : (fn.name == "runtime.NumGoroutine") = false) (hq : ∀ x, arun (cxOf a b c d) H fn s.ps s.rs x = s.F x) : Ok0 n s :=
 ⟨FSound.of (cxo h) mixed hf hb hk hq,⟨_,_,hf,hb,hn⟩⟩
theorem fs44:Ok0 44 S_sub_allWide:=
 fo [] [] [0,2,4] [] H44 a0 Tryz.func44 rfl (by kernel_rfl) (by kernel_rfl) (fun x=>by kernel_rfl)
theorem fs59:Ok0 59 S_sub_rested:=
 fo [] [] [0,2] [] H59 a0 Tryz.func59 rfl (by kernel_rfl) (by kernel_rfl) (fun x=>by kernel_rfl)
theorem fs113:Ok0 113 S_linear_May:=
 fo [] [] [0,1,4,6] [] H113 a0 Tryz.func113 rfl (by kernel_rfl) (by kernel_rfl) (fun x=>by kernel_rfl)
theorem fs114:Ok0 114 S_long_May:=
 fo [] [] [0,1,4,6] [3] H114 a0 Tryz.func114 rfl (by kernel_rfl) (by kernel_rfl) (fun x=>by kernel_rfl)
theorem fs177:Ok0 177 S_learn_valid:=
 fo [] [] [0,2] [1] H177 a0 Tryz.func177 rfl (by kernel_rfl) (by kernel_rfl) (fun x=>by kernel_rfl)
theorem fs115:Ok0 115 S_learn_May:=
 fo [(177,S_learn_valid)] [] [0,2] [] H115 (a1 fs177 a0) Tryz.func115 rfl (by kernel_rfl) (by kernel_rfl) (fun x=>by kernel_rfl)
theorem fs66:Ok0 66 S_sub_fit:=
 fo [(113,S_linear_May),(114,S_long_May),(115,S_learn_May)] [] [0,1,2,6,8,11,27,41,62] [4] H66 (a1 fs113 (a1 fs114 (a1 fs115 a0))) Tryz.func66 rfl (by kernel_rfl) (by kernel_rfl) (fun x=>by kernel_rfl)
theorem fs72:Ok0 72 S_sub_warmth:=
 fo [] [] [0,1,4,7,9,12,16] [2] H72 a0 Tryz.func72 rfl (by kernel_rfl) (by kernel_rfl) (fun x=>by kernel_rfl)
theorem fs116:Ok0 116 S_slices_Clone___int_int_:=
 ⟨FSound.of (cx:=cx116) (cxo a0) mixed Tryz.func116 rfl (by kernel_rfl) eq116,⟨_,_,Tryz.func116,rfl,by kernel_rfl⟩⟩
theorem fs116v:Ok0 116 S_slices_Clone___int_int_v:=
 ⟨FSound.of (cx:=cx116v) (cxo a0) mixed Tryz.func116 rfl (by kernel_rfl) eq116v,⟨_,_,Tryz.func116,rfl,by kernel_rfl⟩⟩
theorem fs117v:Ok0 117 S_slices_Clone___api_Stage_api_Stage_v:=
 ⟨FSound.of (cx:=cx117v) (cxo a0) mixed Tryz.func117 rfl (by kernel_rfl) eq117v,⟨_,_,Tryz.func117,rfl,by kernel_rfl⟩⟩
theorem fs67:Ok0 67 S_sub_chosen:=
 fo [(116,S_slices_Clone___int_int_v),(117,S_slices_Clone___api_Stage_api_Stage_v)] [] [0,1,9,11,13,15] [3] H67 (a1 fs116v (a1 fs117v a0)) Tryz.func67 rfl (by kernel_rfl) (by kernel_rfl) (fun x=>by kernel_rfl)
theorem fs77:Ok0 77 S_sub_alone:=
 fo [(67,S_sub_chosen)] [] [0,2] [1] H77 (a1 fs67 a0) Tryz.func77 rfl (by kernel_rfl) (by kernel_rfl) (fun x=>by kernel_rfl)
theorem fs125:Ok0 125 S_parts_row:=
 fo [] [] [0,1,4] [] H125 a0 Tryz.func125 rfl (by kernel_rfl) (by kernel_rfl) (fun x=>by kernel_rfl)
theorem fs108:Ok0 108 S_parts_Sizes:=
 fo [(125,S_parts_row)] [] [0,1,2,6,7,8] [] H108 (a1 fs125 a0) Tryz.func108 rfl (by kernel_rfl) (by kernel_rfl) (fun x=>by kernel_rfl)
theorem fs78:Ok0 78 S_parts_May:=
 fo [(108,S_parts_Sizes)] [] [0,1,2,6,7,9] [3] H78 (a1 fs108 a0) Tryz.func78 rfl (by kernel_rfl) (by kernel_rfl) (fun x=>by kernel_rfl)
theorem fs37:Ok0 37 S_sub_stated:=
 fo [(44,S_sub_allWide),(59,S_sub_rested),(66,S_sub_fit),(72,S_sub_warmth),(77,S_sub_alone),(78,S_parts_May)] [] [0,1,4,5] [2] H37 (a1 fs44 (a1 fs59 (a1 fs66 (a1 fs72 (a1 fs77 (a1 fs78 a0)))))) Tryz.func37 rfl (by kernel_rfl) (by kernel_rfl) (fun x=>by kernel_rfl)
theorem fs127:Ok0 127 S_fixed_wide:=
 fo [] [] [0,2,4] [] H127 a0 Tryz.func127 rfl (by kernel_rfl) (by kernel_rfl) (fun x=>by kernel_rfl)
theorem fs180:Ok0 180 S_fixed_guess_1:=
 fo [] [] [0,1,3] [] H180 a0 Tryz.func180 rfl (by kernel_rfl) (by kernel_rfl) (fun x=>by kernel_rfl)
theorem fs128:Ok0 128 S_fixed_guess:=
 fo [(180,S_fixed_guess_1)] [] [0,1,4,5,8,12,20,32] [] H128 (a1 fs180 a0) Tryz.func128 rfl (by kernel_rfl) (by kernel_rfl) (fun x=>by kernel_rfl)
theorem fs79:Ok0 79 S_fixed_Back:=
 fo [(127,S_fixed_wide),(128,S_fixed_guess)] [] [0,1,2,6,7,8,10,11] [] H79 (a1 fs127 (a1 fs128 a0)) Tryz.func79 rfl (by kernel_rfl) (by kernel_rfl) (fun x=>by kernel_rfl)
theorem fs131:Ok0 131 S_linear_wide:=
 fo [] [] [0,2] [] H131 a0 Tryz.func131 rfl (by kernel_rfl) (by kernel_rfl) (fun x=>by kernel_rfl)
theorem fs129:Ok0 129 S_linear_allWide:=
 fo [(131,S_linear_wide)] [] [0,2,4] [] H129 (a1 fs131 a0) Tryz.func129 rfl (by kernel_rfl) (by kernel_rfl) (fun x=>by kernel_rfl)
theorem fs130:Ok0 130 S_linear_predict:=
 fo [] [] [0,1,2,6,7,8,9,10] [] H130 a0 Tryz.func130 rfl (by kernel_rfl) (by kernel_rfl) (fun x=>by kernel_rfl)
theorem fs80:Ok0 80 S_linear_Back:=
 fo [(113,S_linear_May),(129,S_linear_allWide),(130,S_linear_predict),(131,S_linear_wide)] [] [0,1,2,3,8,9,10,12,13] [] H80 (a1 fs113 (a1 fs129 (a1 fs130 (a1 fs131 a0)))) Tryz.func80 rfl (by kernel_rfl) (by kernel_rfl) (fun x=>by kernel_rfl)
theorem fs134:Ok0 134 S_long_wide:=
 fo [] [] [0,2] [] H134 a0 Tryz.func134 rfl (by kernel_rfl) (by kernel_rfl) (fun x=>by kernel_rfl)
theorem fs132:Ok0 132 S_long_allWide:=
 fo [(134,S_long_wide)] [] [0,2,4] [] H132 (a1 fs134 a0) Tryz.func132 rfl (by kernel_rfl) (by kernel_rfl) (fun x=>by kernel_rfl)
theorem fs133:Ok0 133 S_long_predict:=
 fo [] [] [0,1,2,3,8,9,10,11,12] [7] H133 a0 Tryz.func133 rfl (by kernel_rfl) (by kernel_rfl) (fun x=>by kernel_rfl)
theorem fs81:Ok0 81 S_long_Back:=
 fo [(114,S_long_May),(132,S_long_allWide),(133,S_long_predict),(134,S_long_wide)] [] [0,1,2,6,7,8,9,10,11] [5] H81 (a1 fs114 (a1 fs132 (a1 fs133 (a1 fs134 a0)))) Tryz.func81 rfl (by kernel_rfl) (by kernel_rfl) (fun x=>by kernel_rfl)
theorem fs139:Ok0 139 S_learn_wide:=
 fo [] [] [0,2] [] H139 a0 Tryz.func139 rfl (by kernel_rfl) (by kernel_rfl) (fun x=>by kernel_rfl)
theorem fs135:Ok0 135 S_learn_allWide:=
 fo [(139,S_learn_wide)] [] [0,2,4] [] H135 (a1 fs139 a0) Tryz.func135 rfl (by kernel_rfl) (by kernel_rfl) (fun x=>by kernel_rfl)
theorem fs137:Ok0 137 S_learn_New:=
 fo [(177,S_learn_valid)] [(15,.pair (.int .i64) Q7),(16,.pair (.int .i64) Q7)] [0,2,3] [1] H137 (a1 fs177 a0) Tryz.func137 rfl (by kernel_rfl) (by kernel_rfl) (fun x=>by kernel_rfl)
theorem fs182:Ok0 182 S_learn_nearest:=
 fo [] [] [0,2] [] H182 a0 Tryz.func182 rfl (by kernel_rfl) (by kernel_rfl) (fun x=>by kernel_rfl)
theorem fs138:Ok0 138 S_learn_Filter_Guess:=
 fo [(182,S_learn_nearest)] [] [0,2,3,4,5] [] H138 (a1 fs182 a0) Tryz.func138 rfl (by kernel_rfl) (by kernel_rfl) (fun x=>by kernel_rfl)
theorem fs140:Ok0 140 S_learn_Filter_Tell:=
 fo [(138,S_learn_Filter_Guess),(182,S_learn_nearest)] [] [0,1,4,5,6,7,8,13,22] [] H140 (a1 fs138 (a1 fs182 a0)) Tryz.func140 rfl (by kernel_rfl) (by kernel_rfl) (fun x=>by kernel_rfl)
theorem fs82:Ok0 82 S_learn_Back:=
 ⟨FSound.ofR (cx:=cx82) (cxo (a1 fs115 (a1 fs116 (a1 fs135 (a1 fs137 (a1 fs138 (a1 fs139 (a1 fs140 a0)))))))) mixed (r:=R82) ⟨mkOk136,itOk181⟩ Tryz.func82 rfl (by kernel_rfl) eq82,⟨_,_,Tryz.func82,rfl,by kernel_rfl⟩⟩
theorem fs93:Ok0 93 S_sample_wide:=
 fo [] [] [0,2] [] H93 a0 Tryz.func93 rfl (by kernel_rfl) (by kernel_rfl) (fun x=>by kernel_rfl)
theorem fs83:Ok0 83 S_sample_Up:=
 fo [(93,S_sample_wide)] [] [0,1,4,5,6,8] [] H83 (a1 fs93 a0) Tryz.func83 rfl (by kernel_rfl) (by kernel_rfl) (fun x=>by kernel_rfl)
theorem fs38:Ok0 38 S_sub_back:=
 fo [(79,S_fixed_Back),(80,S_linear_Back),(81,S_long_Back),(82,S_learn_Back),(83,S_sample_Up)] [] [0,1,4,5,6,7,10,24,28,40,54,79] [2] H38 (a1 fs79 (a1 fs80 (a1 fs81 (a1 fs82 (a1 fs83 a0))))) Tryz.func38 rfl (by kernel_rfl) (by kernel_rfl) (fun x=>by kernel_rfl)
theorem fs12:Ok0 12 S_sub_Row:=
 fo [(37,S_sub_stated),(38,S_sub_back)] [] [0,1,4,5,6,7] [2] H12 (a1 fs37 (a1 fs38 a0)) Tryz.func12 rfl (by kernel_rfl) (by kernel_rfl) (fun x=>by kernel_rfl)
theorem fs14:Ok0 14 S_sub_May:=
 fo [(12,S_sub_Row)] [] [0,1,4,5,6] [2] H14 (a1 fs12 a0) Tryz.func14 rfl (by kernel_rfl) (by kernel_rfl) (fun x=>by kernel_rfl)
theorem fs55:Ok0 55 S_bits_Writer_bit:=
 fo [] [] [0,1] [] H55 a0 Tryz.func55 rfl (by kernel_rfl) (by kernel_rfl) (fun x=>by kernel_rfl)
theorem fs23:Ok0 23 S_bits_Writer_Put:=
 fo [(55,S_bits_Writer_bit)] [] [0,1,2,6,7] [] H23 (a1 fs55 a0) Tryz.func23 rfl (by kernel_rfl) (by kernel_rfl) (fun x=>by kernel_rfl)
theorem fs164:Ok0 164 S_sample_Low:=
 fo [] [] [0,2] [] H164 a0 Tryz.func164 rfl (by kernel_rfl) (by kernel_rfl) (fun x=>by kernel_rfl)
theorem fs165:Ok0 165 S_sample_High:=
 fo [] [] [0,2] [] H165 a0 Tryz.func165 rfl (by kernel_rfl) (by kernel_rfl) (fun x=>by kernel_rfl)
theorem fs106:Ok0 106 S_sample_Fits:=
 fo [(164,S_sample_Low),(165,S_sample_High)] [] [0,1,4] [] H106 (a1 fs164 (a1 fs165 a0)) Tryz.func106 rfl (by kernel_rfl) (by kernel_rfl) (fun x=>by kernel_rfl)
theorem fs56:Ok0 56 S_sample_Width:=
 fo [(106,S_sample_Fits)] [] [0,2,3,5] [] H56 (a1 fs106 a0) Tryz.func56 rfl (by kernel_rfl) (by kernel_rfl) (fun x=>by kernel_rfl)
theorem fs57:Ok0 57 S_sub_putSigned:=
 fo [(23,S_bits_Writer_Put)] [] [0,1,2] [] H57 (a1 fs23 a0) Tryz.func57 rfl (by kernel_rfl) (by kernel_rfl) (fun x=>by kernel_rfl)
theorem fs58:Ok0 58 S_sub_putCoefs:=
 fo [(23,S_bits_Writer_Put),(56,S_sample_Width),(57,S_sub_putSigned)] [] [0,1,4,6] [3] H58 (a1 fs23 (a1 fs56 (a1 fs57 a0))) Tryz.func58 rfl (by kernel_rfl) (by kernel_rfl) (fun x=>by kernel_rfl)
theorem fs122:Ok0 122 S_parts_right:=
 fo [(125,S_parts_row)] [] [0,1,2,6,8] [] H122 (a1 fs125 a0) Tryz.func122 rfl (by kernel_rfl) (by kernel_rfl) (fun x=>by kernel_rfl)
theorem fs166:Ok0 166 S_parts_raw:=
 fo [(56,S_sample_Width)] [] [0,2] [] H166 (a1 fs56 a0) Tryz.func166 rfl (by kernel_rfl) (by kernel_rfl) (fun x=>by kernel_rfl)
theorem fs168:Ok0 168 S_rice_parameter:=
 fo [] [] [0,2] [] H168 a0 Tryz.func168 rfl (by kernel_rfl) (by kernel_rfl) (fun x=>by kernel_rfl)
theorem fs169:Ok0 169 S_rice_wide:=
 fo [] [] [0,2] [] H169 a0 Tryz.func169 rfl (by kernel_rfl) (by kernel_rfl) (fun x=>by kernel_rfl)
theorem fs170:Ok0 170 S_rice_Fold:=
 fo [(169,S_rice_wide)] [] [0,2,3,7] [] H170 (a1 fs169 a0) Tryz.func170 rfl (by kernel_rfl) (by kernel_rfl) (fun x=>by kernel_rfl)
theorem fs195:Ok0 195 S_rice_Cost:=
 fo [(168,S_rice_parameter),(169,S_rice_wide),(170,S_rice_Fold)] [] [0,1,4,5] [] H195 (a1 fs168 (a1 fs169 (a1 fs170 a0))) Tryz.func195 rfl (by kernel_rfl) (by kernel_rfl) (fun x=>by kernel_rfl)
theorem fs167:Ok0 167 S_rice_Sum:=
 fo [(195,S_rice_Cost)] [] [0,1,4,5,7] [] H167 (a1 fs195 a0) Tryz.func167 rfl (by kernel_rfl) (by kernel_rfl) (fun x=>by kernel_rfl)
theorem fs107:Ok0 107 S_parts_Cost:=
 fo [(78,S_parts_May),(108,S_parts_Sizes),(122,S_parts_right),(166,S_parts_raw),(167,S_rice_Sum)] [] [0,1,2,3,8,9,10,11,12] [4] H107 (a1 fs78 (a1 fs108 (a1 fs122 (a1 fs166 (a1 fs167 a0))))) Tryz.func107 rfl (by kernel_rfl) (by kernel_rfl) (fun x=>by kernel_rfl)
theorem fs171:Ok0 171 S_bits_Writer_Unary:=
 fo [(55,S_bits_Writer_bit)] [] [0,1,4] [] H171 (a1 fs55 a0) Tryz.func171 rfl (by kernel_rfl) (by kernel_rfl) (fun x=>by kernel_rfl)
theorem fs109:Ok0 109 S_rice_Put:=
 fo [(23,S_bits_Writer_Put),(168,S_rice_parameter),(169,S_rice_wide),(170,S_rice_Fold),(171,S_bits_Writer_Unary)] [] [0,1,2,6,8,10,11,12] [] H109 (a1 fs23 (a1 fs168 (a1 fs169 (a1 fs170 (a1 fs171 a0))))) Tryz.func109 rfl (by kernel_rfl) (by kernel_rfl) (fun x=>by kernel_rfl)
theorem fs60:Ok0 60 S_parts_Put:=
 fo [(23,S_bits_Writer_Put),(56,S_sample_Width),(107,S_parts_Cost),(108,S_parts_Sizes),(109,S_rice_Put)] [] [0,1,2,3,4,10,11,12,13,14,16] [6] H60 (a1 fs23 (a1 fs56 (a1 fs107 (a1 fs108 (a1 fs109 a0))))) Tryz.func60 rfl (by kernel_rfl) (by kernel_rfl) (fun x=>by kernel_rfl)
theorem fs25:Ok0 25 S_sub_Put:=
 fo [(14,S_sub_May),(23,S_bits_Writer_Put),(56,S_sample_Width),(57,S_sub_putSigned),(58,S_sub_putCoefs),(59,S_sub_rested),(60,S_parts_Put)] [] [0,1,2,6,7,9,13,37,39,41,43] [4] H25 (a1 fs14 (a1 fs23 (a1 fs56 (a1 fs57 (a1 fs58 (a1 fs59 (a1 fs60 a0))))))) Tryz.func25 rfl (by kernel_rfl) (by kernel_rfl) (fun x=>by kernel_rfl)
theorem fs27:Ok0 27 S_bits_Writer_Len:=
 fo [] [] [0,2] [] H27 a0 Tryz.func27 rfl (by kernel_rfl) (by kernel_rfl) (fun x=>by kernel_rfl)
theorem fs15:Ok0 15 S_sub_Cost:=
 fo [(25,S_sub_Put),(27,S_bits_Writer_Len)] [(5,.pair (.list true (.int .u8)) Q0)] [0,1,4] [2] H15 (a1 fs25 (a1 fs27 a0)) Tryz.func15 rfl (by kernel_rfl) (by kernel_rfl) (fun x=>by kernel_rfl)
theorem fs17:Ok0 17 S_r2_SameInts:=
 fo [] [] [0,1,4,5] [] H17 a0 Tryz.func17 rfl (by kernel_rfl) (by kernel_rfl) (fun x=>by kernel_rfl)
theorem fs45:Ok0 45 S_sample_Down:=
 fo [(93,S_sample_wide)] [] [0,1,4,5,6,8] [] H45 (a1 fs93 a0) Tryz.func45 rfl (by kernel_rfl) (by kernel_rfl) (fun x=>by kernel_rfl)
theorem fs94:Ok0 94 S_math_bits_TrailingZeros64:=
 ⟨FSound.of (cx:=cx94) (cxo a0) mixed Tryz.func94 rfl (by kernel_rfl) eq94,⟨_,_,Tryz.func94,rfl,by kernel_rfl⟩⟩
theorem fs46:Ok0 46 S_sample_Wasted:=
 fo [(94,S_math_bits_TrailingZeros64)] [] [0,2,3,5] [] H46 (a1 fs94 a0) Tryz.func46 rfl (by kernel_rfl) (by kernel_rfl) (fun x=>by kernel_rfl)
theorem fs118:Ok0 118 S_fixed_Rest:=
 fo [(127,S_fixed_wide)] [] [0,1,4,5,6,7] [] H118 (a1 fs127 a0) Tryz.func118 rfl (by kernel_rfl) (by kernel_rfl) (fun x=>by kernel_rfl)
theorem fs119:Ok0 119 S_linear_Rest:=
 fo [(113,S_linear_May),(129,S_linear_allWide),(130,S_linear_predict),(131,S_linear_wide)] [] [0,1,2,6,7,8,9,10] [] H119 (a1 fs113 (a1 fs129 (a1 fs130 (a1 fs131 a0)))) Tryz.func119 rfl (by kernel_rfl) (by kernel_rfl) (fun x=>by kernel_rfl)
theorem fs120:Ok0 120 S_long_Rest:=
 fo [(114,S_long_May),(132,S_long_allWide),(133,S_long_predict),(134,S_long_wide)] [] [0,1,2,6,7,8,9,10,11] [5] H120 (a1 fs114 (a1 fs132 (a1 fs133 (a1 fs134 a0)))) Tryz.func120 rfl (by kernel_rfl) (by kernel_rfl) (fun x=>by kernel_rfl)
theorem fs121:Ok0 121 S_learn_Rest:=
 fo [(115,S_learn_May),(116,S_slices_Clone___int_int_),(135,S_learn_allWide),(137,S_learn_New),(138,S_learn_Filter_Guess),(139,S_learn_wide),(140,S_learn_Filter_Tell)] [] [0,1,4,5,6,9,10,11,12,13] [] H121 (a1 fs115 (a1 fs116 (a1 fs135 (a1 fs137 (a1 fs138 (a1 fs139 (a1 fs140 a0))))))) Tryz.func121 rfl (by kernel_rfl) (by kernel_rfl) (fun x=>by kernel_rfl)
theorem fs68:Ok0 68 S_sub_split:=
 fo [(72,S_sub_warmth),(116,S_slices_Clone___int_int_),(118,S_fixed_Rest),(119,S_linear_Rest),(120,S_long_Rest),(121,S_learn_Rest)] [] [0,1,4,5,6,11,22,37,67] [] H68 (a1 fs72 (a1 fs116 (a1 fs118 (a1 fs119 (a1 fs120 (a1 fs121 a0)))))) Tryz.func68 rfl (by kernel_rfl) (by kernel_rfl) (fun x=>by kernel_rfl)
theorem fs178:Ok0 178 S_rice_Best:=
 fo [(167,S_rice_Sum)] [] [0,2,3,4,5,6] [] H178 (a1 fs167 a0) Tryz.func178 rfl (by kernel_rfl) (by kernel_rfl) (fun x=>by kernel_rfl)
theorem fs123:Ok0 123 S_parts_choose:=
 fo [(166,S_parts_raw),(167,S_rice_Sum),(178,S_rice_Best)] [] [0,2,3] [] H123 (a1 fs166 (a1 fs167 (a1 fs178 a0))) Tryz.func123 rfl (by kernel_rfl) (by kernel_rfl) (fun x=>by kernel_rfl)
theorem fs69:Ok0 69 S_parts_Best:=
 fo [(107,S_parts_Cost),(108,S_parts_Sizes),(122,S_parts_right),(123,S_parts_choose)] [(14,.pair (.int .i64) Q1),(40,.pair (.int .i64) Q1)] [0,1,2,3,9,11,12,13,15,17,18] [] H69 (a1 fs107 (a1 fs108 (a1 fs122 (a1 fs123 a0)))) Tryz.func69 rfl (by kernel_rfl) (by kernel_rfl) (fun x=>by kernel_rfl)
theorem fs32:Ok0 32 S_sub_Make:=
 fo [(44,S_sub_allWide),(45,S_sample_Down),(46,S_sample_Wasted),(66,S_sub_fit),(67,S_sub_chosen),(68,S_sub_split),(69,S_parts_Best)] [] [0,1,2,7,8,11,12,13] [5] H32 (a1 fs44 (a1 fs45 (a1 fs46 (a1 fs66 (a1 fs67 (a1 fs68 (a1 fs69 a0))))))) Tryz.func32 rfl (by kernel_rfl) (by kernel_rfl) (fun x=>by kernel_rfl)
theorem fs149:Ok0 149 S_fixed_weigh:=
 fo [] [] [0,1,4,5,6,7] [] H149 a0 Tryz.func149 rfl (by kernel_rfl) (by kernel_rfl) (fun x=>by kernel_rfl)
theorem fs95:Ok0 95 S_fixed_Best:=
 fo [(118,S_fixed_Rest),(149,S_fixed_weigh)] [] [0,2,3,4,5,6,7,8] [] H95 (a1 fs118 (a1 fs149 a0)) Tryz.func95 rfl (by kernel_rfl) (by kernel_rfl) (fun x=>by kernel_rfl)
theorem fs187:Ok0 187 S_linear_clamp:=
 fo [] [] [0,2] [] H187 a0 Tryz.func187 rfl (by kernel_rfl) (by kernel_rfl) (fun x=>by kernel_rfl)
theorem fs185:Ok0 185 S_linear_scaled:=
 fo [(187,S_linear_clamp)] [] [0,2,3,5,6,7,8] [] H185 (a1 fs187 a0) Tryz.func185 rfl (by kernel_rfl) (by kernel_rfl) (fun x=>by kernel_rfl)
theorem fs186:Ok0 186 S_linear_reflection:=
 fo [] [] [0,1,2,6,7,8,9,10] [] H186 a0 Tryz.func186 rfl (by kernel_rfl) (by kernel_rfl) (fun x=>by kernel_rfl)
theorem fs150:Ok0 150 S_linear_Reflect:=
 fo [(116,S_slices_Clone___int_int_),(129,S_linear_allWide),(185,S_linear_scaled),(186,S_linear_reflection),(187,S_linear_clamp)] [] [0,1,4,5,6,7,8,9,10,11,12,13] [] H150 (a1 fs116 (a1 fs129 (a1 fs185 (a1 fs186 (a1 fs187 a0))))) Tryz.func150 rfl (by kernel_rfl) (by kernel_rfl) (fun x=>by kernel_rfl)
theorem fs151:Ok0 151 S_linear_Climb:=
 fo [] [] [0,2,3,5,6,7,8,9,10,11] [] H151 a0 Tryz.func151 rfl (by kernel_rfl) (by kernel_rfl) (fun x=>by kernel_rfl)
theorem fs152:Ok0 152 S_linear_Round:=
 fo [(106,S_sample_Fits)] [] [0,1,4,5,6,8,9,10,11,13,14] [] H152 (a1 fs106 a0) Tryz.func152 rfl (by kernel_rfl) (by kernel_rfl) (fun x=>by kernel_rfl)
theorem fs97:Ok0 97 S_linear_Find:=
 fo [(150,S_linear_Reflect),(151,S_linear_Climb),(152,S_linear_Round)] [] [0,1,2,6,7,8,9,10,11] [] H97 (a1 fs150 (a1 fs151 (a1 fs152 a0))) Tryz.func97 rfl (by kernel_rfl) (by kernel_rfl) (fun x=>by kernel_rfl)
theorem fs153:Ok0 153 S_long_Find:=
 fo [(132,S_long_allWide)] [] [0,1,2,6,7,8,9,10,11,12,13] [] H153 (a1 fs132 a0) Tryz.func153 rfl (by kernel_rfl) (by kernel_rfl) (fun x=>by kernel_rfl)
theorem fs188:Ok0 188 S_long_Table:=
 fo [] [] [0] [] H188 a0 Tryz.func188 rfl (by kernel_rfl) (by kernel_rfl) (fun x=>by kernel_rfl)
theorem fs154:Ok0 154 S_long_Tune:=
 fo [(120,S_long_Rest),(188,S_long_Table)] [] [0,1,5,7,8,11,12,13,15] [] H154 (a1 fs120 (a1 fs188 a0)) Tryz.func154 rfl (by kernel_rfl) (by kernel_rfl) (fun x=>by kernel_rfl)
theorem fs98:Ok0 98 S_sub_lagged:=
 fo [(97,S_linear_Find),(120,S_long_Rest),(153,S_long_Find),(154,S_long_Tune)] [] [0,3,4,5,7,8,9] [] H98 (a1 fs97 (a1 fs120 (a1 fs153 (a1 fs154 a0)))) Tryz.func98 rfl (by kernel_rfl) (by kernel_rfl) (fun x=>by kernel_rfl)
theorem fs96:Ok0 96 S_sub_candidates_1:=
 fo [(97,S_linear_Find)] [] [0,1,2,3,6,7,8] [] H96 (a1 fs97 a0) Tryz.func96 rfl (by kernel_rfl) (by kernel_rfl) (fun x=>by kernel_rfl)
theorem fs47:Ok0 47 S_sub_candidates:=
 fo [(95,S_fixed_Best),(96,S_sub_candidates_1),(98,S_sub_lagged)] [(5,.list true Q28)] [0,1,4,6,8,9] [67] H47 (a1 fs95 (a1 fs96 (a1 fs98 a0))) Tryz.func47 rfl (by kernel_rfl) (by kernel_rfl) (fun x=>by kernel_rfl)
theorem fs18:Ok0 18 S_sub_Best:=
 fo [(15,S_sub_Cost),(32,S_sub_Make),(44,S_sub_allWide),(45,S_sample_Down),(46,S_sample_Wasted),(47,S_sub_candidates)] [] [0,1,5,6,7,9,10,14,15] [] H18 (a1 fs15 (a1 fs32 (a1 fs44 (a1 fs45 (a1 fs46 (a1 fs47 a0)))))) Tryz.func18 rfl (by kernel_rfl) (by kernel_rfl) (fun x=>by kernel_rfl)
theorem fs10:Ok0 10 S_l15_known:=
 fo [(12,S_sub_Row),(15,S_sub_Cost),(17,S_r2_SameInts),(18,S_sub_Best),(32,S_sub_Make)] [] [0,2,3,4,6] [] H10 (a1 fs12 (a1 fs15 (a1 fs17 (a1 fs18 (a1 fs32 a0))))) Tryz.func10 rfl (by kernel_rfl) (by kernel_rfl) (fun x=>by kernel_rfl)
theorem fs11:Ok0 11 S_l15_Small:=
 fo [] [] [0,1,4] [2] H11 a0 Tryz.func11 rfl (by kernel_rfl) (by kernel_rfl) (fun x=>by kernel_rfl)
theorem fs52:Ok0 52 S_r14_SameStages:=
 fo [] [] [0,1,4,5] [] H52 a0 Tryz.func52 rfl (by kernel_rfl) (by kernel_rfl) (fun x=>by kernel_rfl)
theorem fs53:Ok0 53 S_r8_SameParts:=
 fo [(17,S_r2_SameInts)] [] [0,1,4] [2,3] H53 (a1 fs17 a0) Tryz.func53 rfl (by kernel_rfl) (by kernel_rfl) (fun x=>by kernel_rfl)
theorem fs20:Ok0 20 S_r19_SameSub:=
 fo [(17,S_r2_SameInts),(52,S_r14_SameStages),(53,S_r8_SameParts)] [] [0,1,4] [2,3] H20 (a1 fs17 (a1 fs52 (a1 fs53 a0))) Tryz.func20 rfl (by kernel_rfl) (by kernel_rfl) (fun x=>by kernel_rfl)
theorem fs30:Ok0 30 S_bits_Writer_Bytes:=
 fo [] [] [0,2] [] H30 a0 Tryz.func30 rfl (by kernel_rfl) (by kernel_rfl) (fun x=>by kernel_rfl)
theorem fs33:Ok0 33 S_bits_New:=
 fo [] [] [0,2] [] H33 a0 Tryz.func33 rfl (by kernel_rfl) (by kernel_rfl) (fun x=>by kernel_rfl)
theorem fs70:Ok0 70 S_bits_Reader_Err:=
 fo [] [] [0,2] [] H70 a0 Tryz.func70 rfl (by kernel_rfl) (by kernel_rfl) (fun x=>by kernel_rfl)
theorem fs75:Ok0 75 S_bits_Reader_Left:=
 fo [] [] [0,2] [] H75 a0 Tryz.func75 rfl (by kernel_rfl) (by kernel_rfl) (fun x=>by kernel_rfl)
theorem fs76:Ok0 76 S_bits_Reader_look:=
 fo [] [] [0,1,4] [] H76 a0 Tryz.func76 rfl (by kernel_rfl) (by kernel_rfl) (fun x=>by kernel_rfl)
theorem fs35:Ok0 35 S_bits_Reader_Get:=
 fo [(75,S_bits_Reader_Left),(76,S_bits_Reader_look)] [] [0,1,4,5] [] H35 (a1 fs75 (a1 fs76 a0)) Tryz.func35 rfl (by kernel_rfl) (by kernel_rfl) (fun x=>by kernel_rfl)
theorem fs73:Ok0 73 S_bits_Reader_Signed:=
 fo [(35,S_bits_Reader_Get)] [] [0,1,4,5] [] H73 (a1 fs35 a0) Tryz.func73 rfl (by kernel_rfl) (by kernel_rfl) (fun x=>by kernel_rfl)
theorem fs124:Ok0 124 S_sub_getCoefs:=
 fo [(35,S_bits_Reader_Get),(56,S_sample_Width),(73,S_bits_Reader_Signed)] [] [0,1,4,5,6] [] H124 (a1 fs35 (a1 fs56 (a1 fs73 a0))) Tryz.func124 rfl (by kernel_rfl) (by kernel_rfl) (fun x=>by kernel_rfl)
theorem fs71:Ok0 71 S_sub_getHead:=
 fo [(35,S_bits_Reader_Get),(73,S_bits_Reader_Signed),(124,S_sub_getCoefs)] [(2,.pair (.int .i64) Q25)] [0,3,4,5,6,7,21,23,25,27] [] H71 (a1 fs35 (a1 fs73 (a1 fs124 a0))) Tryz.func71 rfl (by kernel_rfl) (by kernel_rfl) (fun x=>by kernel_rfl)
theorem fs202:Ok0 202 S_bits_Reader_Unary:=
 fo [(76,S_bits_Reader_look)] [] [0,1,4,5,6] [] H202 (a1 fs76 a0) Tryz.func202 rfl (by kernel_rfl) (by kernel_rfl) (fun x=>by kernel_rfl)
theorem fs203:Ok0 203 S_rice_Unfold:=
 fo [] [] [0,2,3,6] [] H203 a0 Tryz.func203 rfl (by kernel_rfl) (by kernel_rfl) (fun x=>by kernel_rfl)
theorem fs197:Ok0 197 S_rice_one:=
 fo [(35,S_bits_Reader_Get),(70,S_bits_Reader_Err),(202,S_bits_Reader_Unary),(203,S_rice_Unfold)] [] [0,1,4,5,6,7,8] [] H197 (a1 fs35 (a1 fs70 (a1 fs202 (a1 fs203 a0)))) Tryz.func197 rfl (by kernel_rfl) (by kernel_rfl) (fun x=>by kernel_rfl)
theorem fs179:Ok0 179 S_rice_Get:=
 fo [(70,S_bits_Reader_Err),(168,S_rice_parameter),(197,S_rice_one)] [] [0,1,2,6,7,8,9,10] [] H179 (a1 fs70 (a1 fs168 (a1 fs197 a0))) Tryz.func179 rfl (by kernel_rfl) (by kernel_rfl) (fun x=>by kernel_rfl)
theorem fs126:Ok0 126 S_parts_one:=
 fo [(35,S_bits_Reader_Get),(56,S_sample_Width),(70,S_bits_Reader_Err),(73,S_bits_Reader_Signed),(179,S_rice_Get)] [] [0,1,4,5,6,7,8,9,10,11] [] H126 (a1 fs35 (a1 fs56 (a1 fs70 (a1 fs73 (a1 fs179 a0))))) Tryz.func126 rfl (by kernel_rfl) (by kernel_rfl) (fun x=>by kernel_rfl)
theorem fs74:Ok0 74 S_parts_Get:=
 fo [(35,S_bits_Reader_Get),(70,S_bits_Reader_Err),(108,S_parts_Sizes),(125,S_parts_row),(126,S_parts_one)] [(11,.pair (.int .i64) Q1),(41,.pair (.int .i64) Q1)] [0,1,2,7,8,9,10,12,14,15,16,17] [] H74 (a1 fs35 (a1 fs70 (a1 fs108 (a1 fs125 (a1 fs126 a0))))) Tryz.func74 rfl (by kernel_rfl) (by kernel_rfl) (fun x=>by kernel_rfl)
theorem fs34:Ok0 34 S_sub_Get:=
 fo [(14,S_sub_May),(56,S_sample_Width),(59,S_sub_rested),(66,S_sub_fit),(70,S_bits_Reader_Err),(71,S_sub_getHead),(72,S_sub_warmth),(73,S_bits_Reader_Signed),(74,S_parts_Get)] [(7,.pair (.int .i64) (.pair (.int .i64) (.pair (.int .i64) (.pair (.int .i64) (.pair (.int .i64) (.pair (.list false (.int .i64)) (.pair (.arr 3 (.int .i64)) (.pair (.list false Q3) Q11))))))))] [0,1,5,6,8,9,10,11,12] [] H34 (a1 fs14 (a1 fs56 (a1 fs59 (a1 fs66 (a1 fs70 (a1 fs71 (a1 fs72 (a1 fs73 (a1 fs74 a0))))))))) Tryz.func34 rfl (by kernel_rfl) (by kernel_rfl) (fun x=>by kernel_rfl)
theorem fs8:Ok0 8 S_l15_SubKinds:=
 fo [(10,S_l15_known),(11,S_l15_Small),(12,S_sub_Row),(17,S_r2_SameInts),(20,S_r19_SameSub),(25,S_sub_Put),(30,S_bits_Writer_Bytes),(32,S_sub_Make),(33,S_bits_New),(34,S_sub_Get)] [(47,.pair (.list true (.int .u8)) Q0),(48,.pair (.list true (.int .u8)) Q0)] [0,1,2,6,8,9,10,11,12,13,15,16,17] [5] H8 (a1 fs10 (a1 fs11 (a1 fs12 (a1 fs17 (a1 fs20 (a1 fs25 (a1 fs30 (a1 fs32 (a1 fs33 (a1 fs34 a0)))))))))) Tryz.func8 rfl (by kernel_rfl) (by kernel_rfl) (fun x=>by kernel_rfl)
end Go.Ab
namespace Go.Ab
section
variable {σ β:Type} {f:σ→Option (σ ⊕ β)}
theorem iterN_more:∀ (n m:Nat) (s:σ) {b:β},iterN f n s=some b→iterN f (n+m) s=some b
 |0,_,s,b,h=>by simp [iterN] at h
 |n+1,m,s,b,h=>by
  rw [show n+1+m=n+m+1 from by omega]
  simp only [iterN] at h ⊢
  split at h
  ·cases h
  ·rename_i s' hs
   exact iterN_more n m s' h
  ·exact h
theorem iterN_det {n m:Nat} {s:σ} {b b':β} (h:iterN f n s=some b) (h':iterN f m s=some b'):b=b':=by
 have h1:=iterN_more n m s h
 have h2:=iterN_more m n s h'
 rw [Nat.add_comm,h1] at h2
 exact Option.some.inj h2
theorem iterC_of {n:Nat} {s:σ} {b:β} (h:iterN f n s=some b):iterC f s=some b:=by
 unfold iterC
 have hx:∃ n b,iterN f n s=some b:=⟨n,b,h⟩
 rw [dif_pos hx]
 exact congrArg some (iterN_det hx.choose_spec.choose_spec h)
theorem iter_of {n:Nat} {s:σ} {b:β} (h:iterN f n s=some b):iter f s=some b:=by
 unfold iter
 split
 ·rename_i b' hb
  rw [iterN_det hb h]
 ·exact iterC_of h
theorem iter_none {s:σ} (h:∀ n,iterN f n s=none):iter f s=none:=by
 unfold iter
 rw [h 400]
 show iterC f s=none
 unfold iterC
 rw [dif_neg]
 rintro ⟨n,b,hn⟩
 rw [h n] at hn;cases hn
theorem iter_done {s:σ} {b:β} (h:f s=some (.inr b)):iter f s=some b:=iter_of (n:=1) (by simp [iterN,h])
theorem iter_step {s s':σ} (h:f s=some (.inl s')):iter f s=iter f s':=by
 by_cases hx:∃ n b,iterN f n s'=some b
 ·obtain ⟨n,b,hb⟩:=hx
  rw [iter_of hb]
  exact iter_of (n:=n+1) (by simp [iterN,h,hb])
 ·have h':∀ n,iterN f n s'=none:=fun n=>by
   cases hn:iterN f n s' with
   |none=>rfl
   |some b=>exact absurd ⟨n,b,hn⟩ hx
  rw [iter_none h']
  refine iter_none fun n=>?_
  cases n with
  |zero=>rfl
  |succ n=>simp [iterN,h,h' n]
theorem iter_up (S:Nat→σ) (n:Nat) {b:β} (hstep:∀ i,i<n→f (S i)=some (.inl (S (i+1)))) (hexit:f (S n)=some (.inr b)):∀ (k:Nat),k≤n→iter f (S (n-k))=some b
 |0,_=>iter_done hexit
 |k+1,hk=>by
  rw [iter_step (hstep (n-(k+1)) (by omega)),show n-(k+1)+1=n-k from by omega]
  exact iter_up S n hstep hexit k (by omega)
theorem iter_count (S:Nat→σ) (n:Nat) {b:β} (hstep:∀ i,i<n→f (S i)=some (.inl (S (i+1)))) (hexit:f (S n)=some (.inr b)):iter f (S 0)=some b:=by
 have:=iter_up S n hstep hexit n (Nat.le_refl _)
 rwa [Nat.sub_self] at this
end
theorem wrap64 {n:Int} (h:-9223372036854775808≤n∧n≤9223372036854775807):IntKind.wrap .i64 n=n:=by
 simp only [IntKind.wrap,IntKind.bits,IntKind.signed]
 simp
 split<;>omega
theorem wrapu64 {n:Int} (h:0≤n∧n<18446744073709551616):IntKind.wrap .u64 n=n:=by
 simp only [IntKind.wrap,IntKind.bits,IntKind.signed]
 simp
 omega
theorem wrapu8 (n:Int):IntKind.wrap .u8 n=n%256:=by
 simp [IntKind.wrap,IntKind.bits,IntKind.signed]
theorem imin_eq (x y:Int):imin x y=min x y:=by
 simp only [imin,cond_eq_ite,decide_eq_true_eq]
 split<;>omega
theorem imax_eq (x y:Int):imax x y=max x y:=by
 simp only [imax,cond_eq_ite,decide_eq_true_eq]
 split<;>omega
theorem lim_of {n:Nat} (h:n<2147483648):lim n=true:=by simp [lim,h]
end Go.Ab
namespace Go.Ab
section
variable {α A σ β:Type}
def foldE (g:A→α→A ⊕ β):List α→A→A ⊕ β
 | [],a=>.inl a
 |x::r,a=>match g a x with
  |.inl a'=>foldE g r a'
  |.inr b=>.inr b
def endE (fin:A→β):A ⊕ β→β
 |.inl a=>fin a
 |.inr b=>b
theorem iter_list_from {f:σ→Option (σ ⊕ β)} (l:List α) (S:Nat→A→σ) (g:A→α→A ⊕ β) (I:Nat→A→Prop) (fin:A→β)
  (hstep:∀ i (h:i<l.length) a,I i a→(∀ a',g a l[i]=.inl a'→f (S i a)=some (.inl (S (i+1) a'))∧I (i+1) a')∧(∀ b,g a l[i]=.inr b→f (S i a)=some (.inr b)))
  (hexit:∀ a,I l.length a→f (S l.length a)=some (.inr (fin a))):∀ (k i:Nat) (a:A),i+k=l.length→I i a→iter f (S i a)=some (endE fin (foldE g (l.drop i) a))
 |0,i,a,hi,ha=>by
  obtain rfl:i=l.length:=by omega
  rw [List.drop_length]
  exact iter_done (hexit a ha)
 |k+1,i,a,hi,ha=>by
  have hlt:i<l.length:=by omega
  rw [List.drop_eq_getElem_cons hlt]
  obtain ⟨h1,h2⟩:=hstep i hlt a ha
  simp only [foldE]
  cases hg:g a l[i] with
  |inl a'=>
   obtain ⟨h3,h4⟩:=h1 a' hg
   rw [iter_step h3]
   exact iter_list_from l S g I fin hstep hexit k (i+1) a' (by omega) h4
  |inr b=>exact iter_done (h2 b hg)
theorem iter_list {f:σ→Option (σ ⊕ β)} (l:List α) (S:Nat→A→σ) (g:A→α→A ⊕ β) (I:Nat→A→Prop) (fin:A→β)
  (hstep:∀ i (h:i<l.length) a,I i a→(∀ a',g a l[i]=.inl a'→f (S i a)=some (.inl (S (i+1) a'))∧I (i+1) a')∧(∀ b,g a l[i]=.inr b→f (S i a)=some (.inr b)))
  (hexit:∀ a,I l.length a→f (S l.length a)=some (.inr (fin a))) {a:A} (ha:I 0 a):iter f (S 0 a)=some (endE fin (foldE g l a)):=by
 have:=iter_list_from l S g I fin hstep hexit l.length 0 a (by omega) ha
 rwa [List.drop_zero] at this
theorem iter_all {f:σ→Option (σ ⊕ β)} (l:List α) (S:Nat→σ) (p:α→Bool) {bt bf:β}
  (hgood:∀ i (h:i<l.length),p l[i]=true→f (S i)=some (.inl (S (i+1)))) (hbad:∀ i (h:i<l.length),p l[i]=false→f (S i)=some (.inr bf))
  (hexit:f (S l.length)=some (.inr bt)):iter f (S 0)=some (bif l.all p then bt else bf):=by
 have h:=iter_list (A:=Unit) l (fun i _=>S i) (fun _ x=>bif p x then .inl () else .inr bf) (fun _ _=>True) (fun _=>bt) (fun i h a _=>?_) (fun _ _=>hexit) (a:=()) trivial
 ·rw [h]
  congr 1
  clear h hgood hbad hexit
  induction l with
  |nil=>rfl
  |cons x l ih=>
   simp only [foldE,List.all_cons]
   cases p x with
   |true=>simpa using ih
   |false=>rfl
 ·cases hp:p l[i] with
  |true=>exact ⟨fun a' _=>⟨hgood i h hp,trivial⟩,fun b hb=>by simp [hp] at hb⟩
  |false=>exact ⟨fun a' ha=>by simp [hp] at ha,fun b hb=>by simp [hp] at hb;rw [←hb];exact hbad i h hp⟩
end
theorem gidx_get {α:Type} {l:List α} {i:Nat} (h:i<l.length):gidx l (i:Int)=some l[i]:=by
 unfold gidx
 rw [if_pos (Int.natCast_nonneg i),Int.toNat_natCast,List.getElem?_eq_getElem h]
def wideB (x:Int):Bool:=decide (-1073741824≤x)&&decide (x<1073741824)
theorem wideB_iff {x:Int}:wideB x=true↔-1073741824≤x∧x<1073741824:=by simp [wideB]
def short {α:Type} (l:List α):Prop:=l.length<1000000
theorem wrap_succ {i:Nat} (h:i<1000000):IntKind.wrap .i64 ((i:Int)+1)=((i+1:Nat):Int):=by
 rw [wrap64 (by omega)];omega
theorem dlt {i n:Nat} (h:i<n):decide ((i:Int)<(n:Int))=true:=by simp;omega
theorem dge (n:Nat):decide ((n:Int)<(n:Int))=false:=by simp
theorem sub_allWide_eq {l:List Int} (hl:short l):F_sub_allWide l=some (l.all wideB):=by
 unfold F_sub_allWide
 have:=iter_all (f:=F_sub_allWide_l0) l (fun i=>(l,((l.length:Int),((i:Int),())))) wideB (bt:=Sum.inl ()) (bf:=Sum.inr (false,()))
  (fun i h hp=>by
   have hp:=wideB_iff.1 hp
   have h1:decide (l[i] < -1073741824)=false:=by simp;omega
   have h2:decide (l[i]≥1073741824)=false:=by simp;omega
   simp only [F_sub_allWide_l0,dlt h,cond_true,gidx_get h,Option.bind_some,h1,h2,cond_false,wrap_succ (Nat.lt_trans h hl)])
  (fun i h hp=>by
   simp only [F_sub_allWide_l0,dlt h,cond_true,gidx_get h,Option.bind_some]
   by_cases h1:l[i] < -1073741824
   ·simp [h1]
   ·have h2:l[i]≥1073741824:=by
     simp only [wideB,Bool.and_eq_false_iff,decide_eq_false_iff_not] at hp;omega
    simp [h1,h2])
  (by simp [F_sub_allWide_l0])
 simp only [Int.natCast_zero] at this
 rw [this]
 cases l.all wideB<;>rfl
end Go.Ab
namespace Go.Ab
theorem linear_wide_eq (x:Int):F_linear_wide x=some (wideB x):=by
 unfold F_linear_wide wideB
 by_cases h:-1073741824≤x<;>simp [h]
theorem long_wide_eq (x:Int):F_long_wide x=some (wideB x):=by
 unfold F_long_wide wideB
 by_cases h:-1073741824≤x<;>simp [h]
theorem learn_wide_eq (x:Int):F_learn_wide x=some (wideB x):=by
 unfold F_learn_wide wideB
 by_cases h:-1073741824≤x<;>simp [h]
theorem sample_wide_eq (x:Int):F_sample_wide x=some (wideB x):=by
 unfold F_sample_wide wideB
 by_cases h:-1073741824≤x<;>simp [h]
theorem linear_allWide_eq {l:List Int} (hl:short l):F_linear_allWide l=some (l.all wideB):=by
 unfold F_linear_allWide
 have:=iter_all (f:=F_linear_allWide_l0) l (fun i=>(l,((l.length:Int),((i:Int),())))) wideB (bt:=Sum.inl ()) (bf:=Sum.inr (false,()))
  (fun i h hp=>by simp [F_linear_allWide_l0,gidx_get h,linear_wide_eq,hp,wrap_succ (Nat.lt_trans h hl),h])
  (fun i h hp=>by simp [F_linear_allWide_l0,gidx_get h,linear_wide_eq,hp,h])
  (by simp [F_linear_allWide_l0])
 simp only [Int.natCast_zero] at this
 rw [this]
 cases l.all wideB<;>rfl
theorem long_allWide_eq {l:List Int} (hl:short l):F_long_allWide l=some (l.all wideB):=by
 unfold F_long_allWide
 have:=iter_all (f:=F_long_allWide_l0) l (fun i=>(l,((l.length:Int),((i:Int),())))) wideB (bt:=Sum.inl ()) (bf:=Sum.inr (false,()))
  (fun i h hp=>by simp [F_long_allWide_l0,gidx_get h,long_wide_eq,hp,wrap_succ (Nat.lt_trans h hl),h])
  (fun i h hp=>by simp [F_long_allWide_l0,gidx_get h,long_wide_eq,hp,h])
  (by simp [F_long_allWide_l0])
 simp only [Int.natCast_zero] at this
 rw [this]
 cases l.all wideB<;>rfl
theorem learn_allWide_eq {l:List Int} (hl:short l):F_learn_allWide l=some (l.all wideB):=by
 unfold F_learn_allWide
 have:=iter_all (f:=F_learn_allWide_l0) l (fun i=>(l,((l.length:Int),((i:Int),())))) wideB (bt:=Sum.inl ()) (bf:=Sum.inr (false,()))
  (fun i h hp=>by simp [F_learn_allWide_l0,gidx_get h,learn_wide_eq,hp,wrap_succ (Nat.lt_trans h hl),h])
  (fun i h hp=>by simp [F_learn_allWide_l0,gidx_get h,learn_wide_eq,hp,h])
  (by simp [F_learn_allWide_l0])
 simp only [Int.natCast_zero] at this
 rw [this]
 cases l.all wideB<;>rfl
theorem fixed_wide_eq {l:List Int} (hl:short l):F_fixed_wide l=some (l.all wideB):=by
 have e:F_fixed_wide_l0=F_sub_allWide_l0:=rfl
 have:F_fixed_wide l=F_sub_allWide l:=by unfold F_fixed_wide F_sub_allWide;rw [e]
 rw [this,sub_allWide_eq hl]
def coefB (x:Int):Bool:=decide (-32768≤x)&&decide (x<32768)
def linB (c:List Int) (s:Int):Bool:=decide (1≤c.length)&&(decide (c.length≤32)&&(decide (0≤s)&&(decide (s≤15)&&c.all coefB)))
theorem linear_May_eq {c:List Int} {s:Int} (hl:short c):F_linear_May (c,s)=some (linB c s):=by
 have:=iter_all (f:=F_linear_May_l0) c (fun i=>(c,((c.length:Int),((i:Int),())))) coefB (bt:=Sum.inl ()) (bf:=Sum.inr (false,()))
  (fun i h hp=>by
   simp only [coefB,Bool.and_eq_true,decide_eq_true_eq] at hp
   have h1:¬ c[i] < -32768:=by omega
   have h2:¬ c[i]≥32768:=by omega
   simp [F_linear_May_l0,gidx_get h,wrap_succ (Nat.lt_trans h hl),h,h1,h2])
  (fun i h hp=>by
   simp only [coefB,Bool.and_eq_false_iff,decide_eq_false_iff_not] at hp
   by_cases h1:c[i] < -32768
   ·simp [F_linear_May_l0,gidx_get h,h,h1]
   ·have h2:c[i]≥32768:=by omega
    simp [F_linear_May_l0,gidx_get h,h,h1,h2])
  (by simp [F_linear_May_l0])
 simp only [Int.natCast_zero] at this
 unfold F_linear_May linB
 by_cases h1:c.length<1
 ·have:((c.length:Nat):Int)<1:=by omega
  have:¬ 1≤c.length:=by omega
  simp [*]
 ·by_cases h2:c.length > 32
  ·have:((c.length:Nat):Int) > 32:=by omega
   have:¬ ((c.length:Nat):Int)<1:=by omega
   have:¬ c.length≤32:=by omega
   simp [*]
  ·by_cases h3:s<0
   ·have:¬ ((c.length:Nat):Int) > 32:=by omega
    have:¬ ((c.length:Nat):Int)<1:=by omega
    have:¬ 0≤s:=by omega
    simp [*]
   ·by_cases h4:s > 15
    ·have:¬ ((c.length:Nat):Int) > 32:=by omega
     have:¬ ((c.length:Nat):Int)<1:=by omega
     have:¬ s≤15:=by omega
     simp [*]
    ·have g1:¬ ((c.length:Nat):Int) > 32:=by omega
     have g2:¬ ((c.length:Nat):Int)<1:=by omega
     simp only [g1,g2,h3,h4,decide_false,cond_false,Option.bind_some,this]
     have g3:1≤c.length:=by omega
     have g4:c.length≤32:=by omega
     have g5:0≤s:=by omega
     have g6:s≤15:=by omega
     simp only [g3,g4,g5,g6,decide_true,Bool.true_and]
     cases c.all coefB<;>rfl
def tapB (x:Int):Bool:=decide (-64≤x)&&decide (x≤64)
def longB (lag:Int) (t:List Int):Bool:=decide (2≤lag)&&(decide (lag≤1024)&&t.all tapB)
theorem long_May_eq {t:List Int} {lag:Int} (ht:t.length=3):F_long_May (lag,t)=some (longB lag t):=by
 have:=iter_all (f:=F_long_May_l0) t (fun i=>(t,((i:Int),()))) tapB (bt:=Sum.inl ()) (bf:=Sum.inr (false,()))
  (fun i h hp=>by
   simp only [tapB,Bool.and_eq_true,decide_eq_true_eq] at hp
   have h0:(i:Int)<3:=by omega
   have h1:¬ t[i] < -64:=by omega
   have h2:¬ t[i] > 64:=by omega
   simp [F_long_May_l0,gidx_get h,wrap_succ (show i<1000000 by omega),h0,h1,h2])
  (fun i h hp=>by
   simp only [tapB,Bool.and_eq_false_iff,decide_eq_false_iff_not] at hp
   have h0:(i:Int)<3:=by omega
   by_cases h1:t[i] < -64
   ·simp [F_long_May_l0,gidx_get h,h0,h1]
   ·have h2:t[i] > 64:=by omega
    simp [F_long_May_l0,gidx_get h,h0,h1,h2])
  (by rw [ht];simp [F_long_May_l0])
 simp only [Int.natCast_zero] at this
 unfold F_long_May longB
 by_cases h1:lag<2
 ·have:¬ 2≤lag:=by omega
  simp [*]
 ·by_cases h2:lag > 1024
  ·have:¬ lag≤1024:=by omega
   simp [*]
  ·have g1:2≤lag:=by omega
   have g2:lag≤1024:=by omega
   simp only [h1,h2,g1,g2,decide_false,decide_true,cond_false,Option.bind_some,this,Bool.true_and]
   cases t.all tapB<;>rfl
def stageB (s:Int×(Int×Unit)):Bool:=decide (1≤s.1)&&(decide (s.1≤32)&&(decide (0≤s.2.1)&&decide (s.2.1≤8)))
def learnB (l:List (Int×(Int×Unit))):Bool:=decide (l.length≤3)&&l.all stageB
theorem learn_valid_eq (s:Int×(Int×Unit)):F_learn_valid s=some (stageB s):=by
 unfold F_learn_valid stageB
 by_cases h1:1≤s.1<;>by_cases h2:s.1≤32<;>by_cases h3:0≤s.2.1<;>simp [h1,h2,h3]
theorem learn_May_eq {l:List (Int×(Int×Unit))} (hl:short l):F_learn_May l=some (learnB l):=by
 have:=iter_all (f:=F_learn_May_l0) l (fun i=>(l,((l.length:Int),((i:Int),())))) stageB (bt:=Sum.inl ()) (bf:=Sum.inr (false,()))
  (fun i h hp=>by simp [F_learn_May_l0,gidx_get h,learn_valid_eq,hp,wrap_succ (Nat.lt_trans h hl),h])
  (fun i h hp=>by simp [F_learn_May_l0,gidx_get h,learn_valid_eq,hp,h])
  (by simp [F_learn_May_l0])
 simp only [Int.natCast_zero] at this
 unfold F_learn_May learnB
 by_cases h:l.length≤3
 ·have g:¬ ((l.length:Nat):Int) > 3:=by omega
  simp only [g,h,decide_false,decide_true,cond_false,this,Option.bind_some,Bool.true_and]
  cases l.all stageB<;>rfl
 ·have g:((l.length:Nat):Int) > 3:=by omega
  simp [g,h]
end Go.Ab
namespace Go.Ab
@[reducible] def W (n:Int):Int:=IntKind.wrap .i64 n
theorem wrap_bmod (n:Int):IntKind.wrap .i64 n=Int.bmod n 18446744073709551616:=by
 simp only [IntKind.wrap,IntKind.bits,IntKind.signed,Int.bmod]
 simp
 split<;>split<;>omega
theorem W_of_wide {n:Int} (h:wideB n=true):W n=n:=by
 have:=wideB_iff.1 h
 exact wrap64 (by omega)
def backO (guess:List Int→Int):List Int→List Int→Option (List Int)
 | [],out=>some out
 |x::r,out=>bif wideB (W (x+guess out)) then backO guess r (out++[W (x+guess out)]) else none
def stepB {β:Type} (guess:List Int→Int) (bad:β) (out:List Int) (x:Int):List Int ⊕ β:=bif wideB (W (x+guess out)) then .inl (out++[W (x+guess out)]) else .inr bad
theorem endE_stepB {β:Type} (guess:List Int→Int) (bad:β) (fin:List Int→β):∀ (l out:List Int),endE fin (foldE (stepB guess bad) l out)=match backO guess l out with|some r=>fin r|none=>bad
 | [],out=>rfl
 |x::l,out=>by
  simp only [foldE,stepB,backO]
  cases wideB (W (x+guess out)) with
  |true=>exact endE_stepB guess bad fin l _
  |false=>rfl
theorem backO_wide (guess:List Int→Int):∀ (l out r:List Int),out.all wideB=true→backO guess l out=some r→r.all wideB=true∧r.length=out.length+l.length
 | [],out,r,h,e=>by simp only [backO,sj] at e;subst e;exact ⟨h,by simp⟩
 |x::l,out,r,h,e=>by
  simp only [backO] at e
  cases hw:wideB (W (x+guess out)) with
  |true=>
   rw [hw] at e
   obtain ⟨h1,h2⟩:=backO_wide guess l _ r (by simp [h,hw]) e
   exact ⟨h1,by rw [h2];simp;omega⟩
  |false=>rw [hw] at e;cases e
def resB:Option (List Int)→List Int×Int
 |some r=>(r,0)
 |none=>([],6)
def atB (out:List Int) (i:Nat):Int:=out.getD (out.length-i) 0
def fixG (o:Nat) (out:List Int):Int:=match o with
 | 1=>atB out 1
 | 2=>2*atB out 1-atB out 2
 | 3=>3*atB out 1-3*atB out 2+atB out 3
 | 4=>4*atB out 1-6*atB out 2+4*atB out 3-atB out 4
 |_=>0
theorem guess_1_eq {out:List Int} {i:Nat} (hi:1≤i) (h:i≤out.length) (hs:short out):F_fixed_guess_1 ((i:Int),out)=some (atB out i,out):=by
 unfold F_fixed_guess_1
 have hs:out.length<1000000:=hs
 have e:IntKind.wrap .i64 (((out.length:Nat):Int)-(i:Int))=((out.length-i:Nat):Int):=by rw [wrap64 (by omega)];omega
 simp only [e,gidx_get (show out.length-i<out.length by omega),Option.bind_some,atB]
 rw [List.getD_eq_getElem?_getD,List.getElem?_eq_getElem (by omega)]
 rfl
theorem fixed_guess_eq {out:List Int} {o:Nat} (ho:o≤4) (h:o≤out.length) (hs:short out):∃ g,F_fixed_guess (out,(o:Int))=some g∧∀ x,W (x+g)=W (x+fixG o out):=by
 have g1:=fun (h':1≤out.length)=>guess_1_eq (i:=1) (by omega) h' hs
 have g2:=fun (h':2≤out.length)=>guess_1_eq (i:=2) (by omega) h' hs
 have g3:=fun (h':3≤out.length)=>guess_1_eq (i:=3) (by omega) h' hs
 have g4:=fun (h':4≤out.length)=>guess_1_eq (i:=4) (by omega) h' hs
 simp only [Int.natCast_one,Int.cast_ofNat_Int] at g1 g2 g3 g4
 unfold F_fixed_guess
 have h5:o=0∨o=1∨o=2∨o=3∨o=4:=by omega
 rcases h5 with rfl|rfl|rfl|rfl|rfl
 ·exact ⟨0,rfl,fun x=>rfl⟩
 ·exact ⟨_,by simp [g1 (by omega)];rfl,fun x=>rfl⟩
 ·refine ⟨_,by simp [g1 (by omega),g2 (by omega)];rfl,fun x=>?_⟩
  simp only [W,wrap_bmod,fixG,Int.add_bmod_bmod,Int.sub_bmod_bmod,Int.bmod_sub_bmod]
 ·refine ⟨_,by simp [g1 (by omega),g2 (by omega),g3 (by omega)];rfl,fun x=>?_⟩
  simp only [W,wrap_bmod,fixG,Int.add_bmod_bmod,Int.sub_bmod_bmod,Int.bmod_sub_bmod,Int.bmod_add_bmod]
 ·refine ⟨_,by simp [g1 (by omega),g2 (by omega),g3 (by omega),g4 (by omega)];rfl,fun x=>?_⟩
  simp only [W,wrap_bmod,fixG,Int.add_bmod_bmod,Int.sub_bmod_bmod,Int.bmod_sub_bmod,Int.bmod_add_bmod]
theorem lim_short {n:Nat} (h:n<1000000):lim n=true:=lim_of (by omega)
theorem fixed_Back_eq {warm rest:List Int} {o:Nat} (ho:o≤4) (hw:warm.length=o) (hr:rest.length<100000):
  F_fixed_Back (warm,(rest,(o:Int)))=some (resB (bif warm.all wideB&&rest.all wideB then backO (fixG o) rest warm else none)):=by
 have hsw:short warm:=by unfold short;omega
 have hsr:short rest:=by unfold short;omega
 unfold F_fixed_Back
 have h1:¬ (o:Int)<0:=by omega
 have h2:¬ (o:Int) > 4:=by omega
 have h3:(((warm.length:Nat):Int) != (o:Int))=false:=by simp;omega
 simp only [h1,h2,h3,decide_false,cond_false,Option.bind_some,fixed_wide_eq hsw,fixed_wide_eq hsr]
 cases hw1:warm.all wideB with
 |false=>rfl
 |true=>
  simp only [Bool.not_true,cond_false,Option.bind_some,Bool.true_and]
  cases hw2:rest.all wideB with
  |false=>rfl
  |true=>
   simp only [Bool.not_true,cond_false,cond_true,lim_short hsw]
   have:=iter_list (f:=F_fixed_Back_l0) rest (fun i out=>((o:Int),(rest,((rest.length:Int),((i:Int),(out,())))))) (stepB (fixG o) (Sum.inr ((6:Int),(([]:List Int),()))))
    (fun i out=>o≤out.length∧out.length≤o+i) (fun out=>Sum.inl (out,()))
    (fun i h out hI=>by
     have hlt:i<1000000:=by omega
     have hso:short out:=by unfold short;omega
     obtain ⟨g,hg,hgw⟩:=fixed_guess_eq ho hI.1 hso
     have e:IntKind.wrap .i64 (rest[i]+g)=W (rest[i]+fixG o out):=hgw _
     have hone:F_fixed_wide [W (rest[i]+fixG o out)]=some (wideB (W (rest[i]+fixG o out))):=by rw [fixed_wide_eq (by simp [short])];simp
     simp only [F_fixed_Back_l0,dlt h,cond_true,gidx_get h,Option.bind_some,hg,e,hone,stepB]
     cases hb:wideB (W (rest[i]+fixG o out)) with
     |true=>
      simp only [cond_true,Bool.not_true,cond_false,lim_short (show out.length+1<1000000 by omega),wrap_succ hlt]
      refine ⟨fun a' ha=>?_,fun b hb=>(by cases hb)⟩
      simp only [Sum.inl.injEq] at ha
      subst ha
      exact ⟨rfl,by simp;omega,by simp;omega⟩
     |false=>
      refine ⟨fun a' ha=>(by cases ha),fun b hb=>?_⟩
      simp only [cond_false,Sum.inr.injEq] at hb
      subst hb
      rfl)
    (fun out _=>by simp [F_fixed_Back_l0]) (a:=warm) ⟨by omega,by omega⟩
   simp only [Int.natCast_zero,endE_stepB] at this
   rw [this]
   cases backO (fixG o) rest warm<;>rfl
end Go.Ab
namespace Go.Ab
def dotA (out:List Int):List Int→Nat→Int→Int
 | [],_,acc=>acc
 |c::r,i,acc=>bif decide (i<out.length) then dotA out r (i+1) (W (acc+W (c*atB out (i+1)))) else acc
def linG (c:List Int) (s:Int) (out:List Int):Int:=gshr .i64 (dotA out c 0 0) s
theorem at_get {out:List Int} {i:Nat} (h:i<out.length) (hs:short out):gidx out (IntKind.wrap .i64 (IntKind.wrap .i64 (((out.length:Nat):Int)-1)-(i:Int)))=some (atB out (i+1)):=by
 have hs:out.length<1000000:=hs
 have e1:IntKind.wrap .i64 (((out.length:Nat):Int)-1)=((out.length-1:Nat):Int):=by rw [wrap64 (by omega)];omega
 have e2:IntKind.wrap .i64 (((out.length-1:Nat):Int)-(i:Int))=((out.length-(i+1):Nat):Int):=by rw [wrap64 (by omega)];omega
 rw [e1,e2,gidx_get (show out.length-(i+1)<out.length by omega),atB,List.getD_eq_getElem?_getD,List.getElem?_eq_getElem (by omega)]
 rfl
theorem predict_from {out c:List Int} {s:Int} (hs:short out) (hc:short c):∀ (k i:Nat) (acc:Int),i+k=c.length→
  iter F_linear_predict_l0 (out,(s,(acc,(c,((c.length:Int),((i:Int),()))))))=some (s,(dotA out (c.drop i) i acc,()))
 |0,i,acc,h=>by
  obtain rfl:i=c.length:=by omega
  rw [List.drop_length]
  exact iter_done (by simp [F_linear_predict_l0,dotA])
 |k+1,i,acc,h=>by
  have hlt:i<c.length:=by omega
  have hs':out.length<1000000:=hs
  have hc':c.length<1000000:=hc
  rw [List.drop_eq_getElem_cons hlt,dotA]
  have e1:IntKind.wrap .i64 (((out.length:Nat):Int)-1)=((out.length:Nat):Int)-1:=wrap64 (by omega)
  have e2:IntKind.wrap .i64 (((out.length:Nat):Int)-1-(i:Int))=((out.length:Nat):Int)-1-(i:Int):=wrap64 (by omega)
  by_cases hi:i<out.length
  ·have hd:decide (IntKind.wrap .i64 (IntKind.wrap .i64 (((out.length:Nat):Int)-1)-(i:Int))<0)=false:=by rw [e1,e2];simp;omega
   simp only [hi,decide_true,cond_true]
   rw [iter_step (s':=(out,(s,(W (acc+W (c[i]*atB out (i+1))),(c,((c.length:Int),(((i+1:Nat):Int),()))))))) (by
    simp only [F_linear_predict_l0,dlt hlt,cond_true,gidx_get hlt,Option.bind_some,hd,cond_false,at_get hi hs,wrap_succ (show i<1000000 by omega)])]
   exact predict_from hs hc k (i+1) _ (by omega)
  ·have hd:decide (IntKind.wrap .i64 (IntKind.wrap .i64 (((out.length:Nat):Int)-1)-(i:Int))<0)=true:=by rw [e1,e2];simp;omega
   simp only [hi,decide_false,cond_false]
   exact iter_done (by simp only [F_linear_predict_l0,dlt hlt,cond_true,gidx_get hlt,Option.bind_some,hd])
theorem predict_eq {out c:List Int} {s:Int} (hs:short out) (hc:short c) (h0:0≤s):F_linear_predict (out,(c,s))=some (linG c s out):=by
 have:=predict_from (s:=s) hs hc c.length 0 0 (by omega)
 simp only [Int.natCast_zero,List.drop_zero] at this
 unfold F_linear_predict
 simp only [this,Option.bind_some]
 have:¬ s<0:=by omega
 simp [this,linG]
def linO (warm rest c:List Int) (s:Int):Option (List Int):=bif warm.all wideB&&rest.all wideB then backO (linG c s) rest warm else none
theorem linear_Back_eq {warm rest c:List Int} {s:Int} (hl:linB c s=true) (hw:warm.length=c.length) (hr:rest.length<100000):
  F_linear_Back (warm,(rest,(c,s)))=some (resB (linO warm rest c s)):=by
 have hl':=hl
 simp only [linB,Bool.and_eq_true,decide_eq_true_eq] at hl'
 have hsc:short c:=by unfold short;omega
 have hsw:short warm:=by unfold short;omega
 have hsr:short rest:=by unfold short;omega
 unfold F_linear_Back
 have h3:(((warm.length:Nat):Int) != ((c.length:Nat):Int))=false:=by simp;omega
 simp only [linear_May_eq hsc,hl,Option.bind_some,Bool.not_true,cond_false,h3,linear_allWide_eq hsw,linear_allWide_eq hsr,linO]
 cases hw1:warm.all wideB with
 |false=>rfl
 |true=>
  simp only [Bool.not_true,cond_false,Option.bind_some,Bool.true_and]
  cases hw2:rest.all wideB with
  |false=>rfl
  |true=>
   have e1:IntKind.wrap .i64 (((warm.length:Nat):Int)+((rest.length:Nat):Int))=((warm.length+rest.length:Nat):Int):=by rw [wrap64 (by omega)];omega
   have h4:(0:Int)≤((warm.length+rest.length:Nat):Int):=by omega
   simp only [Bool.not_true,cond_false,cond_true,e1,h4,decide_true,Int.toNat_natCast,lim_short (show warm.length+rest.length<1000000 by omega),lim_short (show 0+warm.length<1000000 by omega),Bool.and_self,List.append_eq,List.nil_append]
   have:=iter_list (f:=F_linear_Back_l0) rest (fun i out=>(c,(s,(rest,((rest.length:Int),((i:Int),(out,()))))))) (stepB (linG c s) (Sum.inr ((6:Int),(([]:List Int),()))))
    (fun i out=>out.length≤warm.length+i) (fun out=>Sum.inl (out,()))
    (fun i h out hI=>by
     have hlt:i<1000000:=by omega
     have hso:short out:=by unfold short;omega
     have e:IntKind.wrap .i64 (linG c s out+rest[i])=W (rest[i]+linG c s out):=by rw [Int.add_comm]
     simp only [F_linear_Back_l0,dlt h,cond_true,gidx_get h,Option.bind_some,predict_eq hso hsc hl'.2.2.1,e,linear_wide_eq,stepB]
     cases hb:wideB (W (rest[i]+linG c s out)) with
     |true=>
      simp only [cond_true,Bool.not_true,cond_false,lim_short (show out.length+1<1000000 by omega),wrap_succ hlt]
      refine ⟨fun a' ha=>?_,fun b hb=>(by cases hb)⟩
      simp only [Sum.inl.injEq] at ha
      subst ha
      exact ⟨rfl,by simp;omega⟩
     |false=>
      refine ⟨fun a' ha=>(by cases ha),fun b hb=>?_⟩
      simp only [cond_false,Sum.inr.injEq] at hb
      subst hb
      rfl)
    (fun out _=>by simp [F_linear_Back_l0]) (a:=warm) (by omega)
   simp only [Int.natCast_zero,endE_stepB] at this
   rw [this]
   cases backO (linG c s) rest warm<;>rfl
end Go.Ab
namespace Go.Ab
def lsum (out:List Int) (lag:Int):List Int→Nat→Int→Int
 | [],_,acc=>acc
 |t::r,i,acc=>lsum out lag r (i+1) (bif decide (0≤(out.length:Int)-lag-1+i) then W (acc+W (t*out.getD ((out.length:Int)-lag-1+i).toNat 0)) else acc)
def longG (lag:Int) (t:List Int) (out:List Int):Int:=gshr .i64 (lsum out lag t 0 0) 6
theorem gidx_pos {out:List Int} {j:Int} (h0:0≤j) (h:j<out.length):gidx out j=some (out.getD j.toNat 0):=by
 obtain ⟨n,rfl⟩:=Int.eq_ofNat_of_zero_le h0
 have hn:n<out.length:=by omega
 rw [gidx_get hn,Int.toNat_natCast,List.getD_eq_getElem?_getD,List.getElem?_eq_getElem hn]
 rfl
theorem at_wrap {n i:Nat} {lag:Int} (h1:2≤lag) (h2:lag≤1024) (hn:n<1000000) (hi:i<3):
  IntKind.wrap .i64 (IntKind.wrap .i64 (IntKind.wrap .i64 ((n:Int)-lag)-1)+(i:Int))=(n:Int)-lag-1+i:=by
 rw [wrap64 (n:=(n:Int)-lag) (by omega),wrap64 (n:=(n:Int)-lag-1) (by omega),wrap64 (by omega)]
theorem take_getD {l:List Int} {n j:Nat} (h:j<n):(l.take n).getD j 0=l.getD j 0:=by
 simp only [List.getD_eq_getElem?_getD,List.getElem?_take,h,if_true]
theorem long_predict_from {l t:List Int} {lag:Int} {n:Nat} (hn:n≤l.length) (hs:short l) (ht:t.length=3) (h1:2≤lag) (h2:lag≤1024):∀ (k i:Nat) (acc:Int),i+k=3→
  iter F_long_predict_l0 (l,((n:Int),(lag,(acc,(t,((i:Int),()))))))=some (lsum (l.take n) lag (t.drop i) i acc,())
 |0,i,acc,h=>by
  obtain rfl:i=t.length:=by omega
  rw [List.drop_length]
  exact iter_done (by rw [ht];simp [F_long_predict_l0,lsum])
 |k+1,i,acc,h=>by
  have hlt:i<t.length:=by omega
  have hi3:decide ((i:Int)<3)=true:=by simp;omega
  have hs':l.length<1000000:=hs
  have hln:(l.take n).length=n:=by rw [List.length_take];omega
  have e:=at_wrap (n:=n) (i:=i) h1 h2 (by omega) (by omega)
  rw [List.drop_eq_getElem_cons hlt,lsum,hln]
  by_cases hp:0≤(n:Int)-lag-1+i
  ·have hd:decide ((n:Int)-lag-1+i≥0)=true:=by simp;omega
   simp only [hp,decide_true,cond_true]
   rw [take_getD (show ((n:Int)-lag-1+i).toNat<n by omega),iter_step (s':=(l,((n:Int),(lag,(W (acc+W (t[i]*l.getD ((n:Int)-lag-1+i).toNat 0)),(t,(((i+1:Nat):Int),()))))))) (by
    simp only [F_long_predict_l0,hi3,cond_true,gidx_get hlt,Option.bind_some,e,hd,gidx_pos hp (show (n:Int)-lag-1+(i:Int)<(l.length:Int) by omega),wrap_succ (show i<1000000 by omega)])]
   exact long_predict_from hn hs ht h1 h2 k (i+1) _ (by omega)
  ·have hd:decide ((n:Int)-lag-1+i≥0)=false:=by simp;omega
   simp only [hp,decide_false,cond_false]
   rw [iter_step (s':=(l,((n:Int),(lag,(acc,(t,(((i+1:Nat):Int),()))))))) (by
    simp only [F_long_predict_l0,hi3,cond_true,gidx_get hlt,Option.bind_some,e,hd,cond_false,wrap_succ (show i<1000000 by omega)])]
   exact long_predict_from hn hs ht h1 h2 k (i+1) _ (by omega)
theorem long_predict_at {l t:List Int} {lag:Int} {n:Nat} (hn:n≤l.length) (hs:short l) (ht:t.length=3) (h1:2≤lag) (h2:lag≤1024):
  F_long_predict (l,((n:Int),(lag,t)))=some (longG lag t (l.take n)):=by
 have:=long_predict_from (t:=t) hn hs ht h1 h2 3 0 0 (by omega)
 simp only [Int.natCast_zero,List.drop_zero] at this
 unfold F_long_predict
 simp only [this,Option.bind_some,longG]
theorem long_predict_eq {out t:List Int} {lag:Int} (hs:short out) (ht:t.length=3) (h1:2≤lag) (h2:lag≤1024):F_long_predict (out,((out.length:Int),(lag,t)))=some (longG lag t out):=by
 rw [long_predict_at (Nat.le_refl _) hs ht h1 h2,List.take_length]
def longO (rest:List Int) (lag:Int) (t:List Int):Option (List Int):=bif rest.all wideB then backO (longG lag t) rest [] else none
theorem long_Back_eq {rest t:List Int} {lag:Int} (hl:longB lag t=true) (ht:t.length=3) (hr:rest.length<100000):F_long_Back (rest,(lag,t))=some (resB (longO rest lag t)):=by
 have hl':=hl
 simp only [longB,Bool.and_eq_true,decide_eq_true_eq] at hl'
 have hsr:short rest:=by unfold short;omega
 unfold F_long_Back
 simp only [long_May_eq ht,hl,Option.bind_some,Bool.not_true,cond_false,long_allWide_eq hsr,longO]
 cases hw2:rest.all wideB with
 |false=>rfl
 |true=>
  have h4:(0:Int)≤((rest.length:Nat):Int):=by omega
  simp only [Bool.not_true,cond_false,cond_true,h4,decide_true,Int.toNat_natCast,lim_short hsr,Bool.and_self]
  have:=iter_list (f:=F_long_Back_l0) rest (fun i out=>(lag,(rest,((rest.length:Int),((i:Int),(out,(t,()))))))) (stepB (longG lag t) (Sum.inr ((6:Int),(([]:List Int),()))))
   (fun i out=>out.length=i) (fun out=>Sum.inl (out,()))
   (fun i h out hI=>by
    have hlt:i<1000000:=by omega
    have hso:short out:=by unfold short;omega
    have hp:=long_predict_eq (out:=out) (t:=t) (lag:=lag) hso ht hl'.1 hl'.2.1
    rw [hI] at hp
    simp only [F_long_Back_l0,dlt h,cond_true,gidx_get h,Option.bind_some,hp,long_wide_eq,stepB]
    cases hb:wideB (W (rest[i]+longG lag t out)) with
    |true=>
     simp only [cond_true,Bool.not_true,cond_false,lim_short (show out.length+1<1000000 by omega),wrap_succ hlt]
     refine ⟨fun a' ha=>?_,fun b hb=>(by cases hb)⟩
     simp only [Sum.inl.injEq] at ha
     subst ha
     exact ⟨rfl,by simp;omega⟩
    |false=>
     refine ⟨fun a' ha=>(by cases ha),fun b hb=>?_⟩
     simp only [cond_false,Sum.inr.injEq] at hb
     subst hb
     rfl)
   (fun out _=>by simp [F_long_Back_l0]) (a:=[]) rfl
  simp only [Int.natCast_zero,endE_stepB] at this
  rw [this]
  cases backO (longG lag t) rest []<;>rfl
def upStep {β:Type} (n:Int) (bad:β) (out:List Int) (x:Int):List Int ⊕ β:=bif wideB x&&wideB (gshl .i64 x n) then .inl (out++[gshl .i64 x n]) else .inr bad
def upO (n:Int) (l:List Int):Option (List Int):=bif l.all (fun x=>wideB x&&wideB (gshl .i64 x n)) then some (l.map fun x=>gshl .i64 x n) else none
theorem endE_upStep {β:Type} (n:Int) (bad:β) (fin:List Int→β):∀ (l out:List Int),endE fin (foldE (upStep n bad) l out)=match upO n l with|some r=>fin (out++r)|none=>bad
 | [],out=>by simp [foldE,endE,upO]
 |x::l,out=>by
  simp only [foldE,upStep,upO,List.all_cons]
  cases hx:(wideB x&&wideB (gshl .i64 x n)) with
  |true=>
   simp only [cond_true,Bool.true_and]
   rw [endE_upStep n bad fin l _]
   simp only [upO]
   cases l.all (fun x=>wideB x&&wideB (gshl .i64 x n)) with
   |true=>simp
   |false=>rfl
  |false=>rfl
theorem sample_Up_eq {l:List Int} {n:Int} (h0:0≤n) (h1:n≤30) (hr:l.length<100000):F_sample_Up (l,n)=some (resB (upO n l)):=by
 have hsr:short l:=by unfold short;omega
 have g1:¬ n<0:=by omega
 have g2:¬ n > 30:=by omega
 unfold F_sample_Up
 simp only [g1,g2,decide_false,cond_false,Option.bind_some]
 have:=iter_list (f:=F_sample_Up_l0) l (fun i out=>(n,(l,((l.length:Int),((i:Int),(out,())))))) (upStep n (Sum.inr ((6:Int),(([]:List Int),()))))
  (fun i out=>out.length=i) (fun out=>Sum.inl (out,()))
  (fun i h out hI=>by
   have hlt:i<1000000:=by omega
   simp only [F_sample_Up_l0,dlt h,cond_true,gidx_get h,Option.bind_some,sample_wide_eq,upStep,g1,decide_false,cond_false]
   cases hb:wideB l[i] with
   |true=>
    cases hb2:wideB (gshl .i64 l[i] n) with
    |true=>
     simp only [cond_true,Bool.not_true,cond_false,Option.bind_some,g1,decide_false,lim_short (show out.length+1<1000000 by omega),wrap_succ hlt,Bool.and_self]
     refine ⟨fun a' ha=>?_,fun b hb=>(by cases hb)⟩
     simp only [Sum.inl.injEq] at ha
     subst ha
     exact ⟨rfl,by simp;omega⟩
    |false=>
     refine ⟨fun a' ha=>(by cases ha),fun b hb=>?_⟩
     simp only [Bool.true_and,cond_false,Sum.inr.injEq] at hb
     subst hb
     rfl
   |false=>
    refine ⟨fun a' ha=>(by cases ha),fun b hb=>?_⟩
    simp only [Bool.false_and,cond_false,Sum.inr.injEq] at hb
    subst hb
    rfl)
  (fun out _=>by simp [F_sample_Up_l0]) (a:=[]) rfl
 simp only [Int.natCast_zero,endE_upStep,List.nil_append] at this
 rw [this]
 cases upO n l<;>rfl
end Go.Ab
namespace Go.Ab
@[reducible] def Fil:Type:=Int×((List Int)×((List Int)×Unit))
def clampN (x:Int):Int:=imin (imax x (-1073741824)) 1073741823
def clampW (x:Int):Int:=imin (imax x (-1048576)) 1048576
theorem clampW_range (x:Int):-1048576≤clampW x∧clampW x≤1048576:=by
 simp only [clampW,imin_eq,imax_eq];omega
def dotF:List Int→List Int→Int→Int
 |a::w,b::h,acc=>dotF w h (W (acc+W (a*b)))
 |_,_,acc=>acc
def guessF (f:Fil):Int:=clampN (gshr .i64 (dotF f.2.1 f.2.2.1 0) 16)
structure FilOk (f:Fil):Prop where
 len:f.2.1.length=f.2.2.1.length
 pos:1≤f.2.1.length
 most:f.2.1.length≤32
 rate:0≤f.1∧f.1≤8
 small:∀ x∈f.2.1,-1048576≤x∧x≤1048576
theorem getD_get {l:List Int} {i:Nat} (h:i<l.length):List.getD l i 0=l[i]:=by
 rw [List.getD_eq_getElem?_getD,List.getElem?_eq_getElem h];rfl
theorem learn_guess_from {f:Fil} (hf:FilOk f):∀ (k i:Nat) (acc:Int),i+k=f.2.1.length→
  iter F_learn_Filter_Guess_l0 (acc,((f.2.1.length:Int),((i:Int),(f,()))))=some (dotF (f.2.1.drop i) (f.2.2.1.drop i) acc,(f,()))
 |0,i,acc,h=>by
  obtain rfl:i=f.2.1.length:=by omega
  rw [List.drop_length,iter_done (b:=(acc,(f,()))) (by simp [F_learn_Filter_Guess_l0])]
  rfl
 |k+1,i,acc,h=>by
  have h1:i<f.2.1.length:=by omega
  have h2:i<f.2.2.1.length:=by rw [←hf.len];exact h1
  have hm:=hf.most
  rw [List.drop_eq_getElem_cons h1,List.drop_eq_getElem_cons h2,dotF]
  have h0:decide ((0:Int)≤(i:Int))=true:=by simp
  rw [iter_step (s':=(W (acc+W (f.2.1[i]*f.2.2.1[i])),((f.2.1.length:Int),(((i+1:Nat):Int),(f,()))))) (by
   simp only [F_learn_Filter_Guess_l0,dlt h1,dlt h2,h0,cond_true,Bool.and_self,Int.toNat_natCast,getD_get h1,getD_get h2,wrap_succ (show i<1000000 by omega)])]
  exact learn_guess_from hf k (i+1) _ (by omega)
theorem learn_Guess_eq {f:Fil} (hf:FilOk f):F_learn_Filter_Guess f=some (guessF f,f):=by
 have:=learn_guess_from hf f.2.1.length 0 0 (by omega)
 simp only [Int.natCast_zero,List.drop_zero] at this
 unfold F_learn_Filter_Guess
 simp only [this,Option.bind_some,F_learn_nearest]
 rfl
def signI (x:Int):Int:=if 0<x then 1 else if x<0 then -1 else 0
def stepF (r:Int) (x g:Int):Int:=signI (x-g)*2^r.toNat
def updW (st:Int) (w h:Int):Int:=clampW (W (w+signI h*st))
def tellF (f:Fil) (x:Int):Fil:=
 (f.1,(List.zipWith (updW (stepF f.1 (clampN x) (guessF f))) f.2.1 f.2.2.1,(clampN x::f.2.2.1.take (f.2.2.1.length-1),f.2.2.2)))
theorem tellF_ok {f:Fil} (hf:FilOk f) (x:Int):FilOk (tellF f x):=by
 obtain ⟨h1,h2,h3,h4,h5⟩:=hf
 have e:(List.zipWith (updW (stepF f.1 (clampN x) (guessF f))) f.2.1 f.2.2.1).length=f.2.1.length:=by simp;omega
 refine ⟨?_,?_,?_,h4,?_⟩
 ·show (List.zipWith _ _ _).length=(clampN x::f.2.2.1.take (f.2.2.1.length-1)).length
  rw [e];simp;omega
 ·show 1≤(List.zipWith _ _ _).length
  rw [e];exact h2
 ·show (List.zipWith _ _ _).length≤32
  rw [e];exact h3
 ·intro y hy
  have hy:y∈List.zipWith (updW (stepF f.1 (clampN x) (guessF f))) f.2.1 f.2.2.1:=hy
  obtain ⟨i,hi,rfl⟩:=List.mem_iff_getElem.1 hy
  simp only [List.getElem_zipWith]
  exact clampW_range _
theorem signI_cases (x:Int):(0<x∧signI x=1)∨(x<0∧signI x=-1)∨(x=0∧signI x=0):=by
 unfold signI
 by_cases h:0<x
 ·exact .inl ⟨h,by rw [if_pos h]⟩
 ·by_cases h':x<0
  ·exact .inr (.inl ⟨h',by rw [if_neg h,if_pos h']⟩)
  ·exact .inr (.inr ⟨by omega,by rw [if_neg h,if_neg h']⟩)
theorem pow_rate {r:Int} (h:0≤r∧r≤8):(2:Int)^r.toNat≤256∧1≤(2:Int)^r.toNat:=by
 have:r.toNat=0∨r.toNat=1∨r.toNat=2∨r.toNat=3∨r.toNat=4∨r.toNat=5∨r.toNat=6∨r.toNat=7∨r.toNat=8:=by omega
 rcases this with e|e|e|e|e|e|e|e|e<;>rw [e]<;>decide
theorem gshl_rate {r:Int} (h:0≤r∧r≤8) {x:Int} (hx:-1≤x∧x≤1):gshl .i64 x r=x*2^r.toNat:=by
 have hp:=pow_rate h
 have hb:min r.toNat 64=r.toNat:=by omega
 unfold gshl
 show IntKind.wrap .i64 (x*2^(min r.toNat 64))=_
 rw [hb]
 have:x=-1∨x=0∨x=1:=by omega
 rcases this with rfl|rfl|rfl
 ·exact wrap64 (by omega)
 ·exact wrap64 (by omega)
 ·exact wrap64 (by omega)
theorem learn_step_eq {f:Fil} (hf:FilOk f) (x:Int):
  (bif decide (clampN x > guessF f) then bif decide (f.1<0) then (none:Option (Int×(Int×(Fil×Unit)))) else some (clampN x,(gshl .i64 (1:Int) f.1,(f,())))
   else bif decide (clampN x<guessF f) then bif decide (f.1<0) then none else some (clampN x,(IntKind.wrap .i64 (0-(gshl .i64 (1:Int) f.1)),(f,())))
   else some (clampN x,((0:Int),(f,()))))=some (clampN x,(stepF f.1 (clampN x) (guessF f),(f,()))):=by
 have hr:¬ f.1<0:=by have:=hf.rate;omega
 have hp:=pow_rate hf.rate
 have hg:=gshl_rate hf.rate (x:=1) (by omega)
 rw [Int.one_mul] at hg
 rcases signI_cases (clampN x-guessF f) with ⟨h1,h2⟩|⟨h1,h2⟩|⟨h1,h2⟩
 ·have h3:clampN x > guessF f:=by omega
  simp only [h3,hr,decide_true,decide_false,cond_true,cond_false,stepF,h2,Int.one_mul,hg]
 ·have h3:¬ clampN x > guessF f:=by omega
  have h4:clampN x<guessF f:=by omega
  simp only [h3,h4,hr,decide_true,decide_false,cond_true,cond_false,stepF,h2,hg]
  rw [wrap64 (by omega)]
  congr 3
  omega
 ·have h3:¬ clampN x > guessF f:=by omega
  have h4:¬ clampN x<guessF f:=by omega
  simp only [h3,h4,decide_false,cond_false,stepF,h2,Int.zero_mul]
theorem set_take {l z:List Int} {i:Nat} (hi:i<l.length) (hz:z.length=l.length):(z.take i++l.drop i).set i (z[i]'(by omega))=z.take (i+1)++l.drop (i+1):=by
 have h1:(z.take i).length=i:=by rw [List.length_take];omega
 have h2:z.take (i+1)=z.take i++[z[i]'(by omega)]:=by rw [List.take_add_one,List.getElem?_eq_getElem (show i<z.length by omega)];rfl
 rw [List.set_append_right _ _ (by omega),h1,Nat.sub_self,List.drop_eq_getElem_cons hi,List.set_cons_zero,h2,List.append_assoc]
 rfl
theorem getD_mid {l z:List Int} {i:Nat} (hi:i<l.length) (hz:z.length=l.length):List.getD (z.take i++l.drop i) i 0=l[i]:=by
 have h1:(z.take i).length=i:=by rw [List.length_take];omega
 rw [List.getD_eq_getElem?_getD,List.getElem?_append_right (by omega),h1,Nat.sub_self,List.getElem?_drop,Nat.add_zero,List.getElem?_eq_getElem hi]
 rfl
theorem small_get {f:Fil} (hf:FilOk f) {i:Nat} (h:i<f.2.1.length):-1048576≤f.2.1[i]∧f.2.1[i]≤1048576:=hf.small _ (List.getElem_mem h)
theorem learn_tell_loop {f:Fil} (hf:FilOk f) {x1 st:Int} (hst:-256≤st∧st≤256):
  iter F_learn_Filter_Tell_l0 (x1,(st,((f.2.2.1.length:Int),((0:Int),(f,())))))=some (x1,((f.1,(List.zipWith (updW st) f.2.1 f.2.2.1,f.2.2)),())):=by
 obtain ⟨z,hz⟩:∃ z,List.zipWith (updW st) f.2.1 f.2.2.1=z:=⟨_,rfl⟩
 have hlen:=hf.len
 have hzl:z.length=f.2.1.length:=by rw [←hz];simp;omega
 have hm:=hf.most
 have:=iter_count (f:=F_learn_Filter_Tell_l0) (fun i=>(x1,(st,((f.2.2.1.length:Int),((i:Int),((f.1,(z.take i++f.2.1.drop i,f.2.2)),()))))))
  f.2.2.1.length (b:=(x1,((f.1,(z,f.2.2)),()))) (fun i hi=>by
   have hi1:i<f.2.1.length:=by omega
   have h0:decide ((0:Int)≤(i:Int))=true:=by simp
   have hl1:(z.take i++f.2.1.drop i).length=f.2.1.length:=by simp;omega
   have hl2:decide ((i:Int)<((z.take i++f.2.1.drop i).length:Int))=true:=by rw [hl1];simp;omega
   have hzi:z[i]'(by omega)=updW st f.2.1[i] f.2.2.1[i]:=by simp only [←hz,List.getElem_zipWith]
   have hsm:=small_get hf hi1
   have hset:=set_take hi1 hzl
   rw [hzi] at hset
   simp only [F_learn_Filter_Tell_l0,dlt hi,h0,hl2,cond_true,Bool.and_self,Int.toNat_natCast,getD_get hi,getD_mid hi1 hzl]
   rcases signI_cases f.2.2.1[i] with ⟨h1,h2⟩|⟨h1,h2⟩|⟨h1,h2⟩
   ·have h3:f.2.2.1[i] > 0:=h1
    simp only [updW,h2,Int.one_mul] at hset
    simp only [h3,decide_true,cond_true,Option.bind_some,h0,hl2,Bool.and_self,Int.toNat_natCast,wrap_succ (show i<1000000 by omega)]
    exact congrArg (fun l=>some (Sum.inl (x1,(st,((f.2.2.1.length:Int),(((i+1:Nat):Int),((f.1,(l,f.2.2)),()))))))) hset
   ·have h3:¬ f.2.2.1[i] > 0:=by omega
    have e:f.2.1[i]+-1*st=f.2.1[i]-st:=by omega
    simp only [updW,h2,e] at hset
    simp only [h3,h1,decide_true,decide_false,cond_true,cond_false,Option.bind_some,h0,hl2,Bool.and_self,Int.toNat_natCast,wrap_succ (show i<1000000 by omega)]
    exact congrArg (fun l=>some (Sum.inl (x1,(st,((f.2.2.1.length:Int),(((i+1:Nat):Int),((f.1,(l,f.2.2)),()))))))) hset
   ·have h3:¬ f.2.2.1[i] > 0:=by omega
    have h4:¬ f.2.2.1[i]<0:=by omega
    have e:W (f.2.1[i]+0*st)=f.2.1[i]:=by rw [Int.zero_mul,Int.add_zero];exact wrap64 (by omega)
    simp only [updW,h2,e] at hset
    simp only [h3,h4,decide_false,cond_false,Option.bind_some,h0,hl2,cond_true,Bool.and_self,Int.toNat_natCast,wrap_succ (show i<1000000 by omega)]
    exact congrArg (fun l=>some (Sum.inl (x1,(st,((f.2.2.1.length:Int),(((i+1:Nat):Int),((f.1,(l,f.2.2)),()))))))) hset)
  (by
   have e1:z.take f.2.2.1.length=z:=List.take_of_length_le (by omega)
   have e2:f.2.1.drop f.2.2.1.length=[]:=List.drop_eq_nil_of_le (by omega)
   simp [F_learn_Filter_Tell_l0,e1,e2])
 simp only [Int.natCast_zero,List.take_zero,List.drop_zero,List.nil_append] at this
 rw [hz]
 exact this
theorem stepF_range {f:Fil} (hf:FilOk f) (x g:Int):-256≤stepF f.1 x g∧stepF f.1 x g≤256:=by
 have hp:=pow_rate hf.rate
 unfold stepF
 rcases signI_cases (x-g) with ⟨-,h2⟩|⟨-,h2⟩|⟨-,h2⟩<;>rw [h2]<;>omega
theorem learn_Tell_eq {f:Fil} (hf:FilOk f) (x:Int):F_learn_Filter_Tell (f,x)=some (tellF f x):=by
 unfold F_learn_Filter_Tell
 have hs:=learn_step_eq hf x
 simp only [F_learn_nearest,Option.bind_some,learn_Guess_eq hf]
 have hs':(bif decide (imin (imax x (-1073741824)) 1073741823 > guessF f) then bif decide (f.1<0) then (none:Option (Int×(Int×(Fil×Unit)))) else some (imin (imax x (-1073741824)) 1073741823,(gshl .i64 (1:Int) f.1,(f,())))
   else bif decide (imin (imax x (-1073741824)) 1073741823<guessF f) then bif decide (f.1<0) then none else some (imin (imax x (-1073741824)) 1073741823,(IntKind.wrap .i64 (0-(gshl .i64 (1:Int) f.1)),(f,())))
   else some (imin (imax x (-1073741824)) 1073741823,((0:Int),(f,()))))=_:=hs
 rw [hs']
 simp only [Option.bind_some,learn_tell_loop hf (stepF_range hf _ _)]
 have h1:f.2.2.1.length≥1:=by have:=hf.pos;have:=hf.len;omega
 have h2:decide ((1:Int)≤((f.2.2.1.length:Nat):Int))=true:=by simp;omega
 have e:gcopy f.2.2.1 1 (f.2.2.1.length-1) f.2.2.1=f.2.2.1.take 1++f.2.2.1.take (f.2.2.1.length-1):=by
  unfold gcopy
  rw [Nat.min_eq_left (by omega),List.drop_eq_nil_of_le (by omega),List.append_nil]
 have hl:(f.2.2.1.take 1++f.2.2.1.take (f.2.2.1.length-1)).length=f.2.2.1.length:=by simp;omega
 have h3:decide ((0:Int)<(((f.2.2.1.take 1++f.2.2.1.take (f.2.2.1.length-1)).length:Nat):Int))=true:=by rw [hl];simp;omega
 simp only [h2,cond_true,e,h3]
 congr 1
 have e2:(f.2.2.1.take 1++f.2.2.1.take (f.2.2.1.length-1)).set 0 (clampN x)=clampN x::f.2.2.1.take (f.2.2.1.length-1):=by
  cases hc:f.2.2.1 with
  |nil=>rw [hc] at h1;simp at h1
  |cons a l=>simp
 rw [e2]
 rfl
end Go.Ab
namespace Go.Ab
@[reducible] def Stg:Type:=Int×(Int×Unit)
theorem clone_eq {l:List Int} (h:short l):F_slices_Clone___int_int_ l=some l:=by
 have h1:lim (0+l.length)=true:=lim_short (by unfold short at h;omega)
 unfold F_slices_Clone___int_int_ gclone
 rw [h1,cond_true]
def newF (s:Stg):Fil:=(s.2.1,(List.replicate s.1.toNat 0,(List.replicate s.1.toNat 0,())))
theorem newF_ok {s:Stg} (h:stageB s=true):FilOk (newF s):=by
 simp only [stageB,Bool.and_eq_true,decide_eq_true_eq] at h
 refine ⟨by simp [newF],by simp [newF];omega,by simp [newF];omega,⟨h.2.2.1,h.2.2.2⟩,fun x hx=>?_⟩
 simp only [newF,List.mem_replicate] at hx
 omega
theorem learn_New_eq {s:Stg} (h:stageB s=true):F_learn_New s=some (newF s,0):=by
 have h':=h
 simp only [stageB,Bool.and_eq_true,decide_eq_true_eq] at h'
 unfold F_learn_New
 have h1:decide ((0:Int)≤s.1)=true:=by simp;omega
 have h2:decide (s.1≤s.1)=true:=by simp
 have h3:lim s.1.toNat=true:=lim_short (by omega)
 simp only [learn_valid_eq,h,Option.bind_some,Bool.not_true,cond_false,h1,h2,h3,Bool.and_self,cond_true]
 rfl
def stO:List Int→List Int→Fil→Option (List Int)
 | [],done,_=>some done
 |r::rs,done,f=>bif wideB (W (guessF f+r)) then stO rs (done++[W (guessF f+r)]) (tellF f (W (guessF f+r))) else none
theorem stO_length:∀ (l done:List Int) (f:Fil) {r},stO l done f=some r→r.length=done.length+l.length
 | [],done,f,r,h=>by simp only [stO,sj] at h;rw [←h];simp
 |x::l,done,f,r,h=>by
  simp only [stO] at h
  cases hw:wideB (W (guessF f+x)) with
  |true=>rw [hw] at h;rw [stO_length l _ _ h];simp;omega
  |false=>rw [hw] at h;cases h
theorem getD_done {done row:List Int} {i:Nat} (hd:done.length=i) (h:i<row.length):List.getD (done++row.drop i) i 0=row[i]:=by
 rw [List.getD_eq_getElem?_getD,List.getElem?_append_right (by omega),hd,Nat.sub_self,List.getElem?_drop,Nat.add_zero,List.getElem?_eq_getElem h]
 rfl
theorem set_done {done row:List Int} {i:Nat} (hd:done.length=i) (h:i<row.length) (y:Int):(done++row.drop i).set i y=(done++[y])++row.drop (i+1):=by
 rw [List.set_append_right _ _ (by omega),hd,Nat.sub_self,List.drop_eq_getElem_cons h,List.set_cons_zero,List.append_assoc]
 rfl
theorem learn_back_from {row b4:List Int} {b5:Int} (hs:short row):∀ (k i:Nat) (done:List Int) (f:Fil),i+k=row.length→done.length=i→FilOk f→
  ∃ z,iter F_learn_Back_l1 ((row.length:Int),((i:Int),(b4,(b5,(done++row.drop i,(f,()))))))=some z∧
   match stO (row.drop i) done f with
   |some r=>z=.inl (b4,(b5,(r,())))
   |none=>∃ q,z=.inr (([]:List Int),((6:Int),(q,())))
 |0,i,done,f,h,hd,hf=>by
  obtain rfl:i=row.length:=by omega
  rw [List.drop_length,List.append_nil]
  exact ⟨_,iter_done (b:=Sum.inl (b4,(b5,(done,())))) (by simp [F_learn_Back_l1]),rfl⟩
 |k+1,i,done,f,h,hd,hf=>by
  have hi:i<row.length:=by omega
  have hs':row.length<1000000:=hs
  have h0:decide ((0:Int)≤(i:Int))=true:=by simp
  have hl:(done++row.drop i).length=row.length:=by simp;omega
  have h1:decide ((i:Int)<(((done++row.drop i).length:Nat):Int))=true:=by rw [hl];simp;omega
  have hst:stO (row.drop i) done f=bif wideB (W (guessF f+row[i])) then stO (row.drop (i+1)) (done++[W (guessF f+row[i])]) (tellF f (W (guessF f+row[i]))) else none:=by
   rw [List.drop_eq_getElem_cons hi];rfl
  rw [hst]
  cases hw:wideB (W (guessF f+row[i])) with
  |true=>
   rw [iter_step (s':=((row.length:Int),(((i+1:Nat):Int),(b4,(b5,((done++[W (guessF f+row[i])])++row.drop (i+1),(tellF f (W (guessF f+row[i])),()))))))) (by
    simp only [F_learn_Back_l1,dlt hi,h0,h1,cond_true,Bool.and_self,learn_Guess_eq hf,Option.bind_some,Int.toNat_natCast,getD_done hd hi,learn_wide_eq,hw,Bool.not_true,cond_false,learn_Tell_eq hf,set_done hd hi,wrap_succ (show i<1000000 by omega)])]
   exact learn_back_from hs k (i+1) _ _ (by omega) (by simp;omega) (tellF_ok hf _)
  |false=>
   exact ⟨_,iter_done (b:=Sum.inr (([]:List Int),((6:Int),(done++row.drop i,())))) (by
    simp only [F_learn_Back_l1,dlt hi,h0,h1,cond_true,Bool.and_self,learn_Guess_eq hf,Option.bind_some,Int.toNat_natCast,getD_done hd hi,learn_wide_eq,hw,Bool.not_false]),_,rfl⟩
def lO:List Stg→List Int→Option (List Int)
 | [],row=>some row
 |s::r,row=>match stO row [] (newF s) with
  |some row'=>lO r row'
  |none=>none
theorem learn_l0_eq {st:List Stg} {s:Stg} {k:Int} {b4:List Int} {row:List Int} (h:stageB s=true) (hs:short row):
  ∃ z,F_learn_Back_l0 k s (st,(b4,((0:Int),(row,()))))=some z∧match stO row [] (newF s) with
   |some r=>z=.inl (st,(b4,((0:Int),(r,()))))
   |none=>∃ q,z=.inr (.ret,(st,(([]:List Int),((6:Int),(q,()))))):=by
 obtain ⟨z,h1,h2⟩:=learn_back_from (b4:=b4) (b5:=0) hs row.length 0 [] (newF s) (by omega) rfl (newF_ok h)
 simp only [Int.natCast_zero,List.drop_zero,List.nil_append] at h1 h2
 unfold F_learn_Back_l0
 have hne:((0:Int) != 0)=false:=rfl
 simp only [learn_New_eq h,Option.bind_some,hne,cond_false,h1]
 cases hst:stO row [] (newF s) with
 |some r=>
  rw [hst] at h2
  simp only [] at h2
  subst h2
  exact ⟨_,rfl,rfl⟩
 |none=>
  rw [hst] at h2
  obtain ⟨q,rfl⟩:=h2
  exact ⟨_,rfl,q,rfl⟩
theorem learn_backN {st l:List Stg} {b4:List Int} (hl:∀ s∈l,stageB s=true):∀ (n:Nat) (row:List Int),n≤l.length→short row→
  ∃ z,backN F_learn_Back_l0 l n (st,(b4,((0:Int),(row,()))))=some z∧match lO (l.take n).reverse row with
   |some r=>z=.inl (st,(b4,((0:Int),(r,()))))
   |none=>∃ q,z=.inr (.ret,(st,(([]:List Int),((6:Int),(q,())))))
 |0,row,_,_=>⟨_,rfl,rfl⟩
 |n+1,row,hn,hs=>by
  have hlt:n<l.length:=by omega
  obtain ⟨z,h1,h2⟩:=learn_l0_eq (st:=st) (k:=(n:Int)) (b4:=b4) (hl _ (List.getElem_mem hlt)) hs
  have ht:(l.take (n+1)).reverse=l[n]::(l.take n).reverse:=by rw [List.take_add_one,List.getElem?_eq_getElem hlt];simp
  simp only [backN,List.getElem?_eq_getElem hlt,h1,ht,lO]
  cases hst:stO row [] (newF l[n]) with
  |some r=>
   rw [hst] at h2
   simp only [] at h2
   subst h2
   exact learn_backN hl n r (by omega) (by have:=stO_length _ _ _ hst;unfold short at hs ⊢;simp at this;omega)
  |none=>
   rw [hst] at h2
   obtain ⟨q,rfl⟩:=h2
   exact ⟨_,rfl,q,rfl⟩
def learnO (rest:List Int) (st:List Stg):Option (List Int):=bif rest.all wideB then lO st.reverse rest else none
theorem learn_Back_eq {rest:List Int} {st:List Stg} (hl:learnB st=true) (hr:rest.length<100000):F_learn_Back (rest,st)=some (resB (learnO rest st)):=by
 have hl':=hl
 simp only [learnB,Bool.and_eq_true,decide_eq_true_eq] at hl'
 have hss:short st:=by unfold short;omega
 have hsr:short rest:=by unfold short;omega
 unfold F_learn_Back
 simp only [learn_May_eq hss,hl,Option.bind_some,Bool.not_true,cond_false,learn_allWide_eq hsr,learnO]
 cases hw:rest.all wideB with
 |false=>rfl
 |true=>
  obtain ⟨z,h1,h2⟩:=learn_backN (st:=st) (b4:=[]) (List.all_eq_true.1 hl'.2) st.length rest (Nat.le_refl _) hsr
  rw [List.take_length] at h2
  simp only [Bool.not_true,cond_false,cond_true,clone_eq hsr,Option.bind_some,lim_short hss,h1]
  cases hst:lO st.reverse rest with
  |some r=>
   rw [hst] at h2
   simp only [] at h2
   subst h2
   rfl
  |none=>
   rw [hst] at h2
   obtain ⟨q,rfl⟩:=h2
   rfl
end Go.Ab
namespace Go.Ab
def rowB (n warm:Int):Bool:=decide (1≤n)&&(decide (n≤4096)&&(decide (0≤warm)&&decide (warm≤n)))
theorem parts_row_eq (n warm:Int):F_parts_row (n,warm)=some (rowB n warm):=by
 unfold F_parts_row rowB
 by_cases h1:1≤n<;>by_cases h2:n≤4096<;>by_cases h3:0≤warm<;>simp [h1,h2,h3]
theorem pow8 {o:Nat} (h:o≤8):1≤2^o∧2^o≤256:=by
 have:o=0∨o=1∨o=2∨o=3∨o=4∨o=5∨o=6∨o=7∨o=8:=by omega
 rcases this with e|e|e|e|e|e|e|e|e<;>rw [e]<;>decide
theorem gshr_nat {N o:Nat} (h:o≤64):gshr .i64 (N:Int) (o:Int)=((N / 2^o:Nat):Int):=by
 unfold gshr
 show Int.fdiv (N:Int) (2^(min (o:Int).toNat 64))=_
 rw [Int.toNat_natCast,Nat.min_eq_left h,Int.fdiv_eq_ediv_of_nonneg _ (Int.le_of_lt (Int.pow_pos (by decide))),Int.natCast_ediv,Int.natCast_pow]
 rfl
theorem gshl_nat {N o:Nat} (h:o≤64) (hs:N*2^o<9223372036854775808):gshl .i64 (N:Int) (o:Int)=((N*2^o:Nat):Int):=by
 unfold gshl
 show IntKind.wrap .i64 ((N:Int)*2^(min (o:Int).toNat 64))=_
 rw [Int.toNat_natCast,Nat.min_eq_left h]
 have e:(N:Int)*2^o=((N*2^o:Nat):Int):=by rw [Int.natCast_mul,Int.natCast_pow];rfl
 rw [e]
 exact wrap64 (by omega)
def sizesN (o N:Nat) (warm:Int):List Int:=
 if N%2^o=0∧warm≤((N / 2^o:Nat):Int) then (((N / 2^o:Nat):Int)-warm)::List.replicate (2^o-1) ((N / 2^o:Nat):Int) else []
def sizesI (order n warm:Int):List Int:=bif rowB n warm&&(decide (0≤order)&&decide (order≤8)) then sizesN order.toNat n.toNat warm else []
theorem parts_Sizes_eq (order n warm:Int):F_parts_Sizes (order,(n,warm))=some (sizesI order n warm):=by
 unfold F_parts_Sizes sizesI
 simp only [parts_row_eq,Option.bind_some]
 cases hr:rowB n warm with
 |false=>rfl
 |true=>
  simp only [rowB,Bool.and_eq_true,decide_eq_true_eq] at hr
  simp only [Bool.not_true,cond_false,Bool.true_and]
  by_cases h1:order<0
  ·have:¬ 0≤order:=by omega
   simp [h1,this]
  by_cases h2:order > 8
  ·have:¬ order≤8:=by omega
   simp [h1,h2,this]
  obtain ⟨o,rfl⟩:=Int.eq_ofNat_of_zero_le (show 0≤order by omega)
  obtain ⟨N,rfl⟩:=Int.eq_ofNat_of_zero_le (show 0≤n by omega)
  have ho:o≤8:=by omega
  have hN:N≤4096:=by omega
  have hp:=pow8 ho
  have hle:N / 2^o*2^o≤N:=Nat.div_mul_le_self N _
  have g0:(0:Int)≤(o:Int):=by omega
  have g8:(o:Int)≤8:=by omega
  simp only [h1,h2,g0,g8,decide_true,decide_false,cond_false,cond_true,Bool.and_self,Option.bind_some,gshr_nat (N:=N) (show o≤64 by omega),gshl_nat (N:=N / 2^o) (show o≤64 by omega) (by omega),Int.toNat_natCast]
  have hmod:=Nat.div_add_mod N (2^o)
  rw [Nat.mul_comm] at hmod
  by_cases hm:N%2^o=0
  ·have e1:(((N / 2^o*2^o:Nat):Int) != (N:Int))=false:=by rw [show N / 2^o*2^o=N by omega];simp
   by_cases hw:warm≤((N / 2^o:Nat):Int)
   ·have e2:decide (((N / 2^o:Nat):Int)<warm)=false:=decide_eq_false (Int.not_lt.2 hw)
    have e3:IntKind.wrap .i64 (((N / 2^o:Nat):Int)-warm)=((N / 2^o:Nat):Int)-warm:=wrap64 (by have:=Nat.div_le_self N (2^o);omega)
    simp only [e1,e2,e3,cond_false,Option.bind_some,sizesN,hm,hw,and_self,if_true]
    have hg:gshl .i64 (1:Int) (o:Int)=((2^o:Nat):Int):=by have:=gshl_nat (N:=1) (show o≤64 by omega) (by omega);simpa using this
    have:=iter_count (f:=F_parts_Sizes_l0) (fun i=>((o:Int),(((N / 2^o:Nat):Int),((((N / 2^o:Nat):Int)-warm)::List.replicate i ((N / 2^o:Nat):Int),())))) (2^o-1)
     (b:=((((N / 2^o:Nat):Int)-warm)::List.replicate (2^o-1) ((N / 2^o:Nat):Int),())) (fun i hi=>by
      have hd:decide ((((((N / 2^o:Nat):Int)-warm)::List.replicate i ((N / 2^o:Nat):Int)).length:Int)<((2^o:Nat):Int))=true:=by
       rw [List.length_cons,List.length_replicate];simp only [decide_eq_true_eq];omega
      have hlim:lim (((((N / 2^o:Nat):Int)-warm)::List.replicate i ((N / 2^o:Nat):Int)).length+1)=true:=lim_short (by rw [List.length_cons,List.length_replicate];omega)
      have ea:List.replicate i ((N / 2^o:Nat):Int)++[((N / 2^o:Nat):Int)]=List.replicate (i+1) ((N / 2^o:Nat):Int):=by rw [←List.replicate_succ']
      simp only [F_parts_Sizes_l0,h1,decide_false,cond_false,hg,hd,cond_true,hlim,List.append_eq,List.cons_append,ea])
     (by
      have hd:decide ((((((N / 2^o:Nat):Int)-warm)::List.replicate (2^o-1) ((N / 2^o:Nat):Int)).length:Int)<((2^o:Nat):Int))=false:=by
       rw [List.length_cons,List.length_replicate];simp only [decide_eq_false_iff_not];omega
      simp only [F_parts_Sizes_l0,h1,decide_false,cond_false,hg,hd])
    simp only [List.replicate_zero] at this
    simp only [this,Option.bind_some]
   ·have e2:decide (((N / 2^o:Nat):Int)<warm)=true:=decide_eq_true (Int.not_le.1 hw)
    simp only [e1,e2,cond_false,cond_true,Option.bind_some,sizesN,hw,and_false,if_false]
  ·have e1:(((N / 2^o*2^o:Nat):Int) != (N:Int))=true:=by simp only [bne_iff_ne,ne_eq];intro hc;have:=Int.ofNat.inj hc;omega
   simp only [e1,cond_true,Option.bind_some,sizesN,hm,false_and,if_false]
@[reducible] def Prt:Type:=Int×((List Int)×Unit)
def kB (k:Int):Bool:=(decide (0≤k)&&decide (k≤25)) || (k==31)
def partsB (p:Prt) (n warm:Int):Bool:=!((sizesI p.1 n warm).length==0)&&((sizesI p.1 n warm).length==p.2.1.length&&p.2.1.all kB)
theorem parts_May_eq {p:Prt} {n warm:Int} (hk:short p.2.1):F_parts_May (p,(n,warm))=some (partsB p n warm):=by
 have:=iter_all (f:=F_parts_May_l0) p.2.1 (fun i=>(p.2.1,((p.2.1.length:Int),((i:Int),())))) kB (bt:=Sum.inl ()) (bf:=Sum.inr (false,()))
  (fun i h hp=>by
   simp only [kB,Bool.or_eq_true,Bool.and_eq_true,decide_eq_true_eq,beq_iff_eq] at hp
   by_cases h1:p.2.1[i]<0
   ·omega
   ·by_cases h2:p.2.1[i] > 25
    ·have h3:p.2.1[i]=31:=by omega
     have h4:(p.2.1[i] != 31)=false:=by rw [h3];rfl
     simp [F_parts_May_l0,gidx_get h,h,h1,h2,h4,wrap_succ (Nat.lt_trans h hk)]
    ·simp [F_parts_May_l0,gidx_get h,h,h1,h2,wrap_succ (Nat.lt_trans h hk)])
  (fun i h hp=>by
   have hp:¬ (kB p.2.1[i]=true):=by rw [hp];simp
   simp only [kB,Bool.or_eq_true,Bool.and_eq_true,decide_eq_true_eq,beq_iff_eq] at hp
   have h3:p.2.1[i]≠31:=fun e=>hp (.inr e)
   have h4:(p.2.1[i] != 31)=true:=by simp [h3]
   by_cases h1:p.2.1[i]<0
   ·simp [F_parts_May_l0,gidx_get h,h,h1,h4]
   ·have h2:p.2.1[i] > 25:=by omega
    simp [F_parts_May_l0,gidx_get h,h,h1,h2,h4])
  (by simp [F_parts_May_l0])
 simp only [Int.natCast_zero] at this
 unfold F_parts_May partsB
 simp only [parts_Sizes_eq,Option.bind_some]
 by_cases h0:(sizesI p.1 n warm).length=0
 ·have e:((((sizesI p.1 n warm).length:Nat):Int)==0)=true:=by simp [h0]
  simp [e,h0]
 ·have e:((((sizesI p.1 n warm).length:Nat):Int)==0)=false:=by simp only [beq_eq_false_iff_ne,ne_eq];omega
  have e':((sizesI p.1 n warm).length==0)=false:=by simp only [beq_eq_false_iff_ne,ne_eq];omega
  simp only [e,e',cond_false,Option.bind_some,Bool.not_false,Bool.true_and]
  by_cases h1:(sizesI p.1 n warm).length=p.2.1.length
  ·have e1:(((p.2.1.length:Nat):Int) != (((sizesI p.1 n warm).length:Nat):Int))=false:=by simp [h1]
   have e2:((sizesI p.1 n warm).length==p.2.1.length)=true:=by simp [h1]
   simp only [e1,e2,cond_false,this,Option.bind_some,Bool.true_and]
   cases p.2.1.all kB<;>rfl
  ·have e1:(((p.2.1.length:Nat):Int) != (((sizesI p.1 n warm).length:Nat):Int))=true:=by simp only [bne_iff_ne,ne_eq];omega
   have e2:((sizesI p.1 n warm).length==p.2.1.length)=false:=by simp only [beq_eq_false_iff_ne,ne_eq];exact h1
   simp only [e1,e2,cond_true,Bool.false_and]
end Go.Ab
namespace Go.Ab
@[reducible] def Sub:Type:=Int×(Int×(Int×(Int×(Int×((List Int)×((List Int)×((List Stg)×((List Int)×(Prt×((List Int)×Unit))))))))))
structure SmallS (s:Sub):Prop where
 coefs:s.2.2.2.2.2.1.length≤40
 taps:s.2.2.2.2.2.2.1.length=3
 stages:s.2.2.2.2.2.2.2.1.length≤6
 warm:s.2.2.2.2.2.2.2.2.1.length≤5000
 rest:s.2.2.2.2.2.2.2.2.2.2.1.length≤5000
 ks:s.2.2.2.2.2.2.2.2.2.1.2.1.length≤300
theorem eqT_ints (x y:List Int):eqT (.arr 3 (.int .i64)) x y=decide (x=y):=by
 show ((List.zipWith (fun (a b:Int)=>a==b) x y).all id&&x.length==y.length)=_
 induction x generalizing y with
 |nil=>cases y<;>simp
 |cons a x ih=>
  cases y with
  |nil=>simp
  |cons b y=>
   have:=ih y
   simp only [List.zipWith_cons_cons,List.all_cons,List.length_cons,id]
   rw [Bool.and_assoc,show ((x.length+1==y.length+1):Bool)=(x.length==y.length) from by simp,this]
   by_cases h1:a=b<;>by_cases h2:x=y<;>simp [h1,h2]
theorem clone_v_eq {l:List Int} (h:short l):F_slices_Clone___int_int_v l=some l:=clone_eq h
theorem cloneS_v_eq {l:List Stg} (h:short l):F_slices_Clone___api_Stage_api_Stage_v l=some l:=by
 have h1:lim (0+l.length)=true:=lim_short (by unfold short at h;omega)
 unfold F_slices_Clone___api_Stage_api_Stage_v gclone
 rw [h1,cond_true]
def fitP (k:Int) (s:Sub) (n:Int):Prop:=
 k=0∨k=1∨(k=2∧0≤s.2.2.1∧s.2.2.1≤4∧s.2.2.1≤n)∨(k=3∧linB s.2.2.2.2.2.1 s.2.2.2.1=true∧(s.2.2.2.2.2.1.length:Int)≤n)∨
  (k=4∧linB s.2.2.2.2.2.1 s.2.2.2.1=true∧(s.2.2.2.2.2.1.length:Int)≤n∧longB s.2.2.2.2.1 s.2.2.2.2.2.2.1=true)∨
  (k=5∧0<s.2.2.2.2.2.2.2.1.length∧learnB s.2.2.2.2.2.2.2.1=true)
open Classical in
def fitB (k:Int) (s:Sub) (n:Int):Bool:=decide (fitP k s n)
theorem fit_eq {s:Sub} (h:SmallS s) (k n:Int):F_sub_fit (k,(s,n))=some (fitB k s n):=by
 have hc:short s.2.2.2.2.2.1:=by have:=h.coefs;unfold short;omega
 have hst:short s.2.2.2.2.2.2.2.1:=by have:=h.stages;unfold short;omega
 unfold F_sub_fit fitB fitP
 by_cases k0:k=0
 ·subst k0;simp
 by_cases k1:k=1
 ·subst k1;simp
 have e0:(k==0)=false:=by simp [k0]
 have e1:(k==1)=false:=by simp [k1]
 simp only [e0,e1,cond_false,Option.bind_some]
 by_cases k2:k=2
 ·subst k2
  by_cases h1:0≤s.2.2.1<;>by_cases h2:s.2.2.1≤4<;>simp [h1,h2]
 by_cases k3:k=3
 ·subst k3
  cases hl:linB s.2.2.2.2.2.1 s.2.2.2.1<;>simp [linear_May_eq hc,hl]
 by_cases k4:k=4
 ·subst k4
  cases hl:linB s.2.2.2.2.2.1 s.2.2.2.1<;>by_cases h2:(s.2.2.2.2.2.1.length:Int)≤n<;>simp [linear_May_eq hc,long_May_eq h.taps,hl,h2]
 by_cases k5:k=5
 ·subst k5
  by_cases h1:0<s.2.2.2.2.2.2.2.1.length
  ·simp [learn_May_eq hst,h1]
  ·simp [h1]
 have e2:(k==2)=false:=by simp [k2]
 have e3:(k==3)=false:=by simp [k3]
 have e4:(k==4)=false:=by simp [k4]
 have e5:(k==5)=false:=by simp [k5]
 simp only [e2,e3,e4,e5,cond_false]
 simp [k0,k1,k2,k3,k4,k5]
def warmI (s:Sub) (n:Int):Int:=if s.1=0 then 1 else if s.1=1 then n else if s.1=2 then s.2.2.1 else if s.1=3∨s.1=4 then (s.2.2.2.2.2.1.length:Int) else 0
theorem warmth_eq (s:Sub) (n:Int):F_sub_warmth (s,n)=some (warmI s n):=by
 obtain ⟨k,s⟩:=s
 unfold F_sub_warmth warmI
 by_cases k0:k=0
 ·subst k0;simp
 by_cases k1:k=1
 ·subst k1;simp
 by_cases k2:k=2
 ·subst k2;simp
 by_cases k3:k=3
 ·subst k3;simp
 by_cases k4:k=4
 ·subst k4;simp
 have e0:(k==0)=false:=by simp [k0]
 have e1:(k==1)=false:=by simp [k1]
 have e2:(k==2)=false:=by simp [k2]
 have e3:(k==3)=false:=by simp [k3]
 have e4:(k==4)=false:=by simp [k4]
 simp [k0,k1,k2,k3,k4,e0,e1,e2,e3,e4]
def aloneP (s:Sub):Prop:=
 (s.1≠2→s.2.2.1=0)∧(s.1≠3∧s.1≠4→s.2.2.2.1=0)∧(s.1≠4→s.2.2.2.2.1=0)∧(s.1≠4→s.2.2.2.2.2.2.1=[0,0,0])∧(s.1≠3∧s.1≠4→s.2.2.2.2.2.1=[])∧(s.1≠5→s.2.2.2.2.2.2.2.1=[])
open Classical in
def aloneB (s:Sub):Bool:=decide (aloneP s)
theorem and_some {c x:Bool}:(bif c then some x else some false)=some (c&&x):=by cases c<;>rfl
theorem len0 {α:Type} (l:List α):(((l.length:Nat):Int)==0)=decide (l=[]):=by
 cases l with
 |nil=>rfl
 |cons a l=>simp;omega
theorem beq0 (x:Int):(x==0)=decide (x=0):=rfl
theorem alone_eq {s:Sub} (h:SmallS s):F_sub_alone s=some (aloneB s):=by
 have hc:short s.2.2.2.2.2.1:=by have:=h.coefs;unfold short;omega
 have hst:short s.2.2.2.2.2.2.2.1:=by have:=h.stages;unfold short;omega
 obtain ⟨k,w,o,sh,lag,c,t,st,wm,p,r,u⟩:=s
 simp only at hc hst
 unfold F_sub_alone F_sub_chosen aloneB aloneP
 have ht:(List.replicate 3 (0:Int))=[0,0,0]:=rfl
 by_cases k2:k=2
 ·subst k2
  simp [eqT_ints,ht,and_some,len0,beq0]
 by_cases k4:k=4
 ·subst k4
  simp [eqT_ints,ht,and_some,len0,beq0,clone_v_eq hc]
 by_cases k3:k=3
 ·subst k3
  simp [eqT_ints,ht,and_some,len0,beq0,clone_v_eq hc]
 by_cases k5:k=5
 ·subst k5
  simp [eqT_ints,ht,and_some,len0,beq0,cloneS_v_eq hst]
 have e2:(k==2)=false:=by simp [k2]
 have e3:(k==3)=false:=by simp [k3]
 have e4:(k==4)=false:=by simp [k4]
 have e5:(k==5)=false:=by simp [k5]
 simp [e2,e3,e4,e5,k2,k3,k4,k5,eqT_ints,ht,and_some,len0,beq0]
theorem rested_eq (k:Int):F_sub_rested k=some (decide (k≠0∧k≠1)):=by
 unfold F_sub_rested
 by_cases h0:k=0
 ·subst h0;rfl
 ·by_cases h1:k=1
  ·subst h1;rfl
  ·have e:(k != 0)=true:=by simp [h0]
   simp [e,h0,h1]
def statedP (s:Sub) (n:Int):Prop:=
 1≤n∧n≤4096∧fitP s.1 s n∧aloneP s∧0≤s.2.1∧s.2.1≤30∧(s.1=0→s.2.1=0)∧(s.2.2.2.2.2.2.2.2.1.length:Int)=warmI s n∧s.2.2.2.2.2.2.2.2.1.all wideB=true∧s.2.2.2.2.2.2.2.2.2.2.1.all wideB=true∧
  (s.1=0∨s.1=1→s.2.2.2.2.2.2.2.2.2.2.1=[]∧s.2.2.2.2.2.2.2.2.2.1.1=0∧s.2.2.2.2.2.2.2.2.2.1.2.1=[])∧
  (s.1≠0∧s.1≠1→(s.2.2.2.2.2.2.2.2.2.2.1.length:Int)=n-warmI s n∧partsB s.2.2.2.2.2.2.2.2.2.1 n (warmI s n)=true)
theorem warmI_range {s:Sub} (h:SmallS s) {n:Int} (h1:1≤n) (h2:n≤4096) (hf:fitP s.1 s n):0≤warmI s n∧warmI s n≤4096:=by
 have hc:=h.coefs
 unfold warmI
 rcases hf with k|k|⟨k,h3⟩|⟨k,h3⟩|⟨k,h3⟩|⟨k,h3⟩<;>simp [k]<;>omega
open Classical in
theorem stated_eq {s:Sub} (h:SmallS s) (n:Int):F_sub_stated (s,n)=some (decide (statedP s n)):=by
 have hw:short s.2.2.2.2.2.2.2.2.1:=by have:=h.warm;unfold short;omega
 have hr:short s.2.2.2.2.2.2.2.2.2.2.1:=by have:=h.rest;unfold short;omega
 have hk:short s.2.2.2.2.2.2.2.2.2.1.2.1:=by have:=h.ks;unfold short;omega
 unfold F_sub_stated
 by_cases h1:1≤n
 rotate_left
 ·have e1:decide (n<1)=true:=by simp;omega
  have:¬ statedP s n:=fun hp=>h1 hp.1
  simp only [e1,cond_true,Option.bind_some,this,decide_false]
 have e1:decide (n<1)=false:=by simp;omega
 by_cases h2:n≤4096
 rotate_left
 ·have e2:decide (n > 4096)=true:=by simp;omega
  have:¬ statedP s n:=fun hp=>h2 hp.2.1
  simp only [e1,e2,cond_true,cond_false,Option.bind_some,this,decide_false]
 have e2:decide (n > 4096)=false:=by simp;omega
 by_cases h3:fitP s.1 s n
 rotate_left
 ·have e3:fitB s.1 s n=false:=by simp [fitB,h3]
  have:¬ statedP s n:=fun hp=>h3 hp.2.2.1
  simp only [e1,e2,fit_eq h,e3,cond_true,cond_false,Bool.not_false,Option.bind_some,this,decide_false]
 have e3:fitB s.1 s n=true:=by simp [fitB,h3]
 by_cases h4:aloneP s
 rotate_left
 ·have e4:aloneB s=false:=by simp [aloneB,h4]
  have:¬ statedP s n:=fun hp=>h4 hp.2.2.2.1
  simp only [e1,e2,fit_eq h,e3,alone_eq h,e4,cond_true,cond_false,Bool.not_false,Bool.not_true,Option.bind_some,this,decide_false]
 have e4:aloneB s=true:=by simp [aloneB,h4]
 simp only [e1,e2,fit_eq h,e3,alone_eq h,e4,cond_false,Bool.not_true,Option.bind_some]
 by_cases h5:0≤s.2.1
 rotate_left
 ·have e5:decide (s.2.1<0)=true:=by simp;omega
  have:¬ statedP s n:=fun hp=>h5 hp.2.2.2.2.1
  simp only [e5,cond_true,Option.bind_some,this,decide_false]
 have e5:decide (s.2.1<0)=false:=by simp;omega
 by_cases h6:s.2.1≤30
 rotate_left
 ·have e6:decide (s.2.1 > 30)=true:=by simp;omega
  have:¬ statedP s n:=fun hp=>h6 hp.2.2.2.2.2.1
  simp only [e5,e6,cond_true,cond_false,Option.bind_some,this,decide_false]
 have e6:decide (s.2.1 > 30)=false:=by simp;omega
 simp only [e5,e6,cond_false]
 by_cases h7:s.1=0→s.2.1=0
 rotate_left
 ·have h7a:s.1=0:=Classical.byContradiction fun hc=>h7 fun e=>absurd e hc
  have h7b:(s.2.1 != 0)=true:=by
   simp only [bne_iff_ne,ne_eq];intro e;exact h7 fun _=>e
  have e7:(s.1==0)=true:=by simp [h7a]
  have:¬ statedP s n:=fun hp=>h7 hp.2.2.2.2.2.2.1
  simp only [e7,h7b,cond_true,Option.bind_some,this,decide_false]
 have e7:(bif s.1==0 then some (n,(s.2.1 != 0,(s,()))) else some (n,(false,(s,()))))=some (n,(false,(s,()))):=by
  by_cases k0:s.1=0
  ·simp [k0,h7 k0]
  ·have:(s.1==0)=false:=by simp [k0]
   rw [this];rfl
 simp only [e7,Option.bind_some,cond_false,warmth_eq]
 by_cases h8:(s.2.2.2.2.2.2.2.2.1.length:Int)=warmI s n
 rotate_left
 ·have e8:(((s.2.2.2.2.2.2.2.2.1.length:Nat):Int) != warmI s n)=true:=by simp only [bne_iff_ne,ne_eq];exact h8
  have:¬ statedP s n:=fun hp=>h8 hp.2.2.2.2.2.2.2.1
  simp only [e8,cond_true,Option.bind_some,this,decide_false]
 have e8:(((s.2.2.2.2.2.2.2.2.1.length:Nat):Int) != warmI s n)=false:=by rw [h8];simp
 simp only [e8,cond_false,sub_allWide_eq hw,sub_allWide_eq hr,Option.bind_some]
 cases h9:s.2.2.2.2.2.2.2.2.1.all wideB with
 |false=>
  have:¬ statedP s n:=fun hp=>by rw [hp.2.2.2.2.2.2.2.2.1] at h9;cases h9
  simp only [Bool.not_false,cond_true,Option.bind_some,this,decide_false]
 |true=>
  cases h10:s.2.2.2.2.2.2.2.2.2.2.1.all wideB with
  |false=>
   have:¬ statedP s n:=fun hp=>by rw [hp.2.2.2.2.2.2.2.2.2.1] at h10;cases h10
   simp only [Bool.not_false,Bool.not_true,cond_true,cond_false,Option.bind_some,this,decide_false]
  |true=>
   simp only [Bool.not_true,cond_false,Option.bind_some,rested_eq]
   have hwr:=warmI_range h h1 h2 h3
   by_cases k01:s.1≠0∧s.1≠1
   ·have e11:IntKind.wrap .i64 (n-warmI s n)=n-warmI s n:=wrap64 (by omega)
    simp only [k01,ne_eq,not_false_eq_true,and_self,decide_true,Bool.not_true,cond_false,e11,parts_May_eq hk,Option.bind_some]
    by_cases h11:(s.2.2.2.2.2.2.2.2.2.2.1.length:Int)=n-warmI s n
    ·have e12:(((s.2.2.2.2.2.2.2.2.2.2.1.length:Nat):Int)==n-warmI s n)=true:=by simp [h11]
     simp only [e12,cond_true]
     congr 1
     rw [Bool.eq_iff_iff,decide_eq_true_eq]
     constructor
     ·intro hp
      exact ⟨h1,h2,h3,h4,h5,h6,h7,h8,h9,h10,fun hc=>absurd hc (by omega),fun _=>⟨h11,hp⟩⟩
     ·intro hp;exact (hp.2.2.2.2.2.2.2.2.2.2.2 k01).2
    ·have e12:(((s.2.2.2.2.2.2.2.2.2.2.1.length:Nat):Int)==n-warmI s n)=false:=by simp only [beq_eq_false_iff_ne,ne_eq];exact h11
     have:¬ statedP s n:=fun hp=>h11 (hp.2.2.2.2.2.2.2.2.2.2.2 k01).1
     simp only [e12,cond_false,this,decide_false]
   ·have k01':s.1=0∨s.1=1:=by omega
    simp only [k01,decide_false,Bool.not_false,cond_true,len0]
    simp only [beq0,and_some]
    congr 1
    rw [Bool.eq_iff_iff,decide_eq_true_eq]
    simp only [Bool.and_eq_true,decide_eq_true_eq]
    constructor
    ·rintro ⟨g1,g2,g3⟩
     exact ⟨h1,h2,h3,h4,h5,h6,h7,h8,h9,h10,fun _=>⟨g1,g2,g3⟩,fun hc=>absurd hc k01⟩
    ·intro hp;exact hp.2.2.2.2.2.2.2.2.2.2.1 k01'
end Go.Ab
namespace Go.Ab
theorem zip_all_eq {α:Type} [DecidableEq α] (q:α→α→Bool) (hq:∀ a b,q a b=decide (a=b)):∀ (x y:List α),x.length=y.length→((x.zip y).all fun p=>q p.1 p.2)=decide (x=y)
 | [],[],_=>by simp
 |a::x,b::y,h=>by
  have ih:=zip_all_eq q hq x y (by simpa using h)
  simp only [List.zip_cons_cons,List.all_cons]
  rw [ih,hq]
  by_cases h1:a=b<;>by_cases h2:x=y<;>simp [h1,h2]
theorem SameInts_eq {x y:List Int} (h:short x):F_r2_SameInts (x,y)=some (decide (x=y)):=by
 unfold F_r2_SameInts
 by_cases hl:x.length=y.length
 ·have e:(((x.length:Nat):Int) != ((y.length:Nat):Int))=false:=by rw [hl];simp
  have hz:(x.zip y).length=x.length:=by rw [List.length_zip];omega
  have:=iter_all (f:=F_r2_SameInts_l0) (x.zip y) (fun i=>(x,(y,((i:Int),())))) (fun p=>p.1==p.2) (bt:=Sum.inl ()) (bf:=Sum.inr (false,()))
   (fun i hi hp=>by
    have h1:i<x.length:=by omega
    have h2:i<y.length:=by omega
    rw [List.getElem_zip] at hp
    have hp:x[i]=y[i]:=by simpa using hp
    have hne:(x[i] != y[i])=false:=by rw [hp];simp
    simp only [F_r2_SameInts_l0,dlt h1,cond_true,gidx_get h1,gidx_get h2,Option.bind_some,hne,cond_false,wrap_succ (Nat.lt_trans h1 h)])
   (fun i hi hp=>by
    have h1:i<x.length:=by omega
    have h2:i<y.length:=by omega
    rw [List.getElem_zip] at hp
    have hne:(x[i] != y[i])=true:=by simpa using hp
    simp only [F_r2_SameInts_l0,dlt h1,cond_true,gidx_get h1,gidx_get h2,Option.bind_some,hne])
   (by rw [hz];simp [F_r2_SameInts_l0])
  simp only [Int.natCast_zero] at this
  simp only [e,cond_false,this,zip_all_eq (fun (a b:Int)=>a==b) (fun _ _=>rfl) x y hl]
  cases decide (x=y)<;>rfl
 ·have e:(((x.length:Nat):Int) != ((y.length:Nat):Int))=true:=by simp only [bne_iff_ne,ne_eq];omega
  have:¬ x=y:=fun hc=>hl (by rw [hc])
  simp only [e,cond_true,this,decide_false]
theorem SameStages_eq {x y:List Stg} (h:short x):F_r14_SameStages (x,y)=some (decide (x=y)):=by
 have heq:∀ a b:Stg,eqT (.pair (.int .i64) (.pair (.int .i64) .unit)) a b=decide (a=b):=by
  rintro ⟨a1,a2,⟨⟩⟩ ⟨b1,b2,⟨⟩⟩
  show ((a1==b1)&&((a2==b2)&&true))=_
  by_cases h1:a1=b1<;>by_cases h2:a2=b2<;>simp [h1,h2]
 unfold F_r14_SameStages
 by_cases hl:x.length=y.length
 ·have e:(((x.length:Nat):Int) != ((y.length:Nat):Int))=false:=by rw [hl];simp
  have hz:(x.zip y).length=x.length:=by rw [List.length_zip];omega
  have:=iter_all (f:=F_r14_SameStages_l0) (x.zip y) (fun i=>(x,(y,((i:Int),())))) (fun p=>decide (p.1=p.2)) (bt:=Sum.inl ()) (bf:=Sum.inr (false,()))
   (fun i hi hp=>by
    have h1:i<x.length:=by omega
    have h2:i<y.length:=by omega
    rw [List.getElem_zip] at hp
    simp only [F_r14_SameStages_l0,dlt h1,cond_true,gidx_get h1,gidx_get h2,Option.bind_some,heq,hp,Bool.not_true,cond_false,wrap_succ (Nat.lt_trans h1 h)])
   (fun i hi hp=>by
    have h1:i<x.length:=by omega
    have h2:i<y.length:=by omega
    rw [List.getElem_zip] at hp
    simp only [F_r14_SameStages_l0,dlt h1,cond_true,gidx_get h1,gidx_get h2,Option.bind_some,heq,hp,Bool.not_false])
   (by rw [hz];simp [F_r14_SameStages_l0])
  simp only [Int.natCast_zero] at this
  simp only [e,cond_false,this,zip_all_eq (fun (a b:Stg)=>decide (a=b)) (fun _ _=>rfl) x y hl]
  cases decide (x=y)<;>rfl
 ·have e:(((x.length:Nat):Int) != ((y.length:Nat):Int))=true:=by simp only [bne_iff_ne,ne_eq];omega
  have:¬ x=y:=fun hc=>hl (by rw [hc])
  simp only [e,cond_true,this,decide_false]
open Classical in
theorem SameSub_eq {a b:Sub} (h:SmallS a):F_r19_SameSub (a,b)=some (decide (a=b)):=by
 have hc:short a.2.2.2.2.2.1:=by have:=h.coefs;unfold short;omega
 have hst:short a.2.2.2.2.2.2.2.1:=by have:=h.stages;unfold short;omega
 have hw:short a.2.2.2.2.2.2.2.2.1:=by have:=h.warm;unfold short;omega
 have hr:short a.2.2.2.2.2.2.2.2.2.2.1:=by have:=h.rest;unfold short;omega
 have hk:short a.2.2.2.2.2.2.2.2.2.1.2.1:=by have:=h.ks;unfold short;omega
 unfold F_r19_SameSub F_r8_SameParts
 simp only [SameInts_eq hc,SameInts_eq hw,SameInts_eq hr,SameInts_eq hk,SameStages_eq hst,eqT_ints,Option.bind_some,and_some]
 congr 1
 obtain ⟨k,w,o,sh,lag,c,t,st,wm,⟨po,ks,⟨⟩⟩,r,⟨⟩⟩:=a
 obtain ⟨k',w',o',sh',lag',c',t',st',wm',⟨po',ks',⟨⟩⟩,r',⟨⟩⟩:=b
 rw [Bool.eq_iff_iff]
 simp only [Bool.and_eq_true,decide_eq_true_eq,beq_iff_eq,Prod.mk.injEq,and_true,and_assoc]
theorem fitP_kind {k:Int} {s:Sub} {n:Int} (h:fitP k s n):k=0∨k=1∨k=2∨k=3∨k=4∨k=5:=by
 unfold fitP at h;omega
end Go.Ab
