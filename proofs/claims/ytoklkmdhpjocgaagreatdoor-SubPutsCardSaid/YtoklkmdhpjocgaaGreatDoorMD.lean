/- Part of the proof: F, It, PA, QA, QB, QC, S. Conditions: as each statement tells. -/
import Derived.RangeFuncBound
import Derived.RangeFuncCalls
import Derived.RangeFuncBox
import Derived.WalkKit
import Derived.OwnWalkIn
import Derived.TacticsInMore
import Derived.LoopNIn
import Derived.LoopIn
import Derived.Test.YtoklkmdhpjocgaaGreatDoorProg
import Derived.KernelRfl
import Derived.Test.YtoklkmdhpjocgaaGreatDoorMC
noncomputable section
namespace Go.Ab
open Go.Proofs Go.RowKit
attribute [local go_sem] Oper.semAt_some
set_option maxHeartbeats 1000000 in
theorem mkOk136:MakeOk Tryz.prog 136 181:=by
 refine ⟨⟨_,_,Tryz.func136,rfl,by kernel_rfl⟩,fun A len cap w=>(callsIn_wide (n:=3)).1 ?_⟩
 refine callsIn_of_wp Tryz.func136 rfl trivial ?_
 simp only [Tryz.ntmps136,List.size_toArray,List.length_cons,List.length_nil,Nat.reduceAdd,Nat.reduceSub,Array.replicate_succ,Array.replicate_zero,List.push_toArray,List.append_toArray,List.nil_append,List.cons_append]
 gi_wp2
 go_ret
 exact ⟨rfl,_,rfl⟩
@[reducible] def stageT:Ty:=.pair (.int .i64) (.pair (.int .i64) .unit)
set_option maxRecDepth 100000 in
set_option maxHeartbeats 2000000 in
theorem back1_in (l Bs b off len cap:Nat) (p q:Nat→Int) (J:Nat→World→Prop) (Jx:World→Prop) (W:World)
  (hJ:∀ k W',J k W'→W'.cell? ⟨Bs,0,none⟩=some (.slice (some ⟨b,off,none⟩) len cap))
  (hlen:len<2147483648)
  (hcs:∀ k W',k<len→J (k+1) W'→W'.cell? ⟨b,off+k*2,none⟩=some (.int .i64 (p k))∧W'.cell? ⟨b,off+k*2+1,none⟩=some (.int .i64 (q k)))
  (hY:∀ n W',n<len→J (n+1) W'→YieldAt (Fr none) 0 Tryz.prog l #[.int .i64 (n:Int),.agg #[.int .i64 (p n),.int .i64 (q n)]] W' fun en W''=>(en=.returned (.bool true)∧J n W'')∨(en=.returned (.bool false)∧Jx W''))
  (h0:J len W):
  CallsIn (Fr none) 0 Tryz.prog 181 #[.func (.yield l) #[] #[],.pointer (some ⟨Bs,0,none⟩)] W fun en W'=>(∃ v,en=.returned v)∧(J 0 W'∨Jx W'):=by
 refine callsIn_of_wp Tryz.func181 rfl trivial ?_
 simp only [Tryz.ntmps181,List.size_toArray,List.length_cons,List.length_nil,Nat.reduceAdd,Nat.reduceSub,Array.replicate_succ,Array.replicate_zero,List.push_toArray,List.append_toArray,List.nil_append,List.cons_append]
 have hBs:=hJ _ _ h0
 gi_wp2
 gi_loopw [3] (fun i wr=>∃ k:Nat,k≤len∧i=.int .i64 ((k:Int)-1)∧J k wr) (fun i _=>(intOf i+1).toNat)
 case atStart=>exact ⟨len,Nat.le_refl _,rfl,h0⟩
 case round=>
  obtain ⟨k,hk,rfl,hJs⟩:=hrel
  cases k with
  |succ n=>
   obtain ⟨fn,tmps,assign,body,hy,hR⟩:=hY n wr (by omega) hJs
   have hcx:=hJ _ _ hJs
   obtain ⟨hc0,hc1⟩:=hcs n wr (by omega) hJs
   gi_wp2
   refine hR.mono ?_
   rintro e W3 (⟨rfl,hJ3⟩|⟨rfl,hJx3⟩)
   ·gi_wp2
    go_roundw
    case rel=>exact ⟨n,by omega,by simp,hJ3⟩
    case measure=>simp [intOf]
   ·gi_wp2
    refine bodyPost_ret (results_none rfl _ _ _) rfl ?_
    exact ⟨⟨_,rfl⟩,.inr hJx3⟩
  |zero=>
   gi_wp2
   go_end0
   exact ⟨⟨_,rfl⟩,.inl hJs⟩
set_option maxRecDepth 100000 in
set_option maxHeartbeats 2000000 in
theorem back1_nil (l Bs:Nat) (J:Nat→World→Prop) (W:World) (hBs:W.cell? ⟨Bs,0,none⟩=some (.slice none 0 0)) (h0:J 0 W):
  CallsIn (Fr none) 0 Tryz.prog 181 #[.func (.yield l) #[] #[],.pointer (some ⟨Bs,0,none⟩)] W fun en W'=>(∃ v,en=.returned v)∧J 0 W':=by
 refine callsIn_of_wp Tryz.func181 rfl trivial ?_
 simp only [Tryz.ntmps181,List.size_toArray,List.length_cons,List.length_nil,Nat.reduceAdd,Nat.reduceSub,Array.replicate_succ,Array.replicate_zero,List.push_toArray,List.append_toArray,List.nil_append,List.cons_append]
 gi_wp2
 gi_loopw [3] (fun i wr=>i=.int .i64 (-1)∧J 0 wr) (fun _ _=>0)
 case atStart=>exact ⟨rfl,h0⟩
 case round=>
  obtain ⟨rfl,hJs⟩:=hrel
  gi_wp2
  go_end0
  exact ⟨⟨_,rfl⟩,hJs⟩
theorem stage_dec {m:Mem} {Sh:Nat→Prop} {b o:Nat} {x:stageT.den} {R} (h:dec m stageT ((Src.at b o).rd m)=some (x,[],R)):
  m b o=some (.int .i64 x.1)∧m b (o+1)=some (.int .i64 x.2.1)∧VOk m Sh stageT x (.agg #[.int .i64 x.1,.int .i64 x.2.1]):=by
 obtain ⟨p,q,u⟩:=x
 simp only [stageT,dec,Src.rd,Ty.cells,Nat.add_zero] at h
 split at h
 ·cases h
 ·rename_i x1 o1 r1 h1
  split at h1
  ·rename_i n hn
   split at h1
   ·rename_i e
    subst e
    simp only [sj] at h1
    obtain ⟨rfl,rfl,rfl⟩:=h1
    split at h
    ·cases h
    ·rename_i x2 o2 r2 h2
     split at h2
     ·cases h2
     ·rename_i x3 o3 r3 h3
      split at h3
      ·rename_i n' hn'
       split at h3
       ·rename_i e
        subst e
        simp only [sj] at h3 h2 h
        obtain ⟨rfl,rfl,rfl⟩:=h3
        obtain ⟨rfl,rfl,rfl⟩:=h2
        obtain ⟨⟨rfl,rfl,rfl⟩,-,-⟩:=h
        exact ⟨hn,hn',fun _=>⟨_,rfl,rfl⟩,fun h=>(by cases h),[],rfl,by simp⟩
       ·cases h3
      ·cases h3
   ·cases h1
  ·cases h1
theorem enters_bodied {P:Program} {f:FuncId} (hb:Bodied P f) (args:Array Value) (w:World):(callFunc f args).run P w=.ok (.enter f args) w:=by
 obtain ⟨fn,c',h1,h2,h3⟩:=hb
 have h4 : ¬ fn.name = "runtime.NumGoroutine" := by simpa using h3
 simp [callFunc,program,Sem.run,h1,h2,h4,Result.andThen]
theorem itOk181:IterOk Tryz.prog 181 stageT:=by
 refine ⟨fun args w=>enters_bodied ⟨_,_,Tryz.func181,rfl,by kernel_rfl⟩ args w,fun l Bs sv xs J Jx W hlen hJ hY h0=>?_⟩
 obtain ⟨hc,Sh,hsv⟩:=hJ _ _ h0
 obtain ⟨A,n,c,rfl,rfl,hnc,hsp,hnil⟩:=hsv.header
 cases A with
 |none=>
  have hx0:xs.length=0:=by have:=hnil rfl;omega
  rw [hx0] at h0 hc
  rw [hnil rfl] at hc
  exact (back1_nil l Bs J W hc h0).mono fun e W' h=>⟨h.1,.inl h.2⟩
 |some A=>
  obtain ⟨b,off,spot⟩:=A
  have:=hsp _ rfl
  simp only at this
  subst this
  have hel:∀ k W',k<xs.length→J (k+1) W'→∃ x,xs[k]?=some x∧W'.cell? ⟨b,off+k*2,none⟩=some (.int .i64 x.1)∧W'.cell? ⟨b,off+k*2+1,none⟩=some (.int .i64 x.2.1):=by
   intro k W' hk hj
   obtain ⟨-,Sh',hv⟩:=hJ _ _ hj
   obtain ⟨A',n',c',R,e,h1,h2,h3,h4,h5,h6⟩:=hv.elem rfl (List.getElem?_eq_getElem hk)
   simp only [Value.slice.injEq,sj] at e
   obtain ⟨rfl,rfl,rfl⟩:=e
   obtain ⟨g1,g2,-⟩:=stage_dec (Sh:=Sh') h4
   exact ⟨_,List.getElem?_eq_getElem hk,g1,g2⟩
  refine back1_in l Bs b off xs.length c (fun k=>((xs[k]?).getD stageT.dflt).1) (fun k=>((xs[k]?).getD stageT.dflt).2.1) J Jx W (fun k W' hj=>(hJ k W' hj).1) hlen (fun k W' hk hj=>?_) (fun n W' hn hj=>?_) h0
  ·obtain ⟨x,hx,g1,g2⟩:=hel k W' hk hj
   simp only [hx,Option.getD_some]
   exact ⟨g1,g2⟩
  ·have hx:xs[n]?=some xs[n]:=List.getElem?_eq_getElem hn
   simp only [hx,Option.getD_some]
   refine hY n _ _ W' hx hj fun Sh' hv=>?_
   obtain ⟨A',n',c',R,e,h1,h2,h3,h4,h5,h6⟩:=hv.elem rfl hx
   exact (stage_dec (Sh:=Sh') h4).2.2
end Go.Ab
namespace Go.Ab
open Go.Proofs
set_option maxRecDepth 100000
set_option linter.unusedVariables false
@[reducible] def Z0:Type:=(Unit ⊕ (Bool×Unit))
@[reducible] def Z1:Type:=(Int×(Int×(List Int)))
@[reducible] def Z2:Type:=((List Int)×(Int×Int))
@[reducible] def Z3:Type:=((List Int)×(Int×Unit))
@[reducible] def Z4:Type:=(List (Int×(Int×Unit)))
@[reducible] def Z5:Type:=(Int×((List Int)×Unit))
@[reducible] def Z6:Type:=((List Int)×(Bool×Unit))
@[reducible] def Z7:Type:=(Bool×((List Int)×Unit))
@[reducible] def Z8:Type:=(Int×(Int×(Int×Unit)))
@[reducible] def Z9:Type:=(((List Int)×Unit)×Unit)
@[reducible] def Z10:Type:=(Int×(Int×(Bool×Unit)))
@[reducible] def Z11:Type:=((List Int)×((List Int)×Int))
@[reducible] def Z12:Type:=((List Int)×(Int×(List Int)))
@[reducible] def Z13:Type:=((List Int)×((List Int)×Unit))
@[reducible] def Z14:Type:=((List Int)×(Int×(Int×Unit)))
@[reducible] def Z15:Type:=(Int×Z5)
@[reducible] def Z16:Type:=(Int×Z3)
@[reducible] def Z17:Type:=(Z3×Int)
@[reducible] def Z18:Type:=((List Int)×(Int×(Bool×Unit)))
@[reducible] def Z19:Type:=(Z5×Unit)
@[reducible] def Z20:Type:=(Int×Z7)
@[reducible] def Z21:Type:=(Z3×Unit)
@[reducible] def Z22:Type:=(Int×Z8)
@[reducible] def Z23:Type:=(Int×Z9)
@[reducible] def Z24:Type:=(Int×Z10)
@[reducible] def Z25:Type:=(Int×Z13)
@[reducible] def Z26:Type:=((List Int)×Z5)
@[reducible] def Z27:Type:=((List Int)×Z4)
@[reducible] def Z28:Type:=((List Int)×Z3)
@[reducible] def Z29:Type:=(Int×Z14)
@[reducible] def Z30:Type:=(Int×Z16)
@[reducible] def Z31:Type:=(Z3×(Int×Int))
@[reducible] def Z32:Type:=(Int×Z15)
@[reducible] def Z33:Type:=((List Int)×Z8)
@[reducible] def Z34:Type:=((List Int)×Z10)
@[reducible] def Z35:Type:=(Int×Z20)
@[reducible] def Z36:Type:=(Int×Z21)
@[reducible] def Z37:Type:=(Int×Z22)
@[reducible] def Z38:Type:=(Int×Z23)
@[reducible] def Z39:Type:=(Z4×(Int×Unit))
@[reducible] def Z40:Type:=(Bool×Z19)
@[reducible] def Z41:Type:=(Bool×Z21)
@[reducible] def Z42:Type:=(Int×Z24)
@[reducible] def Z43:Type:=((List Int)×Z13)
@[reducible] def Z44:Type:=((List Int)×Z15)
@[reducible] def Z45:Type:=(Int×Z25)
@[reducible] def Z46:Type:=(Z25×Int)
@[reducible] def Z47:Type:=((List Int)×Z14)
@[reducible] def Z48:Type:=(Z5×((List Int)×Unit))
@[reducible] def Z49:Type:=(((List Int)×Unit) ⊕ Z5)
@[reducible] def Z50:Type:=((List Int)×Z18)
@[reducible] def Z51:Type:=(Int×Z29)
@[reducible] def Z52:Type:=(Int×Z30)
@[reducible] def Z53:Type:=(Z25×Unit)
@[reducible] def Z54:Type:=((List Int)×Z19)
@[reducible] def Z55:Type:=(Z4×(Int×(Int×Unit)))
@[reducible] def Z56:Type:=(Int×Z36)
@[reducible] def Z57:Type:=(Int×Z37)
@[reducible] def Z58:Type:=(Int×Z41)
@[reducible] def Z59:Type:=((List (List Int))×Z13)
@[reducible] def Z60:Type:=(Int×Z43)
@[reducible] def Z61:Type:=(Int×Z44)
@[reducible] def Z62:Type:=(Z5×Z1)
@[reducible] def Z63:Type:=((List Int)×Z29)
@[reducible] def Z64:Type:=((List Int)×Z33)
@[reducible] def Z65:Type:=((List Int)×Z32)
@[reducible] def Z66:Type:=(Z15 ⊕ ((List Int)×Unit))
@[reducible] def Z67:Type:=(Int×Z53)
@[reducible] def Z68:Type:=((List Int)×Z35)
@[reducible] def Z69:Type:=(Int×Z54)
@[reducible] def Z70:Type:=((List Int)×Z37)
@[reducible] def Z71:Type:=(Z29 ⊕ (Int×Unit))
@[reducible] def Z72:Type:=(Z33 ⊕ (Int×Unit))
@[reducible] def Z73:Type:=(Int×Z57)
@[reducible] def Z74:Type:=(Z14 ⊕ Z0)
@[reducible] def Z75:Type:=((List Int)×Z43)
@[reducible] def Z76:Type:=(Int×Z59)
@[reducible] def Z77:Type:=((List Int)×Z45)
@[reducible] def Z78:Type:=((List Int)×Z44)
@[reducible] def Z79:Type:=(Int×Z60)
@[reducible] def Z80:Type:=((List Int)×Z48)
@[reducible] def Z81:Type:=((List Int)×Z51)
@[reducible] def Z82:Type:=((List Int)×Z50)
@[reducible] def Z83:Type:=((List Int)×Z52)
@[reducible] def Z84:Type:=((List Int)×Z53)
@[reducible] def Z85:Type:=(Int×Z61)
@[reducible] def Z86:Type:=(Int×Z67)
@[reducible] def Z87:Type:=(Int×Z68)
@[reducible] def Z88:Type:=((List Int)×Z56)
@[reducible] def Z89:Type:=(Int×Z69)
@[reducible] def Z90:Type:=(Z4×Z15)
@[reducible] def Z91:Type:=(Z51 ⊕ (Int×Unit))
@[reducible] def Z92:Type:=(Z3×Z19)
@[reducible] def Z93:Type:=(Z5×Z19)
@[reducible] def Z94:Type:=((List (List Int))×Z43)
@[reducible] def Z95:Type:=(Int×Z76)
@[reducible] def Z96:Type:=((List Int)×Z61)
@[reducible] def Z97:Type:=(Int×Z77)
@[reducible] def Z98:Type:=(Int×Z79)
@[reducible] def Z99:Type:=(Int×Z84)
@[reducible] def Z100:Type:=(Z4×Z26)
@[reducible] def Z101:Type:=(Int×Z85)
@[reducible] def Z102:Type:=(Int×Z86)
@[reducible] def Z103:Type:=(Int×Z87)
@[reducible] def Z104:Type:=(Int×Z88)
@[reducible] def Z105:Type:=(Int×Z89)
@[reducible] def Z106:Type:=((List Int)×Z73)
@[reducible] def Z107:Type:=(Int×Z93)
@[reducible] def Z108:Type:=(Int×Z98)
@[reducible] def Z109:Type:=((List Int)×Z85)
@[reducible] def Z110:Type:=(Bool×Z95)
@[reducible] def Z111:Type:=((List Int)×Z88)
@[reducible] def Z112:Type:=(Int×Z99)
@[reducible] def Z113:Type:=(Int×Z102)
@[reducible] def Z114:Type:=((List Int)×Z92)
@[reducible] def Z115:Type:=(Int×Z107)
@[reducible] def Z116:Type:=((List (List Int))×Z75)
@[reducible] def Z117:Type:=((List Int)×Z97)
@[reducible] def Z118:Type:=((List Int)×Z99)
@[reducible] def Z119:Type:=(Int×Z109)
@[reducible] def Z120:Type:=((List Int)×Z101)
@[reducible] def Z121:Type:=(Int×Z110)
@[reducible] def Z122:Type:=((List Int)×Z105)
@[reducible] def Z123:Type:=(Int×Z111)
@[reducible] def Z124:Type:=(Int×Z112)
@[reducible] def Z125:Type:=(Int×Z114)
@[reducible] def Z126:Type:=(Z56 ⊕ Z21)
@[reducible] def Z127:Type:=(Int×Z116)
@[reducible] def Z128:Type:=(Int×Z118)
@[reducible] def Z129:Type:=(Int×Z119)
@[reducible] def Z130:Type:=(Int×Z121)
@[reducible] def Z131:Type:=(Z4×Z80)
@[reducible] def Z132:Type:=(Int×Z124)
@[reducible] def Z133:Type:=(Int×Z125)
@[reducible] def Z134:Type:=((List Int)×Z115)
@[reducible] def Z135:Type:=(Z5×Z93)
@[reducible] def Z136:Type:=(Int×Z127)
@[reducible] def Z137:Type:=(Int×Z128)
@[reducible] def Z138:Type:=(Int×Z134)
@[reducible] def Z139:Type:=(Int×Z136)
@[reducible] def Z140:Type:=((List Int)×Z129)
@[reducible] def Z141:Type:=((List Int)×Z130)
@[reducible] def Z142:Type:=((List Int)×Z131)
@[reducible] def Z143:Type:=(Z61 ⊕ Z49)
@[reducible] def Z144:Type:=((List Int)×Z133)
@[reducible] def Z145:Type:=((List Int)×Z135)
@[reducible] def Z146:Type:=(Int×Z138)
@[reducible] def Z147:Type:=(Z104 ⊕ Z21)
@[reducible] def Z148:Type:=(Int×Z139)
@[reducible] def Z149:Type:=(Int×Z144)
@[reducible] def Z150:Type:=(Int×Z145)
@[reducible] def Z151:Type:=(Int×Z146)
@[reducible] def Z152:Type:=(Int×Z148)
@[reducible] def Z153:Type:=((List Int)×Z142)
@[reducible] def Z154:Type:=(Int×Z149)
@[reducible] def Z155:Type:=(Z4×Z132)
@[reducible] def Z156:Type:=(Int×Z150)
@[reducible] def Z157:Type:=(Bool×Z152)
@[reducible] def Z158:Type:=(Int×Z153)
@[reducible] def Z159:Type:=(Int×Z154)
@[reducible] def Z160:Type:=(Int×Z157)
@[reducible] def Z161:Type:=(Int×Z158)
@[reducible] def Z162:Type:=((List Int)×Z156)
@[reducible] def Z163:Type:=(Int×Z160)
@[reducible] def Z164:Type:=(Int×Z161)
@[reducible] def Z165:Type:=((List Int)×Z159)
@[reducible] def Z166:Type:=(Int×Z162)
@[reducible] def Z167:Type:=(Int×Z164)
@[reducible] def Z168:Type:=(Int×Z166)
@[reducible] def Z169:Type:=((List Int)×Z163)
@[reducible] def Z170:Type:=(Int×Z167)
@[reducible] def Z171:Type:=(List Z170)
@[reducible] def Z172:Type:=(Z170×Int)
@[reducible] def Z173:Type:=(Int×Z170)
@[reducible] def Z174:Type:=(Z170×Unit)
@[reducible] def Z175:Type:=((List Int)×Z168)
@[reducible] def Z176:Type:=(Z171×Unit)
@[reducible] def Z177:Type:=(Int×Z174)
@[reducible] def Z178:Type:=(Int×Z175)
@[reducible] def Z179:Type:=(Bool×Z174)
@[reducible] def Z180:Type:=((List Int)×Z171)
@[reducible] def Z181:Type:=((List Int)×Z174)
@[reducible] def Z182:Type:=(Int×Z178)
@[reducible] def Z183:Type:=(Int×Z179)
@[reducible] def Z184:Type:=(Z171×((List Int)×Unit))
@[reducible] def Z185:Type:=(Int×Z181)
@[reducible] def Z186:Type:=((List Int)×Z177)
@[reducible] def Z187:Type:=(Int×Z182)
@[reducible] def Z188:Type:=(((List Int)×Unit)×Z174)
@[reducible] def Z189:Type:=(Int×Z183)
@[reducible] def Z190:Type:=(Int×Z184)
@[reducible] def Z191:Type:=(Int×Z185)
@[reducible] def Z192:Type:=(Z3×Z174)
@[reducible] def Z193:Type:=(Int×Z188)
@[reducible] def Z194:Type:=(Int×Z192)
@[reducible] def Z195:Type:=(Int×Z193)
@[reducible] def Z196:Type:=(Int×Z194)
@[reducible] def Z197:Type:=((List Int)×Z194)
@[reducible] def Z198:Type:=(Int×Z197)
@[reducible] def Z199:Type:=((List Int)×Z196)
@[reducible] def Z200:Type:=(Int×Z198)
@[reducible] def Z201:Type:=(Int×Z199)
@[reducible] def Z202:Type:=(Int×Z201)
@[reducible] def Z203:Type:=(Z4×Z196)
@[reducible] def Z204:Type:=(Int×Z203)
@[reducible] def Z205:Type:=(Int×Z204)
@[reducible] def Z206:Type:=(Z170×Z174)
@[reducible] def Z207:Type:=(Int×Z206)
@[reducible] def Z208:Type:=(Int×Z207)
@[reducible] def Z209:Type:=((List Int)×Z208)
@[reducible] def Z210:Type:=((List Int)×Z209)
@[reducible] def Z211:Type:=(Z170×Z206)
@[reducible] def Z212:Type:=(Z171×Z208)
@[reducible] def Z213:Type:=(Bool×Z212)
@[reducible] def Z214:Type:=(Int×Z213)
@[reducible] def Z215:Type:=((List Int)×Z214)
@[reducible] def Q0:Ty:=(.pair (.int .i64) .unit)
@[reducible] def Q1:Ty:=(.pair (.list true (.int .u8)) .unit)
@[reducible] def Q2:Ty:=(.pair (.list true (.int .i64)) .unit)
@[reducible] def Q3:Ty:=(.pair (.list false (.int .i64)) .unit)
@[reducible] def Q4:Ty:=(.pair (.int .i64) Q0)
@[reducible] def Q5:Ty:=(.pair (.list true (.int .u8)) Q0)
@[reducible] def Q6:Ty:=(.pair (.int .i64) Q3)
@[reducible] def Q7:Ty:=(.pair (.list true (.int .i64)) Q2)
@[reducible] def Q8:Ty:=(.pair (.int .i64) Q7)
@[reducible] def Q9:Ty:=(.pair Q6 Q3)
@[reducible] def Q10:Ty:=(.pair (.list false (.int .i64)) Q9)
@[reducible] def Q11:Ty:=(.pair (.list false Q4) Q10)
@[reducible] def Q12:Ty:=(.pair (.arr 3 (.int .i64)) Q11)
@[reducible] def Q13:Ty:=(.pair (.list false (.int .i64)) Q12)
@[reducible] def Q14:Ty:=(.pair (.int .i64) Q13)
@[reducible] def Q15:Ty:=(.pair (.int .i64) Q14)
@[reducible] def Q16:Ty:=(.pair (.int .i64) Q15)
@[reducible] def Q17:Ty:=(.pair (.int .i64) Q16)
@[reducible] def Q18:Ty:=(.pair (.int .i64) Q17)
def tyTab:List (Nat×Ty):=[(2,.int .i64),(3,.int .i64),(5,.int .u8),(9,.str),(22,.list false (.int .i64)),(23,.arr 3 (.int .i64)),(24,.list false Q4),(26,.pair (.int .i64) Q3),(28,.pair (.int .i64) Q17),(31,.int .i64),(49,.list false (.int .u8)),(51,.pair (.list false (.int .u8)) Q0),(54,.pair (.list false (.int .u8)) .unit),(56,.int .u64),(75,.list false Q18),(79,.int .u64),(84,.pair (.int .i64) Q0),(148,.arr 64 (.int .u8)),(162,.pair (.int .i64) (.pair (.list false (.int .i64)) Q3)),(163,.list false (.list false (.int .i64))),(165,.pair (.int .i64) (.pair (.list false (.int .i64)) Q3)),(166,.list false (.arr 3 (.int .i64)))]
def T0:Nat→Option Ty:=fun t=>find tyTab t
def eqTab:List Nat:=[23,84]
def eqT0:Nat→Bool:=fun t=>eqTab.contains t
def ptrTab:List Nat:=[]
def ptrT:Nat→Bool:=fun t=>ptrTab.contains t
def glob0:(List Int):=[0,1,56,2,57,49,28,3,61,58,42,50,38,29,17,4,62,47,59,36,45,43,51,22,53,39,33,30,24,18,12,5,63,55,48,27,60,41,37,16,46,35,44,21,52,32,23,11,54,26,40,15,34,20,31,10,25,14,19,9,13,8,7,6]
def G0:Nat→Option ((t:Ty)×t.den):=fun g=>find ([(0,⟨.arr 64 (.int .u8),glob0⟩)]:List (Nat×((t:Ty)×t.den))) g
def F_sub_allWide_l0 (st:Z14):Option Z74:= bif decide (st.2.2.1<st.2.1) then ((gidx st.1 st.2.2.1).bind fun x1=> (show Option Z34 from bif decide (x1<(-1073741824:Int)) then some (st.1,(st.2.1,(st.2.2.1,(true,())))) else some (st.1,(st.2.1,(st.2.2.1,(decide (x1≥(1073741824:Int)),()))))).bind fun z2=> bif z2.2.2.2.1 then some (.inr (Sum.inr ((false,())))) else some (.inl (z2.1,(z2.2.1,(IntKind.wrap .i64 (z2.2.2.1+(1:Int)),()))))) else some (.inr (Sum.inl ()))
def F_sub_allWide (x:(List Int)):Option Bool:= (iter F_sub_allWide_l0 (x,(((List.length x:Nat):Int),((0:Int),())))).bind fun w3=> match w3 with |.inl a4=>some true |.inr b5=>some b5.1
def S_sub_allWide:FSem:=⟨[.v (.list false (.int .i64))],[.v .bool],F_sub_allWide⟩
def H44:Hints:=⟨[(26,[.sv 5 (.list false (.int .i64)),.sv 6 (.int .i64),.sv 7 (.int .i64)],[(.exit 0,[]),(.ret,[.sv 2 .bool])])],[(1689,[(.normal,[.sv 5 (.list false (.int .i64)),.sv 6 (.int .i64),.sv 7 (.int .i64),.sv 16 .bool])])],[]⟩
def F_sub_rested (x:Int):Option Bool:= bif x != (0:Int) then some (x != (1:Int)) else some false
def S_sub_rested:FSem:=⟨[.v (.int .i64)],[.v .bool],F_sub_rested⟩
def H59:Hints:=⟨[],[],[]⟩
def F_linear_May_l0 (st:Z14):Option Z74:= bif decide (st.2.2.1<st.2.1) then ((gidx st.1 st.2.2.1).bind fun x2=> (show Option Z34 from bif decide (x2<(-32768:Int)) then some (st.1,(st.2.1,(st.2.2.1,(true,())))) else some (st.1,(st.2.1,(st.2.2.1,(decide (x2≥(32768:Int)),()))))).bind fun z3=> bif z3.2.2.2.1 then some (.inr (Sum.inr ((false,())))) else some (.inl (z3.1,(z3.2.1,(IntKind.wrap .i64 (z3.2.2.1+(1:Int)),()))))) else some (.inr (Sum.inl ()))
def F_linear_May (x:((List Int)×Int)):Option Bool:= (show Option Z6 from bif decide (((List.length x.1:Nat):Int)<(1:Int)) then some (x.1,(true,())) else (bif decide (((List.length x.1:Nat):Int) > (32:Int)) then some (x.1,(true,())) else (bif decide (x.2<(0:Int)) then some (x.1,(true,())) else some (x.1,(decide (x.2 > (15:Int)),()))))).bind fun z1=> bif z1.2.1 then some false else ((iter F_linear_May_l0 (z1.1,(((List.length z1.1:Nat):Int),((0:Int),())))).bind fun w4=> match w4 with |.inl a5=>some true |.inr b6=>some b6.1)
def S_linear_May:FSem:=⟨[.v (.list false (.int .i64)),.v (.int .i64)],[.v .bool],F_linear_May⟩
def H113:Hints:=⟨[(58,[.sv 23 (.list false (.int .i64)),.sv 24 (.int .i64),.sv 25 (.int .i64)],[(.exit 0,[]),(.ret,[.sv 4 .bool])])],[(6,[(.normal,[.sv 0 (.list false (.int .i64)),.sv 22 .bool])]),(3737,[(.normal,[.sv 23 (.list false (.int .i64)),.sv 24 (.int .i64),.sv 25 (.int .i64),.sv 34 .bool])])],[]⟩
def F_long_May_l0 (st:Z3):Option (Z3 ⊕ Z0):= bif decide (st.2.1<(3:Int)) then ((gidx st.1 st.2.1).bind fun x2=> (show Option Z18 from bif decide (x2<(-64:Int)) then some (st.1,(st.2.1,(true,()))) else some (st.1,(st.2.1,(decide (x2 > (64:Int)),())))).bind fun z3=> bif z3.2.2.1 then some (.inr (Sum.inr ((false,())))) else some (.inl (z3.1,(IntKind.wrap .i64 (z3.2.1+(1:Int)),())))) else some (.inr (Sum.inl ()))
def F_long_May (x:(Int×(List Int))):Option Bool:= (show Option Z7 from bif decide (x.1<(2:Int)) then some (true,(x.2,())) else some (decide (x.1 > (1024:Int)),(x.2,()))).bind fun z1=> bif z1.1 then some false else ((iter F_long_May_l0 (z1.2.1,((0:Int),()))).bind fun w4=> match w4 with |.inl a5=>some true |.inr b6=>some b6.1)
def S_long_May:FSem:=⟨[.v (.int .i64),.v (.arr 3 (.int .i64))],[.v .bool],F_long_May⟩
def H114:Hints:=⟨[(58,[.sv 13 (.arr 3 (.int .i64)),.sv 14 (.int .i64)],[(.exit 0,[]),(.ret,[.sv 4 .bool])])],[(6,[(.normal,[.sv 12 .bool,.vp 3 (.arr 3 (.int .i64))])]),(3737,[(.normal,[.sv 13 (.arr 3 (.int .i64)),.sv 14 (.int .i64),.sv 22 .bool])])],[]⟩
def F_learn_valid (x:(Int×(Int×Unit))):Option Bool:= bif decide (x.1≥(1:Int)) then (bif decide (x.1≤(32:Int)) then (bif decide (x.2.1≥(0:Int)) then some (decide (x.2.1≤(8:Int))) else some false) else some false) else some false
def S_learn_valid:FSem:=⟨[.v Q4],[.v .bool],F_learn_valid⟩
def H177:Hints:=⟨[],[],[]⟩
def F_learn_May_l0 (st:Z55):Option (Z55 ⊕ Z0):= bif decide (st.2.2.1<st.2.1) then ((gidx st.1 st.2.2.1).bind fun x1=> (F_learn_valid x1).bind fun y2=> bif !y2 then some (.inr (Sum.inr ((false,())))) else some (.inl (st.1,(st.2.1,(IntKind.wrap .i64 (st.2.2.1+(1:Int)),()))))) else some (.inr (Sum.inl ()))
def F_learn_May (x:Z4):Option Bool:= bif decide (((List.length x:Nat):Int) > (3:Int)) then some false else ((iter F_learn_May_l0 (x,(((List.length x:Nat):Int),((0:Int),())))).bind fun w3=> match w3 with |.inl a4=>some true |.inr b5=>some b5.1)
def S_learn_May:FSem:=⟨[.v (.list false Q4)],[.v .bool],F_learn_May⟩
def H115:Hints:=⟨[(58,[.sv 8 (.list false Q4),.sv 9 (.int .i64),.sv 10 (.int .i64)],[(.exit 0,[]),(.ret,[.sv 2 .bool])])],[],[]⟩
def F_sub_fit (x:(Int×Z172)):Option Bool:= (show Option Z189 from bif x.1==(0:Int) then some (x.2.2,(x.1,(x.1==(0:Int),(x.2.1,())))) else some (x.2.2,(x.1,(x.1==(1:Int),(x.2.1,()))))).bind fun z1=> bif z1.2.2.1 then some true else (bif z1.2.1==(2:Int) then (bif decide (z1.2.2.2.1.2.2.1≥(0:Int)) then (bif decide (z1.2.2.2.1.2.2.1≤(4:Int)) then some (decide (z1.2.2.2.1.2.2.1≤z1.1)) else some false) else some false) else (bif z1.2.1==(3:Int) then ((F_linear_May (z1.2.2.2.1.2.2.2.2.2.1,z1.2.2.2.1.2.2.2.1)).bind fun y2=> bif y2 then some (decide (((List.length z1.2.2.2.1.2.2.2.2.2.1:Nat):Int)≤z1.1)) else some false) else (bif z1.2.1==(4:Int) then ((F_linear_May (z1.2.2.2.1.2.2.2.2.2.1,z1.2.2.2.1.2.2.2.1)).bind fun y3=> bif y3 then (bif decide (((List.length z1.2.2.2.1.2.2.2.2.2.1:Nat):Int)≤z1.1) then ((F_long_May (z1.2.2.2.1.2.2.2.2.1,z1.2.2.2.1.2.2.2.2.2.2.1)).bind fun y4=> some y4) else some false) else some false) else (bif z1.2.1==(5:Int) then (bif decide (((List.length z1.2.2.2.1.2.2.2.2.2.2.2.1:Nat):Int) > (0:Int)) then ((F_learn_May z1.2.2.2.1.2.2.2.2.2.2.2.1).bind fun y5=> some y5) else some false) else some false))))
def S_sub_fit:FSem:=⟨[.v (.int .i64),.v Q18,.v (.int .i64)],[.v .bool],F_sub_fit⟩
def H66:Hints:=⟨[],[(26,[(.normal,[.sv 2 (.int .i64),.sv 7 (.int .i64),.sv 8 .bool,.vp 4 Q18])])],[]⟩
def F_sub_warmth (x:Z172):Option Int:= bif x.1.1==(0:Int) then some (1:Int) else (bif x.1.1==(1:Int) then some x.2 else (bif x.1.1==(2:Int) then some x.1.2.2.1 else ((show Option Z179 from bif x.1.1==(3:Int) then some (x.1.1==(3:Int),(x.1,())) else some (x.1.1==(4:Int),(x.1,()))).bind fun z1=> bif z1.1 then some ((List.length z1.2.1.2.2.2.2.2.1:Nat):Int) else some (0:Int))))
def S_sub_warmth:FSem:=⟨[.v Q18,.v (.int .i64)],[.v (.int .i64)],F_sub_warmth⟩
def H72:Hints:=⟨[],[(1727,[(.normal,[.sv 16 .bool,.vp 2 Q18])])],[]⟩
def F_slices_Clone___int_int_ (x:(List Int)):Option (List Int):= bif List.isEmpty x then (agree (some ([]:(List Int))) (bif lim (0+(List.length x)) then some (List.append ([]:List Int) x) else none)) else (bif lim (0+(List.length x)) then some (List.append ([]:List Int) x) else none)
def S_slices_Clone___int_int_:FSem:=⟨[.v (.list false (.int .i64))],[.o (.int .i64)],F_slices_Clone___int_int_⟩
def H116:Hints:=⟨[],[],[]⟩
def F_slices_Clone___int_int_v (x:(List Int)):Option (List Int):= bif List.isEmpty x then (agree (some ([]:(List Int))) (bif lim (0+(List.length x)) then some (List.append ([]:List Int) x) else none)) else (bif lim (0+(List.length x)) then some (List.append ([]:List Int) x) else none)
def S_slices_Clone___int_int_v:FSem:=⟨[.v (.list false (.int .i64))],[.v (.list false (.int .i64))],F_slices_Clone___int_int_v⟩
def H116v:Hints:=⟨[],[],[]⟩
def F_slices_Clone___api_Stage_api_Stage_v (x:Z4):Option Z4:= bif List.isEmpty x then (agree (some ([]:Z4)) (bif lim (0+(List.length x)) then some (List.append ([]:List (Int×(Int×Unit))) x) else none)) else (bif lim (0+(List.length x)) then some (List.append ([]:List (Int×(Int×Unit))) x) else none)
def S_slices_Clone___api_Stage_api_Stage_v:FSem:=⟨[.v (.list false Q4)],[.v (.list false Q4)],F_slices_Clone___api_Stage_api_Stage_v⟩
def H117v:Hints:=⟨[],[],[]⟩
def F_sub_chosen (x:Z173):Option Z170:= (show Option Z206 from (show Option (Z211 ⊕ (Z206 ⊕ Z211)) from bif x.1==(2:Int) then some (Sum.inr (Sum.inl (((0:Int),((0:Int),((0:Int),((0:Int),((0:Int),(([]:(List Int)),(List.replicate 3 (0:Int),(([]:Z4),(([]:(List Int)),(((0:Int),(([]:(List Int)),())),(([]:(List Int)),()))))))))))),((x.1,((0:Int),(x.2.2.2.1,((0:Int),((0:Int),(([]:(List Int)),(List.replicate 3 (0:Int),(([]:Z4),(([]:(List Int)),(((0:Int),(([]:(List Int)),())),(([]:(List Int)),()))))))))))),())))) else (bif x.1==(4:Int) then some (Sum.inl (((0:Int),((0:Int),((0:Int),((0:Int),((0:Int),(([]:(List Int)),(List.replicate 3 (0:Int),(([]:Z4),(([]:(List Int)),(((0:Int),(([]:(List Int)),())),(([]:(List Int)),()))))))))))),((x.1,((0:Int),((0:Int),((0:Int),(x.2.2.2.2.2.1,(([]:(List Int)),(x.2.2.2.2.2.2.2.1,(([]:Z4),(([]:(List Int)),(((0:Int),(([]:(List Int)),())),(([]:(List Int)),()))))))))))),(x.2,())))) else (bif x.1==(3:Int) then some (Sum.inl (((0:Int),((0:Int),((0:Int),((0:Int),((0:Int),(([]:(List Int)),(List.replicate 3 (0:Int),(([]:Z4),(([]:(List Int)),(((0:Int),(([]:(List Int)),())),(([]:(List Int)),()))))))))))),((x.1,((0:Int),((0:Int),((0:Int),((0:Int),(([]:(List Int)),(List.replicate 3 (0:Int),(([]:Z4),(([]:(List Int)),(((0:Int),(([]:(List Int)),())),(([]:(List Int)),()))))))))))),(x.2,())))) else (bif x.1==(5:Int) then some (Sum.inr (Sum.inr ((((0:Int),((0:Int),((0:Int),((0:Int),((0:Int),(([]:(List Int)),(List.replicate 3 (0:Int),(([]:Z4),(([]:(List Int)),(((0:Int),(([]:(List Int)),())),(([]:(List Int)),()))))))))))),((x.1,((0:Int),((0:Int),((0:Int),((0:Int),(([]:(List Int)),(List.replicate 3 (0:Int),(([]:Z4),(([]:(List Int)),(((0:Int),(([]:(List Int)),())),(([]:(List Int)),()))))))))))),(x.2,())))))) else some (Sum.inr (Sum.inl (((0:Int),((0:Int),((0:Int),((0:Int),((0:Int),(([]:(List Int)),(List.replicate 3 (0:Int),(([]:Z4),(([]:(List Int)),(((0:Int),(([]:(List Int)),())),(([]:(List Int)),()))))))))))),((x.1,((0:Int),((0:Int),((0:Int),((0:Int),(([]:(List Int)),(List.replicate 3 (0:Int),(([]:Z4),(([]:(List Int)),(((0:Int),(([]:(List Int)),())),(([]:(List Int)),()))))))))))),())))))))).bind fun z1=> match z1 with |.inl a2=>((F_slices_Clone___int_int_v a2.2.2.1.2.2.2.2.2.1).bind fun y4=> some (a2.1,((a2.2.1.1,(a2.2.1.2.1,(a2.2.1.2.2.1,(a2.2.2.1.2.2.2.1,(a2.2.1.2.2.2.2.1,(y4,a2.2.1.2.2.2.2.2.2)))))),()))) |.inr b3=>(match b3 with |.inl a5=>some (a5.1,(a5.2.1,())) |.inr b6=>((F_slices_Clone___api_Stage_api_Stage_v b6.2.2.1.2.2.2.2.2.2.2.1).bind fun y7=> some (b6.1,((b6.2.1.1,(b6.2.1.2.1,(b6.2.1.2.2.1,(b6.2.1.2.2.2.1,(b6.2.1.2.2.2.2.1,(b6.2.1.2.2.2.2.2.1,(b6.2.1.2.2.2.2.2.2.1,(y7,b6.2.1.2.2.2.2.2.2.2.2)))))))),()))))).bind fun z8=> some z8.2.1
def S_sub_chosen:FSem:=⟨[.v (.int .i64),.v Q18],[.v Q18],F_sub_chosen⟩
def H67:Hints:=⟨[],[(7,[(.normal,[.box 4 Q18,.box 5 Q18,.ptr 4 4 [],.ptr 5 5 []])]),(232,[(.normal,[.box 4 Q18,.box 5 Q18,.vp 3 Q18,.ptr 4 4 [],.ptr 5 5 []]),(.exit 0,[.box 4 Q18,.box 5 Q18,.ptr 4 4 [],.ptr 5 5 []]),(.exit 4,[.box 4 Q18,.box 5 Q18,.vp 3 Q18,.ptr 4 4 [],.ptr 5 5 []])])],[(8,[.v,.v,.v,.v,.q,.w [0,5],.x,.x]),(9,[.v,.v,.v,.v,.v,.q,.w [0,5],.x,.x])]⟩
def F_sub_alone (x:Z170):Option Bool:= (F_sub_chosen (x.1,x)).bind fun y1=> bif x.2.2.1==y1.2.2.1 then (bif x.2.2.2.1==y1.2.2.2.1 then (bif x.2.2.2.2.1==y1.2.2.2.2.1 then (bif eqT (.arr 3 (.int .i64)) x.2.2.2.2.2.2.1 y1.2.2.2.2.2.2.1 then (bif ((List.length x.2.2.2.2.2.1:Nat):Int)==((List.length y1.2.2.2.2.2.1:Nat):Int) then some (((List.length x.2.2.2.2.2.2.2.1:Nat):Int)==((List.length y1.2.2.2.2.2.2.2.1:Nat):Int)) else some false) else some false) else some false) else some false) else some false
def S_sub_alone:FSem:=⟨[.v Q18],[.v .bool],F_sub_alone⟩
def H77:Hints:=⟨[],[],[]⟩
def F_parts_row (x:(Int×Int)):Option Bool:= bif decide ((1:Int)≤x.1) then (bif decide (x.1≤(4096:Int)) then (bif decide ((0:Int)≤x.2) then some (decide (x.2≤x.1)) else some false) else some false) else some false
def S_parts_row:FSem:=⟨[.v (.int .i64),.v (.int .i64)],[.v .bool],F_parts_row⟩
def H125:Hints:=⟨[],[],[]⟩
def F_parts_Sizes_l0 (st:Z15):Option Z66:= bif decide (st.1<0) then none else (bif decide (((List.length st.2.2.1:Nat):Int)<(gshl .i64 (1:Int) st.1)) then (bif lim ((List.length st.2.2.1)+1) then some (.inl (st.1,(st.2.1,(List.append st.2.2.1 ([st.2.1]:List Int),())))) else none) else some (.inr (st.2.2.1,())))
def F_parts_Sizes (x:(Int×(Int×Int))):Option (List Int):= (show Option Z24 from (F_parts_row (x.2.1,x.2.2)).bind fun y1=> bif !y1 then some (x.1,(x.2.1,(x.2.2,(true,())))) else (bif decide (x.1<(0:Int)) then some (x.1,(x.2.1,(x.2.2,(true,())))) else some (x.1,(x.2.1,(x.2.2,(decide (x.1 > (8:Int)),())))))).bind fun z2=> bif z2.2.2.2.1 then some ([]:(List Int)) else (bif decide (z2.1<0) then none else ((show Option Z24 from bif decide (z2.1<0) then none else (bif (gshl .i64 (gshr .i64 z2.2.1 z2.1) z2.1) != z2.2.1 then some (z2.1,(z2.2.2.1,(gshr .i64 z2.2.1 z2.1,(true,())))) else some (z2.1,(z2.2.2.1,(gshr .i64 z2.2.1 z2.1,(decide ((gshr .i64 z2.2.1 z2.1)<z2.2.2.1),())))))).bind fun z3=> bif z3.2.2.2.1 then some ([]:(List Int)) else ((iter F_parts_Sizes_l0 (z3.1,(z3.2.2.1,(([IntKind.wrap .i64 (z3.2.2.1-z3.2.1)]:List Int),())))).bind fun w4=> some w4.1)))
def S_parts_Sizes:FSem:=⟨[.v (.int .i64),.v (.int .i64),.v (.int .i64)],[.o (.int .i64)],F_parts_Sizes⟩
def H108:Hints:=⟨[(252,[.sv 0 (.int .i64),.sv 7 (.int .i64),.own 8 8 (.int .i64)],[(.exit 0,[.own 8 8 (.int .i64)])])],[(6,[(.normal,[.sv 0 (.int .i64),.sv 1 (.int .i64),.sv 2 (.int .i64),.sv 20 .bool])]),(30,[(.normal,[.sv 0 (.int .i64),.sv 2 (.int .i64),.sv 7 (.int .i64),.sv 33 .bool])])],[]⟩
def F_parts_May_l0 (st:Z14):Option Z74:= bif decide (st.2.2.1<st.2.1) then ((gidx st.1 st.2.2.1).bind fun x3=> (show Option Z34 from bif decide (x3<(0:Int)) then some (st.1,(st.2.1,(st.2.2.1,(x3 != (31:Int),())))) else (bif decide (x3 > (25:Int)) then some (st.1,(st.2.1,(st.2.2.1,(x3 != (31:Int),())))) else some (st.1,(st.2.1,(st.2.2.1,(false,())))))).bind fun z4=> bif z4.2.2.2.1 then some (.inr (Sum.inr ((false,())))) else some (.inl (z4.1,(z4.2.1,(IntKind.wrap .i64 (z4.2.2.1+(1:Int)),()))))) else some (.inr (Sum.inl ()))
def F_parts_May (x:(Z5×(Int×Int))):Option Bool:= (F_parts_Sizes (x.1.1,(x.2.1,x.2.2))).bind fun y1=> (show Option Z40 from bif ((List.length y1:Nat):Int)==(0:Int) then some (true,(x.1,())) else some (((List.length x.1.2.1:Nat):Int) != ((List.length y1:Nat):Int),(x.1,()))).bind fun z2=> bif z2.1 then some false else ((iter F_parts_May_l0 (z2.2.1.2.1,(((List.length z2.2.1.2.1:Nat):Int),((0:Int),())))).bind fun w5=> match w5 with |.inl a6=>some true |.inr b7=>some b7.1)
def S_parts_May:FSem:=⟨[.v Q6,.v (.int .i64),.v (.int .i64)],[.v .bool],F_parts_May⟩
def H78:Hints:=⟨[(122,[.sv 27 (.list false (.int .i64)),.sv 28 (.int .i64),.sv 29 (.int .i64)],[(.exit 0,[]),(.ret,[.sv 6 .bool])])],[(14,[(.normal,[.sv 25 .bool,.vp 3 Q6])]),(7833,[(.normal,[.sv 27 (.list false (.int .i64)),.sv 28 (.int .i64),.sv 29 (.int .i64),.sv 42 .bool])])],[]⟩
def F_sub_stated (x:Z172):Option Bool:= (show Option Z183 from bif decide (x.2<(1:Int)) then some (x.2,(true,(x.1,()))) else (bif decide (x.2 > (4096:Int)) then some (x.2,(true,(x.1,()))) else ((F_sub_fit (x.1.1,(x.1,x.2))).bind fun y1=> bif !y1 then some (x.2,(true,(x.1,()))) else ((F_sub_alone x.1).bind fun y2=> some (x.2,(!y2,(x.1,()))))))).bind fun z3=> bif z3.2.1 then some false else ((show Option Z183 from bif decide (z3.2.2.1.2.1<(0:Int)) then some (z3.1,(true,(z3.2.2.1,()))) else (bif decide (z3.2.2.1.2.1 > (30:Int)) then some (z3.1,(true,(z3.2.2.1,()))) else (bif z3.2.2.1.1==(0:Int) then some (z3.1,(z3.2.2.1.2.1 != (0:Int),(z3.2.2.1,()))) else some (z3.1,(false,(z3.2.2.1,())))))).bind fun z4=> bif z4.2.1 then some false else ((F_sub_warmth (z4.2.2.1,z4.1)).bind fun y5=> (show Option Z189 from bif ((List.length z4.2.2.1.2.2.2.2.2.2.2.2.1:Nat):Int) != y5 then some (z4.1,(y5,(true,(z4.2.2.1,())))) else ((F_sub_allWide z4.2.2.1.2.2.2.2.2.2.2.2.1).bind fun y6=> bif !y6 then some (z4.1,(y5,(true,(z4.2.2.1,())))) else ((F_sub_allWide z4.2.2.1.2.2.2.2.2.2.2.2.2.2.1).bind fun y7=> some (z4.1,(y5,(!y7,(z4.2.2.1,()))))))).bind fun z8=> bif z8.2.2.1 then some false else ((F_sub_rested z8.2.2.2.1.1).bind fun y9=> bif !y9 then (bif ((List.length z8.2.2.2.1.2.2.2.2.2.2.2.2.2.2.1:Nat):Int)==(0:Int) then (bif z8.2.2.2.1.2.2.2.2.2.2.2.2.2.1.1==(0:Int) then some (((List.length z8.2.2.2.1.2.2.2.2.2.2.2.2.2.1.2.1:Nat):Int)==(0:Int)) else some false) else some false) else (bif ((List.length z8.2.2.2.1.2.2.2.2.2.2.2.2.2.2.1:Nat):Int)==(IntKind.wrap .i64 (z8.1-z8.2.1)) then ((F_parts_May (z8.2.2.2.1.2.2.2.2.2.2.2.2.2.1,(z8.1,z8.2.1))).bind fun y10=> some y10) else some false))))
def S_sub_stated:FSem:=⟨[.v Q18,.v (.int .i64)],[.v .bool],F_sub_stated⟩
def H37:Hints:=⟨[],[(6,[(.normal,[.sv 1 (.int .i64),.sv 24 .bool,.vp 2 Q18])]),(14,[(.normal,[.sv 1 (.int .i64),.sv 42 .bool,.vp 2 Q18])]),(62,[(.normal,[.sv 1 (.int .i64),.sv 5 (.int .i64),.sv 62 .bool,.vp 2 Q18])])],[]⟩
def F_fixed_wide_l0 (st:Z14):Option Z74:= bif decide (st.2.2.1<st.2.1) then ((gidx st.1 st.2.2.1).bind fun x1=> (show Option Z34 from bif decide (x1<(-1073741824:Int)) then some (st.1,(st.2.1,(st.2.2.1,(true,())))) else some (st.1,(st.2.1,(st.2.2.1,(decide (x1≥(1073741824:Int)),()))))).bind fun z2=> bif z2.2.2.2.1 then some (.inr (Sum.inr ((false,())))) else some (.inl (z2.1,(z2.2.1,(IntKind.wrap .i64 (z2.2.2.1+(1:Int)),()))))) else some (.inr (Sum.inl ()))
def F_fixed_wide (x:(List Int)):Option Bool:= (iter F_fixed_wide_l0 (x,(((List.length x:Nat):Int),((0:Int),())))).bind fun w3=> match w3 with |.inl a4=>some true |.inr b5=>some b5.1
def S_fixed_wide:FSem:=⟨[.v (.list false (.int .i64))],[.v .bool],F_fixed_wide⟩
def H127:Hints:=⟨[(26,[.sv 5 (.list false (.int .i64)),.sv 6 (.int .i64),.sv 7 (.int .i64)],[(.exit 0,[]),(.ret,[.sv 2 .bool])])],[(1689,[(.normal,[.sv 5 (.list false (.int .i64)),.sv 6 (.int .i64),.sv 7 (.int .i64),.sv 16 .bool])])],[]⟩
def F_fixed_guess_1 (x:(Int×(List Int))):Option (Int×(List Int)):= (gidx x.2 (IntKind.wrap .i64 (((List.length x.2:Nat):Int)-x.1))).bind fun x1=> some (x1,x.2)
def S_fixed_guess_1:FSem:=⟨[.v (.int .i64),.r (.list false (.int .i64))],[.v (.int .i64)],F_fixed_guess_1⟩
def H180:Hints:=⟨[],[],[]⟩
def F_fixed_guess (x:((List Int)×Int)):Option Int:= bif x.2==(1:Int) then ((F_fixed_guess_1 ((1:Int),x.1)).bind fun y1=> some y1.1) else (bif x.2==(2:Int) then ((F_fixed_guess_1 ((1:Int),x.1)).bind fun y2=> (F_fixed_guess_1 ((2:Int),y2.2)).bind fun y3=> some (IntKind.wrap .i64 ((IntKind.wrap .i64 ((2:Int)*y2.1))-y3.1))) else (bif x.2==(3:Int) then ((F_fixed_guess_1 ((1:Int),x.1)).bind fun y4=> (F_fixed_guess_1 ((2:Int),y4.2)).bind fun y5=> (F_fixed_guess_1 ((3:Int),y5.2)).bind fun y6=> some (IntKind.wrap .i64 ((IntKind.wrap .i64 ((IntKind.wrap .i64 ((3:Int)*y4.1))-(IntKind.wrap .i64 ((3:Int)*y5.1))))+y6.1))) else (bif x.2==(4:Int) then ((F_fixed_guess_1 ((1:Int),x.1)).bind fun y7=> (F_fixed_guess_1 ((2:Int),y7.2)).bind fun y8=> (F_fixed_guess_1 ((3:Int),y8.2)).bind fun y9=> (F_fixed_guess_1 ((4:Int),y9.2)).bind fun y10=> some (IntKind.wrap .i64 ((IntKind.wrap .i64 ((IntKind.wrap .i64 ((IntKind.wrap .i64 ((4:Int)*y7.1))-(IntKind.wrap .i64 ((6:Int)*y8.1))))+(IntKind.wrap .i64 ((4:Int)*y9.1))))-y10.1))) else some (0:Int))))
def S_fixed_guess:FSem:=⟨[.v (.list false (.int .i64)),.v (.int .i64)],[.v (.int .i64)],F_fixed_guess⟩
def H128:Hints:=⟨[],[],[]⟩
def F_fixed_Back_l0 (st:Z61):Option Z143:= bif decide (st.2.2.2.1<st.2.2.1) then ((gidx st.2.1 st.2.2.2.1).bind fun x5=> (F_fixed_guess (st.2.2.2.2.1,st.1)).bind fun y6=> (F_fixed_wide ([IntKind.wrap .i64 (x5+y6)]:List Int)).bind fun y7=> bif !y7 then some (.inr (Sum.inr (((6:Int),(([]:(List Int)),()))))) else (bif lim ((List.length st.2.2.2.2.1)+1) then some (.inl (st.1,(st.2.1,(st.2.2.1,(IntKind.wrap .i64 (st.2.2.2.1+(1:Int)),(List.append st.2.2.2.2.1 ([IntKind.wrap .i64 (x5+y6)]:List Int),())))))) else none)) else some (.inr (Sum.inl (st.2.2.2.2.1,())))
def F_fixed_Back (x:Z11):Option ((List Int)×Int):= (show Option Z50 from bif decide (x.2.2<(0:Int)) then some (x.1,(x.2.1,(x.2.2,(true,())))) else (bif decide (x.2.2 > (4:Int)) then some (x.1,(x.2.1,(x.2.2,(true,())))) else some (x.1,(x.2.1,(x.2.2,(((List.length x.1:Nat):Int) != x.2.2,())))))).bind fun z1=> bif z1.2.2.2.1 then some (([]:(List Int)),(1:Int)) else ((show Option Z50 from (F_fixed_wide z1.1).bind fun y2=> bif !y2 then some (z1.1,(z1.2.1,(z1.2.2.1,(true,())))) else ((F_fixed_wide z1.2.1).bind fun y3=> some (z1.1,(z1.2.1,(z1.2.2.1,(!y3,())))))).bind fun z4=> bif z4.2.2.2.1 then some (([]:(List Int)),(6:Int)) else (bif lim (List.length z4.1) then ((iter F_fixed_Back_l0 (z4.2.2.1,(z4.2.1,(((List.length z4.2.1:Nat):Int),((0:Int),(z4.1,())))))).bind fun w8=> match w8 with |.inl a9=>some (a9.1,(0:Int)) |.inr b10=>some (b10.2.1,b10.1)) else none))
def S_fixed_Back:FSem:=⟨[.v (.list false (.int .i64)),.v (.list false (.int .i64)),.v (.int .i64)],[.o (.int .i64),.v (.int .i64)],F_fixed_Back⟩
def H79:Hints:=⟨[(250,[.sv 2 (.int .i64),.sv 34 (.list false (.int .i64)),.sv 35 (.int .i64),.sv 36 (.int .i64),.own 8 8 (.int .i64)],[(.exit 0,[.own 8 8 (.int .i64)]),(.ret,[.sv 7 (.int .i64),.own 6 6 (.int .i64)])])],[(6,[(.normal,[.sv 0 (.list false (.int .i64)),.sv 1 (.list false (.int .i64)),.sv 2 (.int .i64),.sv 23 .bool])]),(14,[(.normal,[.sv 0 (.list false (.int .i64)),.sv 1 (.list false (.int .i64)),.sv 2 (.int .i64),.sv 31 .bool])])],[]⟩
def F_linear_wide (x:Int):Option Bool:= bif decide (x≥(-1073741824:Int)) then some (decide (x<(1073741824:Int))) else some false
def S_linear_wide:FSem:=⟨[.v (.int .i64)],[.v .bool],F_linear_wide⟩
def H131:Hints:=⟨[],[],[]⟩
def F_linear_allWide_l0 (st:Z14):Option Z74:= bif decide (st.2.2.1<st.2.1) then ((gidx st.1 st.2.2.1).bind fun x1=> (F_linear_wide x1).bind fun y2=> bif !y2 then some (.inr (Sum.inr ((false,())))) else some (.inl (st.1,(st.2.1,(IntKind.wrap .i64 (st.2.2.1+(1:Int)),()))))) else some (.inr (Sum.inl ()))
def F_linear_allWide (x:(List Int)):Option Bool:= (iter F_linear_allWide_l0 (x,(((List.length x:Nat):Int),((0:Int),())))).bind fun w3=> match w3 with |.inl a4=>some true |.inr b5=>some b5.1
def S_linear_allWide:FSem:=⟨[.v (.list false (.int .i64))],[.v .bool],F_linear_allWide⟩
def H129:Hints:=⟨[(26,[.sv 5 (.list false (.int .i64)),.sv 6 (.int .i64),.sv 7 (.int .i64)],[(.exit 0,[]),(.ret,[.sv 2 .bool])])],[],[]⟩
def F_linear_predict_l0 (st:Z81):Option (Z81 ⊕ (Int×(Int×Unit))):= bif decide (st.2.2.2.2.2.1<st.2.2.2.2.1) then ((gidx st.2.2.2.1 st.2.2.2.2.2.1).bind fun x1=> bif decide ((IntKind.wrap .i64 ((IntKind.wrap .i64 (((List.length st.1:Nat):Int)-(1:Int)))-st.2.2.2.2.2.1))<(0:Int)) then some (.inr (st.2.1,(st.2.2.1,()))) else ((gidx st.1 (IntKind.wrap .i64 ((IntKind.wrap .i64 (((List.length st.1:Nat):Int)-(1:Int)))-st.2.2.2.2.2.1))).bind fun x2=> some (.inl (st.1,(st.2.1,(IntKind.wrap .i64 (st.2.2.1+(IntKind.wrap .i64 (x1*x2))),(st.2.2.2.1,(st.2.2.2.2.1,(IntKind.wrap .i64 (st.2.2.2.2.2.1+(1:Int)),()))))))))) else some (.inr (st.2.1,(st.2.2.1,())))
def F_linear_predict (x:Z11):Option Int:= (iter F_linear_predict_l0 (x.1,(x.2.2,((0:Int),(x.2.1,(((List.length x.2.1:Nat):Int),((0:Int),()))))))).bind fun w3=> bif decide (w3.1<0) then none else some (gshr .i64 w3.2.1 w3.1)
def S_linear_predict:FSem:=⟨[.v (.list false (.int .i64)),.v (.list false (.int .i64)),.v (.int .i64)],[.v (.int .i64)],F_linear_predict⟩
def H130:Hints:=⟨[(58,[.sv 0 (.list false (.int .i64)),.sv 2 (.int .i64),.sv 7 (.int .i64),.sv 11 (.list false (.int .i64)),.sv 12 (.int .i64),.sv 13 (.int .i64)],[(.exit 0,[.sv 2 (.int .i64),.sv 7 (.int .i64)])])],[],[]⟩
def F_linear_Back_l0 (st:Z96):Option (Z96 ⊕ Z49):= bif decide (st.2.2.2.2.1<st.2.2.2.1) then ((gidx st.2.2.1 st.2.2.2.2.1).bind fun x6=> (F_linear_predict (st.2.2.2.2.2.1,(st.1,st.2.1))).bind fun y7=> (F_linear_wide (IntKind.wrap .i64 (y7+x6))).bind fun y8=> bif !y8 then some (.inr (Sum.inr (((6:Int),(([]:(List Int)),()))))) else (bif lim ((List.length st.2.2.2.2.2.1)+1) then some (.inl (st.1,(st.2.1,(st.2.2.1,(st.2.2.2.1,(IntKind.wrap .i64 (st.2.2.2.2.1+(1:Int)),(List.append st.2.2.2.2.2.1 ([IntKind.wrap .i64 (y7+x6)]:List Int),()))))))) else none)) else some (.inr (Sum.inl (st.2.2.2.2.2.1,())))
def F_linear_Back (x:((List Int)×Z11)):Option ((List Int)×Int):= (show Option Z82 from (F_linear_May (x.2.2.1,x.2.2.2)).bind fun y1=> bif !y1 then some (x.1,(x.2.1,(x.2.2.1,(x.2.2.2,(true,()))))) else some (x.1,(x.2.1,(x.2.2.1,(x.2.2.2,(((List.length x.1:Nat):Int) != ((List.length x.2.2.1:Nat):Int),())))))).bind fun z2=> bif z2.2.2.2.2.1 then some (([]:(List Int)),(1:Int)) else ((show Option Z82 from (F_linear_allWide z2.1).bind fun y3=> bif !y3 then some (z2.1,(z2.2.1,(z2.2.2.1,(z2.2.2.2.1,(true,()))))) else ((F_linear_allWide z2.2.1).bind fun y4=> some (z2.1,(z2.2.1,(z2.2.2.1,(z2.2.2.2.1,(!y4,()))))))).bind fun z5=> bif z5.2.2.2.2.1 then some (([]:(List Int)),(6:Int)) else (bif (decide ((0:Int)≤(IntKind.wrap .i64 (((List.length z5.1:Nat):Int)+((List.length z5.2.1:Nat):Int)))))&&(lim (Int.toNat (IntKind.wrap .i64 (((List.length z5.1:Nat):Int)+((List.length z5.2.1:Nat):Int))))) then (bif lim (0+(List.length z5.1)) then ((iter F_linear_Back_l0 (z5.2.2.1,(z5.2.2.2.1,(z5.2.1,(((List.length z5.2.1:Nat):Int),((0:Int),(List.append ([]:(List Int)) z5.1,()))))))).bind fun w9=> match w9 with |.inl a10=>some (a10.1,(0:Int)) |.inr b11=>some (b11.2.1,b11.1)) else none) else none))
def S_linear_Back:FSem:=⟨[.v (.list false (.int .i64)),.v (.list false (.int .i64)),.v (.list false (.int .i64)),.v (.int .i64)],[.o (.int .i64),.v (.int .i64)],F_linear_Back⟩
def H80:Hints:=⟨[(506,[.sv 2 (.list false (.int .i64)),.sv 3 (.int .i64),.sv 42 (.list false (.int .i64)),.sv 43 (.int .i64),.sv 44 (.int .i64),.own 10 10 (.int .i64)],[(.exit 0,[.own 10 10 (.int .i64)]),(.ret,[.sv 9 (.int .i64),.own 8 8 (.int .i64)])])],[(6,[(.normal,[.sv 0 (.list false (.int .i64)),.sv 1 (.list false (.int .i64)),.sv 2 (.list false (.int .i64)),.sv 3 (.int .i64),.sv 24 .bool])]),(14,[(.normal,[.sv 0 (.list false (.int .i64)),.sv 1 (.list false (.int .i64)),.sv 2 (.list false (.int .i64)),.sv 3 (.int .i64),.sv 32 .bool])])],[]⟩
def F_long_wide (x:Int):Option Bool:= bif decide (x≥(-1073741824:Int)) then some (decide (x<(1073741824:Int))) else some false
def S_long_wide:FSem:=⟨[.v (.int .i64)],[.v .bool],F_long_wide⟩
def H134:Hints:=⟨[],[],[]⟩
def F_long_allWide_l0 (st:Z14):Option Z74:= bif decide (st.2.2.1<st.2.1) then ((gidx st.1 st.2.2.1).bind fun x1=> (F_long_wide x1).bind fun y2=> bif !y2 then some (.inr (Sum.inr ((false,())))) else some (.inl (st.1,(st.2.1,(IntKind.wrap .i64 (st.2.2.1+(1:Int)),()))))) else some (.inr (Sum.inl ()))
def F_long_allWide (x:(List Int)):Option Bool:= (iter F_long_allWide_l0 (x,(((List.length x:Nat):Int),((0:Int),())))).bind fun w3=> match w3 with |.inl a4=>some true |.inr b5=>some b5.1
def S_long_allWide:FSem:=⟨[.v (.list false (.int .i64))],[.v .bool],F_long_allWide⟩
def H132:Hints:=⟨[(26,[.sv 5 (.list false (.int .i64)),.sv 6 (.int .i64),.sv 7 (.int .i64)],[(.exit 0,[]),(.ret,[.sv 2 .bool])])],[],[]⟩
def F_long_predict_l0 (st:Z83):Option (Z83 ⊕ (Int×Unit)):= bif decide (st.2.2.2.2.2.1<(3:Int)) then ((gidx st.2.2.2.2.1 st.2.2.2.2.2.1).bind fun x1=> bif decide ((IntKind.wrap .i64 ((IntKind.wrap .i64 ((IntKind.wrap .i64 (st.2.1-st.2.2.1))-(1:Int)))+st.2.2.2.2.2.1))≥(0:Int)) then ((gidx st.1 (IntKind.wrap .i64 ((IntKind.wrap .i64 ((IntKind.wrap .i64 (st.2.1-st.2.2.1))-(1:Int)))+st.2.2.2.2.2.1))).bind fun x2=> some (.inl (st.1,(st.2.1,(st.2.2.1,(IntKind.wrap .i64 (st.2.2.2.1+(IntKind.wrap .i64 (x1*x2))),(st.2.2.2.2.1,(IntKind.wrap .i64 (st.2.2.2.2.2.1+(1:Int)),())))))))) else some (.inl (st.1,(st.2.1,(st.2.2.1,(st.2.2.2.1,(st.2.2.2.2.1,(IntKind.wrap .i64 (st.2.2.2.2.2.1+(1:Int)),())))))))) else some (.inr (st.2.2.2.1,()))
def F_long_predict (x:((List Int)×Z1)):Option Int:= (iter F_long_predict_l0 (x.1,(x.2.1,(x.2.2.1,((0:Int),(x.2.2.2,((0:Int),()))))))).bind fun w3=> some (gshr .i64 w3.1 (6:Int))
def S_long_predict:FSem:=⟨[.v (.list false (.int .i64)),.v (.int .i64),.v (.int .i64),.v (.arr 3 (.int .i64))],[.v (.int .i64)],F_long_predict⟩
def H133:Hints:=⟨[(58,[.sv 0 (.list false (.int .i64)),.sv 1 (.int .i64),.sv 2 (.int .i64),.sv 9 (.int .i64),.sv 13 (.arr 3 (.int .i64)),.sv 14 (.int .i64)],[(.exit 0,[.sv 9 (.int .i64)])])],[],[]⟩
def F_long_Back_l0 (st:Z97):Option (Z97 ⊕ Z49):= bif decide (st.2.2.2.1<st.2.2.1) then ((gidx st.2.1 st.2.2.2.1).bind fun x3=> (F_long_predict (st.2.2.2.2.1,(st.2.2.2.1,(st.1,st.2.2.2.2.2.1)))).bind fun y4=> (F_long_wide (IntKind.wrap .i64 (x3+y4))).bind fun y5=> bif !y5 then some (.inr (Sum.inr (((6:Int),(([]:(List Int)),()))))) else (bif lim ((List.length st.2.2.2.2.1)+1) then some (.inl (st.1,(st.2.1,(st.2.2.1,(IntKind.wrap .i64 (st.2.2.2.1+(1:Int)),(List.append st.2.2.2.2.1 ([IntKind.wrap .i64 (x3+y4)]:List Int),(st.2.2.2.2.2.1,()))))))) else none)) else some (.inr (Sum.inl (st.2.2.2.2.1,())))
def F_long_Back (x:Z12):Option ((List Int)×Int):= (F_long_May (x.2.1,x.2.2)).bind fun y1=> bif !y1 then some (([]:(List Int)),(1:Int)) else ((F_long_allWide x.1).bind fun y2=> bif !y2 then some (([]:(List Int)),(6:Int)) else (bif (decide ((0:Int)≤((List.length x.1:Nat):Int)))&&(lim (Int.toNat ((List.length x.1:Nat):Int))) then ((iter F_long_Back_l0 (x.2.1,(x.1,(((List.length x.1:Nat):Int),((0:Int),(([]:(List Int)),(x.2.2,()))))))).bind fun w6=> match w6 with |.inl a7=>some (a7.1,(0:Int)) |.inr b8=>some (b8.2.1,b8.1)) else none))
def S_long_Back:FSem:=⟨[.v (.list false (.int .i64)),.v (.int .i64),.v (.arr 3 (.int .i64))],[.o (.int .i64),.v (.int .i64)],F_long_Back⟩
def H81:Hints:=⟨[(250,[.sv 1 (.int .i64),.sv 22 (.list false (.int .i64)),.sv 23 (.int .i64),.sv 24 (.int .i64),.own 8 8 (.int .i64),.vp 5 (.arr 3 (.int .i64))],[(.exit 0,[.own 8 8 (.int .i64)]),(.ret,[.sv 7 (.int .i64),.own 6 6 (.int .i64)])])],[],[]⟩
def F_learn_wide (x:Int):Option Bool:= bif decide (x≥(-1073741824:Int)) then some (decide (x<(1073741824:Int))) else some false
def S_learn_wide:FSem:=⟨[.v (.int .i64)],[.v .bool],F_learn_wide⟩
def H139:Hints:=⟨[],[],[]⟩
def F_learn_allWide_l0 (st:Z14):Option Z74:= bif decide (st.2.2.1<st.2.1) then ((gidx st.1 st.2.2.1).bind fun x1=> (F_learn_wide x1).bind fun y2=> bif !y2 then some (.inr (Sum.inr ((false,())))) else some (.inl (st.1,(st.2.1,(IntKind.wrap .i64 (st.2.2.1+(1:Int)),()))))) else some (.inr (Sum.inl ()))
def F_learn_allWide (x:(List Int)):Option Bool:= (iter F_learn_allWide_l0 (x,(((List.length x:Nat):Int),((0:Int),())))).bind fun w3=> match w3 with |.inl a4=>some true |.inr b5=>some b5.1
def S_learn_allWide:FSem:=⟨[.v (.list false (.int .i64))],[.v .bool],F_learn_allWide⟩
def H135:Hints:=⟨[(26,[.sv 5 (.list false (.int .i64)),.sv 6 (.int .i64),.sv 7 (.int .i64)],[(.exit 0,[]),(.ret,[.sv 2 .bool])])],[],[]⟩
def F_learn_New (x:(Int×(Int×Unit))):Option Z46:= (F_learn_valid x).bind fun y1=> bif !y1 then none else (bif (decide ((0:Int)≤x.1))&&((decide (x.1≤x.1))&&(lim (Int.toNat x.1))) then (bif (decide ((0:Int)≤x.1))&&((decide (x.1≤x.1))&&(lim (Int.toNat x.1))) then some ((x.2.1,(List.replicate (Int.toNat x.1) (0:Int),(List.replicate (Int.toNat x.1) (0:Int),()))),(0:Int)) else none) else none)
def S_learn_New:FSem:=⟨[.v Q4],[.b Q8,.v (.int .i64)],F_learn_New⟩
def H137:Hints:=⟨[],[],[(3,[.v,.v,.v,.v,.q,.v,.v,.q,.x,.x,.x,.x])]⟩
def F_learn_nearest (x:Int):Option Int:= some (imin (imax x (-1073741824:Int)) (1073741823:Int))
def S_learn_nearest:FSem:=⟨[.v (.int .i64)],[.v (.int .i64)],F_learn_nearest⟩
def H182:Hints:=⟨[],[],[]⟩
def F_learn_Filter_Guess_l0 (st:Z102):Option (Z102 ⊕ Z67):= bif decide (st.2.2.1<st.2.1) then (bif (decide ((0:Int)≤st.2.2.1))&&(decide (st.2.2.1<((List.length st.2.2.2.1.2.1:Nat):Int))) then (bif (decide ((0:Int)≤st.2.2.1))&&(decide (st.2.2.1<((List.length st.2.2.2.1.2.2.1:Nat):Int))) then some (.inl (IntKind.wrap .i64 (st.1+(IntKind.wrap .i64 ((List.getD st.2.2.2.1.2.1 (Int.toNat st.2.2.1) (0:Int))*(List.getD st.2.2.2.1.2.2.1 (Int.toNat st.2.2.1) (0:Int))))),(st.2.1,(IntKind.wrap .i64 (st.2.2.1+(1:Int)),(st.2.2.2.1,()))))) else none) else none) else some (.inr (st.1,(st.2.2.2.1,())))
def F_learn_Filter_Guess (x:Z25):Option Z45:= (iter F_learn_Filter_Guess_l0 ((0:Int),(((List.length x.2.1:Nat):Int),((0:Int),(x,()))))).bind fun w1=> (F_learn_nearest (gshr .i64 w1.1 (16:Int))).bind fun y2=> some (y2,w1.2.1)
def S_learn_Filter_Guess:FSem:=⟨[.r Q8],[.v (.int .i64)],F_learn_Filter_Guess⟩
def H138:Hints:=⟨[(58,[.sv 3 (.int .i64),.sv 10 (.int .i64),.sv 11 (.int .i64),.box 1000000 Q8,.ptr 0 1000000 [],.ref 9 1000000 [.snd,.fst]],[(.exit 0,[.sv 3 (.int .i64),.box 1000000 Q8])])],[],[]⟩
def F_learn_Filter_Tell_l0 (st:Z113):Option (Z113 ⊕ Z67):= bif decide (st.2.2.2.1<st.2.2.1) then (bif (decide ((0:Int)≤st.2.2.2.1))&&(decide (st.2.2.2.1<((List.length st.2.2.2.2.1.2.2.1:Nat):Int))) then (bif (decide ((0:Int)≤st.2.2.2.1))&&(decide (st.2.2.2.1<((List.length st.2.2.2.2.1.2.1:Nat):Int))) then ((show Option (Int×(Int×Z113)) from bif decide ((List.getD st.2.2.2.2.1.2.2.1 (Int.toNat st.2.2.2.1) (0:Int)) > (0:Int)) then some (st.1,(st.2.1,(st.2.2.2.1,(IntKind.wrap .i64 ((List.getD st.2.2.2.2.1.2.1 (Int.toNat st.2.2.2.1) (0:Int))+st.2.1),(st.2.2.1,(st.2.2.2.1,(st.2.2.2.2.1,()))))))) else (bif decide ((List.getD st.2.2.2.2.1.2.2.1 (Int.toNat st.2.2.2.1) (0:Int))<(0:Int)) then some (st.1,(st.2.1,(st.2.2.2.1,(IntKind.wrap .i64 ((List.getD st.2.2.2.2.1.2.1 (Int.toNat st.2.2.2.1) (0:Int))-st.2.1),(st.2.2.1,(st.2.2.2.1,(st.2.2.2.2.1,()))))))) else some (st.1,(st.2.1,(st.2.2.2.1,(List.getD st.2.2.2.2.1.2.1 (Int.toNat st.2.2.2.1) (0:Int),(st.2.2.1,(st.2.2.2.1,(st.2.2.2.2.1,()))))))))).bind fun z4=> bif (decide ((0:Int)≤z4.2.2.1))&&(decide (z4.2.2.1<((List.length z4.2.2.2.2.2.2.1.2.1:Nat):Int))) then some (.inl (z4.1,(z4.2.1,(z4.2.2.2.2.1,(IntKind.wrap .i64 (z4.2.2.2.2.2.1+(1:Int)),((z4.2.2.2.2.2.2.1.1,(List.set z4.2.2.2.2.2.2.1.2.1 (Int.toNat z4.2.2.1) (imin (imax z4.2.2.2.1 (-1048576:Int)) (1048576:Int)),z4.2.2.2.2.2.2.1.2.2)),())))))) else none) else none) else none) else some (.inr (st.1,(st.2.2.2.2.1,())))
def F_learn_Filter_Tell (x:Z46):Option Z25:= (F_learn_nearest x.2).bind fun y1=> (show Option Z86 from (F_learn_Filter_Guess x.1).bind fun y2=> bif decide (y1 > y2.1) then (bif decide (y2.2.1<0) then none else some (y1,(gshl .i64 (1:Int) y2.2.1,(y2.2,())))) else (bif decide (y1<y2.1) then (bif decide (y2.2.1<0) then none else some (y1,(IntKind.wrap .i64 (0-(gshl .i64 (1:Int) y2.2.1)),(y2.2,())))) else some (y1,((0:Int),(y2.2,()))))).bind fun z3=> (iter F_learn_Filter_Tell_l0 (z3.1,(z3.2.1,(((List.length z3.2.2.1.2.2.1:Nat):Int),((0:Int),(z3.2.2.1,())))))).bind fun w5=> bif decide ((1:Int)≤((List.length w5.2.1.2.2.1:Nat):Int)) then (bif decide ((0:Int)<((List.length (gcopy w5.2.1.2.2.1 1 ((List.length w5.2.1.2.2.1)-1) w5.2.1.2.2.1):Nat):Int)) then some (w5.2.1.1,(w5.2.1.2.1,(List.set (gcopy w5.2.1.2.2.1 1 ((List.length w5.2.1.2.2.1)-1) w5.2.1.2.2.1) 0 w5.1,w5.2.1.2.2.2))) else none) else none
def S_learn_Filter_Tell:FSem:=⟨[.r Q8,.v (.int .i64)],[],F_learn_Filter_Tell⟩
def H140:Hints:=⟨[(122,[.sv 1 (.int .i64),.sv 4 (.int .i64),.sv 36 (.int .i64),.sv 37 (.int .i64),.box 1000000 Q8,.ptr 0 1000000 [],.ref 35 1000000 [.snd,.snd,.fst]],[(.exit 1,[.sv 1 (.int .i64),.box 1000000 Q8,.ptr 0 1000000 []])])],[(7,[(.normal,[.sv 1 (.int .i64),.sv 4 (.int .i64),.box 1000000 Q8,.ptr 0 1000000 []])]),(15667,[(.normal,[.sv 1 (.int .i64),.sv 4 (.int .i64),.sv 6 (.int .i64),.sv 8 (.int .i64),.sv 36 (.int .i64),.sv 37 (.int .i64),.box 1000000 Q8,.ptr 0 1000000 [],.ref 35 1000000 [.snd,.snd,.fst]])])],[(17,[.q,.q,.q,.q,.q,.q,.q,.q,.q,.x])]⟩
def F_learn_Back_l1 (st:Z137):Option (Z137 ⊕ (Z26 ⊕ Z26)):= bif decide (st.2.1<st.1) then (bif (decide ((0:Int)≤st.2.1))&&(decide (st.2.1<((List.length st.2.2.2.2.1:Nat):Int))) then ((F_learn_Filter_Guess st.2.2.2.2.2.1).bind fun y6=> (F_learn_wide (IntKind.wrap .i64 (y6.1+(List.getD st.2.2.2.2.1 (Int.toNat st.2.1) (0:Int))))).bind fun y7=> bif !y7 then some (.inr (Sum.inr ((([]:(List Int)),((6:Int),(st.2.2.2.2.1,())))))) else ((F_learn_Filter_Tell (y6.2,IntKind.wrap .i64 (y6.1+(List.getD st.2.2.2.2.1 (Int.toNat st.2.1) (0:Int))))).bind fun y8=> bif (decide ((0:Int)≤st.2.1))&&(decide (st.2.1<((List.length st.2.2.2.2.1:Nat):Int))) then some (.inl (st.1,(IntKind.wrap .i64 (st.2.1+(1:Int)),(st.2.2.1,(st.2.2.2.1,(List.set st.2.2.2.2.1 (Int.toNat st.2.1) (IntKind.wrap .i64 (y6.1+(List.getD st.2.2.2.2.1 (Int.toNat st.2.1) (0:Int)))),(y8,()))))))) else none)) else none) else some (.inr (Sum.inl (st.2.2.1,(st.2.2.2.1,(st.2.2.2.2.1,())))))
def F_learn_Back_l0 (k:Int) (v:(Int×(Int×Unit))) (st:Z100):Option (Z100 ⊕ (Ex×Z100)):= (F_learn_New v).bind fun y4=> bif y4.2 != (0:Int) then some (.inr (.ret,(st.1,(([]:(List Int)),(y4.2,(st.2.2.2.1,())))))) else ((iter F_learn_Back_l1 (((List.length st.2.2.2.1:Nat):Int),((0:Int),(st.2.1,(st.2.2.1,(st.2.2.2.1,(y4.1,()))))))).bind fun w9=> match w9 with |.inl a10=>some (.inl (st.1,(a10.1,(a10.2.1,(a10.2.2.1,()))))) |.inr b11=>some (.inr (.ret,(st.1,(b11.1,(b11.2.1,(b11.2.2.1,())))))))
def F_learn_Back (x:Z27):Option ((List Int)×Int):= (F_learn_May x.2).bind fun y1=> bif !y1 then some (([]:(List Int)),(1:Int)) else ((F_learn_allWide x.1).bind fun y2=> bif !y2 then some (([]:(List Int)),(6:Int)) else ((F_slices_Clone___int_int_ x.1).bind fun y3=> bif lim (List.length x.2) then ((backN F_learn_Back_l0 x.2 (List.length x.2) (x.2,(([]:(List Int)),((0:Int),(y3,()))))).bind fun w12=> match w12 with |.inl a13=>some (a13.2.2.2.1,(0:Int)) |.inr (.normal,a14)=>some (a14.2.2.2.1,(0:Int)) |.inr (.exit e15,a14)=>(bif e15==0 then some (a14.2.2.2.1,(0:Int)) else none) |.inr (.ret,a14)=>some (a14.2.1,a14.2.2.1)) else none))
def S_learn_Back:FSem:=⟨[.v (.list false (.int .i64)),.v (.list false Q4)],[.v (.list false (.int .i64)),.v (.int .i64)],F_learn_Back⟩
def H82:Hints:=⟨[(8046,[.sv 35 (.int .i64),.sv 36 (.int .i64),.box 1001004 (.list false (.int .i64)),.box 1001005 (.int .i64),.box 1001006 (.list true (.int .i64)),.box 1028 Q8,.ptr 4 1001004 [],.ptr 5 1001005 [],.ptr 6 1001006 [],.ptr 9 1028 [],.ref 34 1001006 []],[(.exit 2,[.box 1001004 (.list false (.int .i64)),.box 1001005 (.int .i64),.box 1001006 (.list true (.int .i64)),.ptr 4 1001004 [],.ptr 5 1001005 [],.ptr 6 1001006 []]),(.ret,[.box 1001004 (.list false (.int .i64)),.box 1001005 (.int .i64),.box 1001006 (.list true (.int .i64)),.ptr 4 1001004 [],.ptr 5 1001005 [],.ptr 6 1001006 []])])],[],[]⟩
@[reducible] def cxOf (a:List (Nat×FSem)) (b:List (Nat×Ty)) (c d:List Nat):Cx:=⟨ptrT,eqT0,T0,fun f=>find a f,fun n=>find b n,fun i=>c.contains i,fun i=>d.contains i,G0⟩
def cx82:Cx:=cxOf [(115,S_learn_May),(116,S_slices_Clone___int_int_),(135,S_learn_allWide),(137,S_learn_New),(138,S_learn_Filter_Guess),(139,S_learn_wide),(140,S_learn_Filter_Tell)] [(6,.list true (.int .i64))] [0,1,9,10,11,12,13] [56]
def R82:HintR:=⟨22,Q4,136,181,[4,5,6],[.sv 22 (.list false Q4),.box 1001004 (.list false (.int .i64)),.box 1001005 (.int .i64),.box 1001006 (.list true (.int .i64)),.ptr 4 1001004 [],.ptr 5 1001005 [],.ptr 6 1001006 []]⟩
theorem eq82 (x):arunR cx82 H82 R82 Tryz.f82 S_learn_Back.ps S_learn_Back.rs x=S_learn_Back.F x:=by kernel_rfl
def F_sample_wide (x:Int):Option Bool:= bif decide ((-1073741824:Int)≤x) then some (decide (x<(1073741824:Int))) else some false
def S_sample_wide:FSem:=⟨[.v (.int .i64)],[.v .bool],F_sample_wide⟩
def H93:Hints:=⟨[],[],[]⟩
def F_sample_Up_l0 (st:Z61):Option Z143:= bif decide (st.2.2.2.1<st.2.2.1) then ((gidx st.2.1 st.2.2.2.1).bind fun x2=> (show Option Z103 from (F_sample_wide x2).bind fun y3=> bif !y3 then some (st.1,(x2,(st.2.1,(st.2.2.1,(st.2.2.2.1,(true,(st.2.2.2.2.1,()))))))) else (bif decide (st.1<0) then none else ((F_sample_wide (gshl .i64 x2 st.1)).bind fun y4=> some (st.1,(x2,(st.2.1,(st.2.2.1,(st.2.2.2.1,(!y4,(st.2.2.2.2.1,())))))))))).bind fun z5=> bif z5.2.2.2.2.2.1 then some (.inr (Sum.inr (((6:Int),(([]:(List Int)),()))))) else (bif decide (z5.1<0) then none else (bif lim ((List.length z5.2.2.2.2.2.2.1)+1) then some (.inl (z5.1,(z5.2.2.1,(z5.2.2.2.1,(IntKind.wrap .i64 (z5.2.2.2.2.1+(1:Int)),(List.append z5.2.2.2.2.2.2.1 ([gshl .i64 z5.2.1 z5.1]:List Int),())))))) else none))) else some (.inr (Sum.inl (st.2.2.2.2.1,())))
def F_sample_Up (x:((List Int)×Int)):Option ((List Int)×Int):= (show Option Z18 from bif decide (x.2<(0:Int)) then some (x.1,(x.2,(true,()))) else some (x.1,(x.2,(decide (x.2 > (30:Int)),())))).bind fun z1=> bif z1.2.2.1 then some (([]:(List Int)),(1:Int)) else ((iter F_sample_Up_l0 (z1.2.1,(z1.1,(((List.length z1.1:Nat):Int),((0:Int),(([]:(List Int)),())))))).bind fun w6=> match w6 with |.inl a7=>some (a7.1,(0:Int)) |.inr b8=>some (b8.2.1,b8.1))
def S_sample_Up:FSem:=⟨[.v (.list false (.int .i64)),.v (.int .i64)],[.o (.int .i64),.v (.int .i64)],F_sample_Up⟩
def H83:Hints:=⟨[(122,[.sv 1 (.int .i64),.sv 15 (.list false (.int .i64)),.sv 16 (.int .i64),.sv 17 (.int .i64),.own 6 6 (.int .i64)],[(.exit 0,[.own 6 6 (.int .i64)]),(.ret,[.sv 5 (.int .i64),.own 4 4 (.int .i64)])])],[(6,[(.normal,[.sv 0 (.list false (.int .i64)),.sv 1 (.int .i64),.sv 14 .bool])]),(15666,[(.normal,[.sv 1 (.int .i64),.sv 8 (.int .i64),.sv 15 (.list false (.int .i64)),.sv 16 (.int .i64),.sv 17 (.int .i64),.sv 30 .bool,.own 6 6 (.int .i64)])])],[]⟩
def F_sub_back_l0 (st:Z191):Option (Z191 ⊕ ((List Int)×Unit)):= bif decide (st.2.1<st.1) then ((gidx st.2.2.2.1.2.2.2.2.2.2.2.2.1 (0:Int)).bind fun x1=> bif lim ((List.length st.2.2.1)+1) then some (.inl (st.1,(IntKind.wrap .i64 (st.2.1+(1:Int)),(List.append st.2.2.1 ([x1]:List Int),(st.2.2.2.1,()))))) else none) else some (.inr (st.2.2.1,()))
def F_sub_back (x:Z172):Option ((List Int)×Int):= (show Option (Z186 ⊕ Z5) from bif x.1.1==(0:Int) then ((iter F_sub_back_l0 (x.2,((0:Int),(([]:(List Int)),(x.1,()))))).bind fun w2=> some (Sum.inr (((0:Int),(w2.1,()))))) else (bif x.1.1==(1:Int) then some (Sum.inl (x.1.2.2.2.2.2.2.2.2.1,((0:Int),(x.1,())))) else (bif x.1.1==(2:Int) then ((F_fixed_Back (x.1.2.2.2.2.2.2.2.2.1,(x.1.2.2.2.2.2.2.2.2.2.2.1,x.1.2.2.1))).bind fun y3=> some (Sum.inl (y3.1,(y3.2,(x.1,()))))) else (bif x.1.1==(3:Int) then ((F_linear_Back (x.1.2.2.2.2.2.2.2.2.1,(x.1.2.2.2.2.2.2.2.2.2.2.1,(x.1.2.2.2.2.2.1,x.1.2.2.2.1)))).bind fun y4=> some (Sum.inl (y4.1,(y4.2,(x.1,()))))) else (bif x.1.1==(4:Int) then ((F_linear_Back (x.1.2.2.2.2.2.2.2.2.1,(x.1.2.2.2.2.2.2.2.2.2.2.1,(x.1.2.2.2.2.2.1,x.1.2.2.2.1)))).bind fun y5=> bif y5.2==(0:Int) then ((F_long_Back (y5.1,(x.1.2.2.2.2.1,x.1.2.2.2.2.2.2.1))).bind fun y6=> some (Sum.inl (y6.1,(y6.2,(x.1,()))))) else some (Sum.inl (y5.1,(y5.2,(x.1,()))))) else (bif x.1.1==(5:Int) then ((F_learn_Back (x.1.2.2.2.2.2.2.2.2.2.2.1,x.1.2.2.2.2.2.2.2.1)).bind fun y7=> some (Sum.inl (y7.1,(y7.2,(x.1,()))))) else some (Sum.inl (([]:(List Int)),((0:Int),(x.1,())))))))))).bind fun z8=> match z8 with |.inl a9=>(bif a9.2.1 != (0:Int) then some (([]:(List Int)),a9.2.1) else ((F_sample_Up (a9.1,a9.2.2.1.2.1)).bind fun y11=> some (y11.1,y11.2))) |.inr b10=>some (b10.2.1,b10.1)
def S_sub_back:FSem:=⟨[.v Q18,.v (.int .i64)],[.o (.int .i64),.v (.int .i64)],F_sub_back⟩
def H38:Hints:=⟨[(3922,[.sv 12 (.int .i64),.sv 13 (.int .i64),.own 6 6 (.int .i64),.vp 2 Q18],[(.exit 1,[.own 6 6 (.int .i64)])])],[(15,[(.normal,[.sv 6 (.list false (.int .i64)),.sv 7 (.int .i64),.vp 2 Q18]),(.ret,[.sv 5 (.int .i64),.own 4 6 (.int .i64)])])],[]⟩
def F_sub_Row (x:Z172):Option ((List Int)×Int):= (F_sub_stated (x.1,x.2)).bind fun y1=> bif !y1 then some (([]:(List Int)),(1:Int)) else ((F_sub_back (x.1,x.2)).bind fun y2=> bif y2.2 != (0:Int) then some (([]:(List Int)),(1:Int)) else some (y2.1,(0:Int)))
def S_sub_Row:FSem:=⟨[.v Q18,.v (.int .i64)],[.o (.int .i64),.v (.int .i64)],F_sub_Row⟩
def H12:Hints:=⟨[],[],[]⟩
def F_sub_May (x:Z172):Option Bool:= (F_sub_Row (x.1,x.2)).bind fun y1=> some (y1.2==(0:Int))
def S_sub_May:FSem:=⟨[.v Q18,.v (.int .i64)],[.v .bool],F_sub_May⟩
def H14:Hints:=⟨[],[],[]⟩
def F_bits_Writer_bit (x:Z17):Option Z3:= (show Option Z36 from bif (Int.tmod x.1.2.1 (8:Int))==(0:Int) then (bif lim ((List.length x.1.1)+1) then some (x.2,((List.append x.1.1 ([(0:Int)]:List Int),x.1.2),())) else none) else some (x.2,(x.1,()))).bind fun z1=> bif (decide ((0:Int)≤(IntKind.wrap .i64 (Int.tdiv z1.2.1.2.1 (8:Int)))))&&(decide ((IntKind.wrap .i64 (Int.tdiv z1.2.1.2.1 (8:Int)))<((List.length z1.2.1.1:Nat):Int))) then (bif decide ((IntKind.wrap .i64 ((7:Int)-(Int.tmod z1.2.1.2.1 (8:Int))))<0) then none else (bif (decide ((0:Int)≤(IntKind.wrap .i64 (Int.tdiv z1.2.1.2.1 (8:Int)))))&&(decide ((IntKind.wrap .i64 (Int.tdiv z1.2.1.2.1 (8:Int)))<((List.length z1.2.1.1:Nat):Int))) then some (List.set z1.2.1.1 (Int.toNat (IntKind.wrap .i64 (Int.tdiv z1.2.1.2.1 (8:Int)))) (bits .u8 .or (List.getD z1.2.1.1 (Int.toNat (IntKind.wrap .i64 (Int.tdiv z1.2.1.2.1 (8:Int)))) (0:Int)) (gshl .u8 z1.1 (IntKind.wrap .i64 ((7:Int)-(Int.tmod z1.2.1.2.1 (8:Int)))))),(IntKind.wrap .i64 (z1.2.1.2.1+(1:Int)),z1.2.1.2.2)) else none)) else none
def S_bits_Writer_bit:FSem:=⟨[.r Q5,.v (.int .u8)],[],F_bits_Writer_bit⟩
def H55:Hints:=⟨[],[(1,[(.normal,[.sv 1 (.int .u8),.box 1000000 Q5,.ptr 0 1000000 []])])],[(2,[.q,.q,.q,.q,.q,.q,.q,.q,.v,.q,.q,.v,.q,.q,.q,.q,.v,.v,.v,.x,.x,.x])]⟩
def F_bits_Writer_Put_l0 (st:Z56):Option Z126:= bif decide (st.2.1≥(0:Int)) then (bif decide (st.2.1<0) then none else ((F_bits_Writer_bit (st.2.2.1,IntKind.wrap .u8 (bits .u64 .and (gshr .u64 st.1 st.2.1) (1:Int)))).bind fun y2=> some (.inl (st.1,(IntKind.wrap .i64 (st.2.1-(1:Int)),(y2,())))))) else some (.inr (st.2.2.1,()))
def F_bits_Writer_Put (x:Z31):Option Z16:= (show Option (Int×Z58) from bif decide (x.2.2<(0:Int)) then some (x.2.1,(x.2.2,(true,(x.1,())))) else (bif decide (x.2.2 > (64:Int)) then some (x.2.1,(x.2.2,(true,(x.1,())))) else (bif decide (x.2.2<0) then none else some (x.2.1,(x.2.2,((gshr .u64 x.2.1 x.2.2) != (0:Int),(x.1,()))))))).bind fun z1=> bif z1.2.2.1 then some ((1:Int),z1.2.2.2.1) else ((iter F_bits_Writer_Put_l0 (z1.1,(IntKind.wrap .i64 (z1.2.1-(1:Int)),(z1.2.2.2.1,())))).bind fun w3=> some ((0:Int),w3.1))
def S_bits_Writer_Put:FSem:=⟨[.r Q5,.v (.int .u64),.v (.int .i64)],[.v (.int .i64)],F_bits_Writer_Put⟩
def H23:Hints:=⟨[(58,[.sv 1 (.int .u64),.sv 7 (.int .i64),.box 1000000 Q5,.ptr 0 1000000 []],[(.exit 0,[.box 1000000 Q5])])],[(6,[(.normal,[.sv 1 (.int .u64),.sv 2 (.int .i64),.sv 19 .bool,.box 1000000 Q5,.ptr 0 1000000 []])])],[]⟩
def F_sample_Low (x:Int):Option Int:= (show Option (Int×(Bool×Unit)) from bif decide (x<(1:Int)) then some (x,(true,())) else some (x,(decide (x > (31:Int)),()))).bind fun z1=> bif z1.2.1 then some (0:Int) else (bif decide ((IntKind.wrap .i64 (z1.1-(1:Int)))<0) then none else some (gshl .i64 (-1:Int) (IntKind.wrap .i64 (z1.1-(1:Int)))))
def S_sample_Low:FSem:=⟨[.v (.int .i64)],[.v (.int .i64)],F_sample_Low⟩
def H164:Hints:=⟨[],[(6,[(.normal,[.sv 0 (.int .i64),.sv 8 .bool])])],[]⟩
def F_sample_High (x:Int):Option Int:= (show Option (Int×(Bool×Unit)) from bif decide (x<(1:Int)) then some (x,(true,())) else some (x,(decide (x > (31:Int)),()))).bind fun z1=> bif z1.2.1 then some (0:Int) else (bif decide ((IntKind.wrap .i64 (z1.1-(1:Int)))<0) then none else some (IntKind.wrap .i64 ((gshl .i64 (1:Int) (IntKind.wrap .i64 (z1.1-(1:Int))))-(1:Int))))
def S_sample_High:FSem:=⟨[.v (.int .i64)],[.v (.int .i64)],F_sample_High⟩
def H165:Hints:=⟨[],[(6,[(.normal,[.sv 0 (.int .i64),.sv 8 .bool])])],[]⟩
def F_sample_Fits (x:(Int×Int)):Option Bool:= bif decide (x.2≥(1:Int)) then (bif decide (x.2≤(31:Int)) then ((F_sample_Low x.2).bind fun y1=> bif decide (y1≤x.1) then ((F_sample_High x.2).bind fun y2=> some (decide (x.1≤y2))) else some false) else some false) else some false
def S_sample_Fits:FSem:=⟨[.v (.int .i64),.v (.int .i64)],[.v .bool],F_sample_Fits⟩
def H106:Hints:=⟨[],[],[]⟩
def F_sample_Width_l0 (st:Z51):Option (Z51 ⊕ Z29):= bif st.2.1 != (0:Int) then (bif decide (st.1<(32:Int)) then ((F_sample_Fits (st.2.1,st.1)).bind fun y2=> bif !y2 then some (.inl (IntKind.wrap .i64 (st.1+(1:Int)),(st.2.1,(st.2.2.1,(st.2.2.2.1,(st.2.2.2.2.1,())))))) else some (.inr (st.1,(st.2.2.1,(st.2.2.2.1,(st.2.2.2.2.1,())))))) else some (.inr (st.1,(st.2.2.1,(st.2.2.2.1,(st.2.2.2.2.1,())))))) else some (.inr (st.1,(st.2.2.1,(st.2.2.2.1,(st.2.2.2.2.1,())))))
def F_sample_Width_l1 (st:Z29):Option Z71:= bif decide (st.2.2.2.1<st.2.2.1) then ((gidx st.2.1 st.2.2.2.1).bind fun x1=> (iter F_sample_Width_l0 (st.1,(x1,(st.2.1,(st.2.2.1,(st.2.2.2.1,())))))).bind fun w3=> some (.inl (w3.1,(w3.2.1,(w3.2.2.1,(IntKind.wrap .i64 (w3.2.2.2.1+(1:Int)),())))))) else some (.inr (st.1,()))
def F_sample_Width (x:(List Int)):Option Int:= (iter F_sample_Width_l1 ((0:Int),(x,(((List.length x:Nat):Int),((0:Int),()))))).bind fun w4=> some w4.1
def S_sample_Width:FSem:=⟨[.v (.list false (.int .i64))],[.v (.int .i64)],F_sample_Width⟩
def H56:Hints:=⟨[(58,[.sv 3 (.int .i64),.sv 6 (.list false (.int .i64)),.sv 7 (.int .i64),.sv 8 (.int .i64)],[(.exit 0,[.sv 3 (.int .i64)])]),(7474,[.sv 3 (.int .i64),.sv 5 (.int .i64),.sv 6 (.list false (.int .i64)),.sv 7 (.int .i64),.sv 8 (.int .i64)],[(.exit 2,[.sv 3 (.int .i64),.sv 6 (.list false (.int .i64)),.sv 7 (.int .i64),.sv 8 (.int .i64)])])],[],[]⟩
def F_sub_putSigned (x:Z31):Option Z3:= bif decide (x.2.2<0) then none else ((F_bits_Writer_Put (x.1,(bits .u64 .and (IntKind.wrap .u64 x.2.1) (IntKind.wrap .u64 ((gshl .u64 (1:Int) x.2.2)-(1:Int))),x.2.2))).bind fun y1=> some y1.2)
def S_sub_putSigned:FSem:=⟨[.r Q5,.v (.int .i64),.v (.int .i64)],[],F_sub_putSigned⟩
def H57:Hints:=⟨[],[],[]⟩
def F_sub_putCoefs_l0 (st:Z104):Option Z147:= bif decide (st.2.2.2.1<st.2.2.1) then ((gidx st.2.1 st.2.2.2.1).bind fun x6=> (F_sub_putSigned (st.2.2.2.2.1,(x6,st.1))).bind fun y7=> some (.inl (st.1,(st.2.1,(st.2.2.1,(IntKind.wrap .i64 (st.2.2.2.1+(1:Int)),(y7,()))))))) else some (.inr (st.2.2.2.2.1,()))
def F_sub_putCoefs (x:(Z3×Z170)):Option Z3:= (F_bits_Writer_Put (x.1,(IntKind.wrap .u64 (IntKind.wrap .i64 (((List.length x.2.2.2.2.2.2.1:Nat):Int)-(1:Int))),(5:Int)))).bind fun y1=> (F_bits_Writer_Put (y1.2,(IntKind.wrap .u64 x.2.2.2.2.1,(4:Int)))).bind fun y2=> (F_sample_Width x.2.2.2.2.2.2.1).bind fun y3=> (F_bits_Writer_Put (y2.2,(IntKind.wrap .u64 y3,(5:Int)))).bind fun y4=> (iter F_sub_putCoefs_l0 (y3,(x.2.2.2.2.2.2.1,(((List.length x.2.2.2.2.2.2.1:Nat):Int),((0:Int),(y4.2,())))))).bind fun w8=> some w8.1
def S_sub_putCoefs:FSem:=⟨[.r Q5,.v Q18],[],F_sub_putCoefs⟩
def H58:Hints:=⟨[(254,[.sv 4 (.int .i64),.sv 27 (.list false (.int .i64)),.sv 28 (.int .i64),.sv 29 (.int .i64),.box 1000000 Q5,.ptr 0 1000000 []],[(.exit 0,[.box 1000000 Q5])])],[],[]⟩
def F_parts_right_l0 (st:Z14):Option Z74:= bif decide (st.2.2.1<st.2.1) then ((gidx st.1 st.2.2.1).bind fun x3=> (show Option Z34 from bif decide (x3<(-1073741824:Int)) then some (st.1,(st.2.1,(st.2.2.1,(true,())))) else some (st.1,(st.2.1,(st.2.2.1,(decide (x3≥(1073741824:Int)),()))))).bind fun z4=> bif z4.2.2.2.1 then some (.inr (Sum.inr ((false,())))) else some (.inl (z4.1,(z4.2.1,(IntKind.wrap .i64 (z4.2.2.1+(1:Int)),()))))) else some (.inr (Sum.inl ()))
def F_parts_right (x:Z1):Option Bool:= (show Option Z6 from (F_parts_row (x.1,x.2.1)).bind fun y1=> bif !y1 then some (x.2.2,(true,())) else some (x.2.2,(((List.length x.2.2:Nat):Int) != (IntKind.wrap .i64 (x.1-x.2.1)),()))).bind fun z2=> bif z2.2.1 then some false else ((iter F_parts_right_l0 (z2.1,(((List.length z2.1:Nat):Int),((0:Int),())))).bind fun w5=> match w5 with |.inl a6=>some true |.inr b7=>some b7.1)
def S_parts_right:FSem:=⟨[.v (.int .i64),.v (.int .i64),.v (.list false (.int .i64))],[.v .bool],F_parts_right⟩
def H122:Hints:=⟨[(58,[.sv 21 (.list false (.int .i64)),.sv 22 (.int .i64),.sv 23 (.int .i64)],[(.exit 0,[]),(.ret,[.sv 6 .bool])])],[(6,[(.normal,[.sv 2 (.list false (.int .i64)),.sv 20 .bool])]),(3737,[(.normal,[.sv 21 (.list false (.int .i64)),.sv 22 (.int .i64),.sv 23 (.int .i64),.sv 32 .bool])])],[]⟩
def F_parts_raw (x:(List Int)):Option Int:= (F_sample_Width x).bind fun y1=> some (IntKind.wrap .i64 ((5:Int)+(IntKind.wrap .i64 (y1*((List.length x:Nat):Int)))))
def S_parts_raw:FSem:=⟨[.v (.list false (.int .i64))],[.v (.int .i64)],F_parts_raw⟩
def H166:Hints:=⟨[],[],[]⟩
def F_rice_parameter (x:Int):Option Bool:= bif decide ((0:Int)≤x) then some (decide (x≤(25:Int))) else some false
def S_rice_parameter:FSem:=⟨[.v (.int .i64)],[.v .bool],F_rice_parameter⟩
def H168:Hints:=⟨[],[],[]⟩
def F_rice_wide (x:Int):Option Bool:= bif decide ((-1073741824:Int)≤x) then some (decide (x<(1073741824:Int))) else some false
def S_rice_wide:FSem:=⟨[.v (.int .i64)],[.v .bool],F_rice_wide⟩
def H169:Hints:=⟨[],[],[]⟩
def F_rice_Fold (x:Int):Option Int:= (F_rice_wide x).bind fun y1=> bif !y1 then some (0:Int) else (bif decide (x≥(0:Int)) then some (IntKind.wrap .u64 (IntKind.wrap .i64 ((2:Int)*x))) else some (IntKind.wrap .u64 (IntKind.wrap .i64 ((IntKind.wrap .i64 ((-2:Int)*x))-(1:Int)))))
def S_rice_Fold:FSem:=⟨[.v (.int .i64)],[.v (.int .u64)],F_rice_Fold⟩
def H170:Hints:=⟨[],[],[]⟩
def F_rice_Cost (x:(Int×Int)):Option Int:= (show Option Z10 from (F_rice_parameter x.1).bind fun y1=> bif !y1 then some (x.1,(x.2,(true,()))) else ((F_rice_wide x.2).bind fun y2=> some (x.1,(x.2,(!y2,()))))).bind fun z3=> bif z3.2.2.1 then some (0:Int) else ((F_rice_Fold z3.2.1).bind fun y4=> bif decide (z3.1<0) then none else (bif decide ((IntKind.wrap .i64 (gshr .u64 y4 z3.1))<(32:Int)) then some (IntKind.wrap .i64 ((IntKind.wrap .i64 ((IntKind.wrap .i64 (gshr .u64 y4 z3.1))+(1:Int)))+z3.1)) else some (65:Int)))
def S_rice_Cost:FSem:=⟨[.v (.int .i64),.v (.int .i64)],[.v (.int .i64)],F_rice_Cost⟩
def H195:Hints:=⟨[],[(6,[(.normal,[.sv 0 (.int .i64),.sv 1 (.int .i64),.sv 13 .bool])])],[]⟩
def F_rice_Sum_l0 (st:Z51):Option Z91:= bif decide (st.2.2.2.2.1<st.2.2.2.1) then ((gidx st.2.2.1 st.2.2.2.2.1).bind fun x1=> (F_rice_Cost (st.1,x1)).bind fun y2=> some (.inl (st.1,(IntKind.wrap .i64 (st.2.1+y2),(st.2.2.1,(st.2.2.2.1,(IntKind.wrap .i64 (st.2.2.2.2.1+(1:Int)),()))))))) else some (.inr (st.2.1,()))
def F_rice_Sum (x:(Int×(List Int))):Option Int:= (iter F_rice_Sum_l0 (x.1,((0:Int),(x.2,(((List.length x.2:Nat):Int),((0:Int),())))))).bind fun w3=> some w3.1
def S_rice_Sum:FSem:=⟨[.v (.int .i64),.v (.list false (.int .i64))],[.v (.int .i64)],F_rice_Sum⟩
def H167:Hints:=⟨[(58,[.sv 0 (.int .i64),.sv 5 (.int .i64),.sv 8 (.list false (.int .i64)),.sv 9 (.int .i64),.sv 10 (.int .i64)],[(.exit 0,[.sv 5 (.int .i64)])])],[],[]⟩
def F_parts_Cost_l0 (st:Z122):Option (Z122 ⊕ (Int×Unit)):= bif decide (st.2.2.2.1<st.2.2.1) then (bif (decide ((0:Int)≤st.2.2.2.1))&&(decide (st.2.2.2.1<((List.length st.2.2.2.2.1:Nat):Int))) then (bif (decide ((0:Int)≤(List.getD st.2.2.2.2.1 (Int.toNat st.2.2.2.1) (0:Int))))&&(decide ((List.getD st.2.2.2.2.1 (Int.toNat st.2.2.2.1) (0:Int))≤((List.length st.1:Nat):Int))) then (bif (decide ((0:Int)≤(List.getD st.2.2.2.2.1 (Int.toNat st.2.2.2.1) (0:Int))))&&(decide ((List.getD st.2.2.2.2.1 (Int.toNat st.2.2.2.1) (0:Int))≤((List.length st.1:Nat):Int))) then ((gidx st.2.2.2.2.2.1.2.1 st.2.2.2.1).bind fun x5=> bif x5==(31:Int) then ((F_parts_raw (List.take (Int.toNat (List.getD st.2.2.2.2.1 (Int.toNat st.2.2.2.1) (0:Int))) st.1)).bind fun y6=> some (.inl (List.drop (Int.toNat (List.getD st.2.2.2.2.1 (Int.toNat st.2.2.2.1) (0:Int))) (List.take (List.length st.1) st.1),(IntKind.wrap .i64 (st.2.1+(IntKind.wrap .i64 ((5:Int)+y6))),(st.2.2.1,(IntKind.wrap .i64 (st.2.2.2.1+(1:Int)),(st.2.2.2.2.1,(st.2.2.2.2.2.1,())))))))) else ((gidx st.2.2.2.2.2.1.2.1 st.2.2.2.1).bind fun x7=> (F_rice_Sum (x7,List.take (Int.toNat (List.getD st.2.2.2.2.1 (Int.toNat st.2.2.2.1) (0:Int))) st.1)).bind fun y8=> some (.inl (List.drop (Int.toNat (List.getD st.2.2.2.2.1 (Int.toNat st.2.2.2.1) (0:Int))) (List.take (List.length st.1) st.1),(IntKind.wrap .i64 (st.2.1+(IntKind.wrap .i64 ((5:Int)+y8))),(st.2.2.1,(IntKind.wrap .i64 (st.2.2.2.1+(1:Int)),(st.2.2.2.2.1,(st.2.2.2.2.2.1,()))))))))) else none) else none) else none) else some (.inr (st.2.1,()))
def F_parts_Cost (x:Z62):Option Int:= (show Option (Int×(Int×((List Int)×Z40))) from (F_parts_May (x.1,(x.2.1,x.2.2.1))).bind fun y1=> bif !y1 then some (x.2.1,(x.2.2.1,(x.2.2.2,(true,(x.1,()))))) else ((F_parts_right (x.2.1,(x.2.2.1,x.2.2.2))).bind fun y2=> some (x.2.1,(x.2.2.1,(x.2.2.2,(!y2,(x.1,()))))))).bind fun z3=> bif z3.2.2.2.1 then some (0:Int) else ((F_parts_Sizes (z3.2.2.2.2.1.1,(z3.1,z3.2.1))).bind fun y4=> (iter F_parts_Cost_l0 (z3.2.2.1,((4:Int),(((List.length y4:Nat):Int),((0:Int),(y4,(z3.2.2.2.2.1,()))))))).bind fun w9=> some w9.1)
def S_parts_Cost:FSem:=⟨[.v Q6,.v (.int .i64),.v (.int .i64),.v (.list false (.int .i64))],[.v (.int .i64)],F_parts_Cost⟩
def H107:Hints:=⟨[(122,[.sv 3 (.list false (.int .i64)),.sv 9 (.int .i64),.sv 30 (.int .i64),.sv 31 (.int .i64),.own 29 1029 (.int .i64),.vp 4 Q6],[(.exit 0,[.sv 9 (.int .i64)])])],[(6,[(.normal,[.sv 1 (.int .i64),.sv 2 (.int .i64),.sv 3 (.list false (.int .i64)),.sv 24 .bool,.vp 4 Q6])])],[]⟩
def F_bits_Writer_Unary_l0 (st:Z56):Option Z126:= bif decide (st.2.1<st.1) then ((F_bits_Writer_bit (st.2.2.1,(0:Int))).bind fun y2=> some (.inl (st.1,(IntKind.wrap .i64 (st.2.1+(1:Int)),(y2,()))))) else some (.inr (st.2.2.1,()))
def F_bits_Writer_Unary (x:Z17):Option Z16:= (show Option Z58 from bif decide (x.2<(0:Int)) then some (x.2,(true,(x.1,()))) else some (x.2,(decide (x.2 > (4096:Int)),(x.1,())))).bind fun z1=> bif z1.2.1 then some ((1:Int),z1.2.2.1) else ((iter F_bits_Writer_Unary_l0 (z1.1,((0:Int),(z1.2.2.1,())))).bind fun w3=> (F_bits_Writer_bit (w3.1,(1:Int))).bind fun y4=> some ((0:Int),y4))
def S_bits_Writer_Unary:FSem:=⟨[.r Q5,.v (.int .i64)],[.v (.int .i64)],F_bits_Writer_Unary⟩
def H171:Hints:=⟨[(58,[.sv 11 (.int .i64),.sv 12 (.int .i64),.box 1000000 Q5,.ptr 0 1000000 []],[(.exit 0,[.box 1000000 Q5,.ptr 0 1000000 []])])],[(6,[(.normal,[.sv 1 (.int .i64),.sv 10 .bool,.box 1000000 Q5,.ptr 0 1000000 []])])],[]⟩
def F_rice_Put_l0 (st:Z123):Option (Z123 ⊕ ((Int×((List Int)×Z21)) ⊕ Z36)):= bif decide (st.2.2.2.2.1<st.2.2.2.1) then ((gidx st.2.2.1 st.2.2.2.2.1).bind fun x2=> (F_rice_wide x2).bind fun y3=> bif !y3 then some (.inr (Sum.inr (((1:Int),(st.2.2.2.2.2.1,()))))) else some (.inl (st.1,(st.2.1,(st.2.2.1,(st.2.2.2.1,(IntKind.wrap .i64 (st.2.2.2.2.1+(1:Int)),(st.2.2.2.2.2.1,())))))))) else some (.inr (Sum.inl (st.1,(st.2.1,(st.2.2.2.2.2.1,())))))
def F_rice_Put_l1 (st:Z104):Option Z147:= bif decide (st.2.2.2.1<st.2.2.1) then ((gidx st.2.1 st.2.2.2.1).bind fun x7=> (F_rice_Fold x7).bind fun y8=> bif decide (st.1<0) then none else (bif decide ((gshr .u64 y8 st.1)<(32:Int)) then ((F_bits_Writer_Unary (st.2.2.2.2.1,IntKind.wrap .i64 (gshr .u64 y8 st.1))).bind fun y9=> bif decide (st.1<0) then none else ((F_bits_Writer_Put (y9.2,(IntKind.wrap .u64 (y8-(gshl .u64 (gshr .u64 y8 st.1) st.1)),st.1))).bind fun y10=> some (.inl (st.1,(st.2.1,(st.2.2.1,(IntKind.wrap .i64 (st.2.2.2.1+(1:Int)),(y10.2,())))))))) else ((F_bits_Writer_Unary (st.2.2.2.2.1,(32:Int))).bind fun y11=> (F_bits_Writer_Put (y11.2,(y8,(32:Int)))).bind fun y12=> some (.inl (st.1,(st.2.1,(st.2.2.1,(IntKind.wrap .i64 (st.2.2.2.1+(1:Int)),(y12.2,()))))))))) else some (.inr (st.2.2.2.2.1,()))
def F_rice_Put (x:(Z3×(Int×(List Int)))):Option Z16:= (F_rice_parameter x.2.1).bind fun y1=> bif !y1 then some ((1:Int),x.1) else ((iter F_rice_Put_l0 (x.2.1,(x.2.2,(x.2.2,(((List.length x.2.2:Nat):Int),((0:Int),(x.1,()))))))).bind fun w4=> match w4 with |.inl a5=>((iter F_rice_Put_l1 (a5.1,(a5.2.1,(((List.length a5.2.1:Nat):Int),((0:Int),(a5.2.2.1,())))))).bind fun w13=> some ((0:Int),w13.1)) |.inr b6=>some (b6.1,b6.2.1))
def S_rice_Put:FSem:=⟨[.r Q5,.v (.int .i64),.v (.list false (.int .i64))],[.v (.int .i64)],F_rice_Put⟩
def H109:Hints:=⟨[(58,[.sv 1 (.int .i64),.sv 2 (.list false (.int .i64)),.sv 16 (.list false (.int .i64)),.sv 17 (.int .i64),.sv 18 (.int .i64),.box 1000000 Q5,.ptr 0 1000000 []],[(.exit 0,[.sv 1 (.int .i64),.sv 2 (.list false (.int .i64)),.box 1000000 Q5,.ptr 0 1000000 []]),(.ret,[.sv 6 (.int .i64),.box 1000000 Q5])]),(122,[.sv 1 (.int .i64),.sv 26 (.list false (.int .i64)),.sv 27 (.int .i64),.sv 28 (.int .i64),.box 1000000 Q5,.ptr 0 1000000 []],[(.exit 2,[.box 1000000 Q5])])],[],[]⟩
def F_parts_Put_l0 (st:Z165):Option (Z165 ⊕ Z144):= bif decide (st.2.2.2.2.2.2.1<st.2.2.2.2.2.1) then ((gidx st.2.2.2.2.1 st.2.2.2.2.2.2.1).bind fun x11=> bif decide (st.2.1<0) then none else ((F_bits_Writer_Put (st.2.2.2.2.2.2.2.2.1,(bits .u64 .and (IntKind.wrap .u64 x11) (IntKind.wrap .u64 ((gshl .u64 (1:Int) st.2.1)-(1:Int))),st.2.1))).bind fun y12=> some (.inl (st.1,(st.2.1,(st.2.2.1,(st.2.2.2.1,(st.2.2.2.2.1,(st.2.2.2.2.2.1,(IntKind.wrap .i64 (st.2.2.2.2.2.2.1+(1:Int)),(st.2.2.2.2.2.2.2.1,(y12.2,(st.2.2.2.2.2.2.2.2.2.1,()))))))))))))) else some (.inr (st.1,(st.2.2.1,(st.2.2.2.1,(st.2.2.2.2.2.2.2.1,(st.2.2.2.2.2.2.2.2.1,(st.2.2.2.2.2.2.2.2.2.1,())))))))
def F_parts_Put_l1 (st:Z144):Option (Z144 ⊕ Z21):= bif decide (st.2.2.1<st.2.1) then (bif (decide ((0:Int)≤st.2.2.1))&&(decide (st.2.2.1<((List.length st.2.2.2.1:Nat):Int))) then (bif (decide ((0:Int)≤(List.getD st.2.2.2.1 (Int.toNat st.2.2.1) (0:Int))))&&(decide ((List.getD st.2.2.2.1 (Int.toNat st.2.2.1) (0:Int))≤((List.length st.1:Nat):Int))) then (bif (decide ((0:Int)≤(List.getD st.2.2.2.1 (Int.toNat st.2.2.1) (0:Int))))&&(decide ((List.getD st.2.2.2.1 (Int.toNat st.2.2.1) (0:Int))≤((List.length st.1:Nat):Int))) then ((gidx st.2.2.2.2.2.1.2.1 st.2.2.1).bind fun x4=> (F_bits_Writer_Put (st.2.2.2.2.1,(IntKind.wrap .u64 x4,(5:Int)))).bind fun y5=> (gidx st.2.2.2.2.2.1.2.1 st.2.2.1).bind fun x6=> bif x6 != (31:Int) then ((gidx st.2.2.2.2.2.1.2.1 st.2.2.1).bind fun x7=> (F_rice_Put (y5.2,(x7,List.take (Int.toNat (List.getD st.2.2.2.1 (Int.toNat st.2.2.1) (0:Int))) st.1))).bind fun y8=> some (.inl (List.drop (Int.toNat (List.getD st.2.2.2.1 (Int.toNat st.2.2.1) (0:Int))) (List.take (List.length st.1) st.1),(st.2.1,(IntKind.wrap .i64 (st.2.2.1+(1:Int)),(st.2.2.2.1,(y8.2,(st.2.2.2.2.2.1,())))))))) else ((F_sample_Width (List.take (Int.toNat (List.getD st.2.2.2.1 (Int.toNat st.2.2.1) (0:Int))) st.1)).bind fun y9=> (F_bits_Writer_Put (y5.2,(IntKind.wrap .u64 y9,(5:Int)))).bind fun y10=> (iter F_parts_Put_l0 (List.drop (Int.toNat (List.getD st.2.2.2.1 (Int.toNat st.2.2.1) (0:Int))) (List.take (List.length st.1) st.1),(y9,(st.2.1,(st.2.2.1,(List.take (Int.toNat (List.getD st.2.2.2.1 (Int.toNat st.2.2.1) (0:Int))) st.1,(((List.length (List.take (Int.toNat (List.getD st.2.2.2.1 (Int.toNat st.2.2.1) (0:Int))) st.1):Nat):Int),((0:Int),(st.2.2.2.1,(y10.2,(st.2.2.2.2.2.1,()))))))))))).bind fun w13=> some (.inl (w13.1,(w13.2.1,(IntKind.wrap .i64 (w13.2.2.1+(1:Int)),(w13.2.2.2.1,(w13.2.2.2.2.1,(w13.2.2.2.2.2.1,()))))))))) else none) else none) else none) else some (.inr (st.2.2.2.2.1,()))
def F_parts_Put (x:(Z3×Z62)):Option Z16:= (F_parts_Cost (x.2.1,(x.2.2.1,(x.2.2.2.1,x.2.2.2.2)))).bind fun y1=> bif y1==(0:Int) then some ((1:Int),x.1) else ((F_bits_Writer_Put (x.1,(IntKind.wrap .u64 x.2.1.1,(4:Int)))).bind fun y2=> (F_parts_Sizes (x.2.1.1,(x.2.2.1,x.2.2.2.1))).bind fun y3=> (iter F_parts_Put_l1 (x.2.2.2.2,(((List.length y3:Nat):Int),((0:Int),(y3,(y2.2,(x.2.1,()))))))).bind fun w14=> some ((0:Int),w14.1))
def S_parts_Put:FSem:=⟨[.r Q5,.v Q6,.v (.int .i64),.v (.int .i64),.v (.list false (.int .i64))],[.v (.int .i64)],F_parts_Put⟩
def H60:Hints:=⟨[(122,[.sv 4 (.list false (.int .i64)),.sv 33 (.int .i64),.sv 34 (.int .i64),.own 32 1032 (.int .i64),.box 1000000 Q5,.ptr 0 1000000 [],.vp 6 Q6],[(.exit 0,[.box 1000000 Q5])]),(2005502,[.sv 4 (.list false (.int .i64)),.sv 14 (.int .i64),.sv 33 (.int .i64),.sv 34 (.int .i64),.sv 73 (.list false (.int .i64)),.sv 74 (.int .i64),.sv 75 (.int .i64),.own 32 1032 (.int .i64),.box 1000000 Q5,.ptr 0 1000000 [],.vp 6 Q6],[(.exit 2,[.sv 4 (.list false (.int .i64)),.sv 33 (.int .i64),.sv 34 (.int .i64),.own 32 1032 (.int .i64),.box 1000000 Q5,.ptr 0 1000000 [],.vp 6 Q6])])],[],[]⟩
def F_sub_Put_l0 (st:Z200):Option (Z200 ⊕ Z196):= bif decide (st.2.2.2.1<(3:Int)) then ((gidx st.2.2.1 st.2.2.2.1).bind fun x8=> (F_sub_putSigned (st.2.2.2.2.1,(x8,(8:Int)))).bind fun y9=> some (.inl (st.1,(st.2.1,(st.2.2.1,(IntKind.wrap .i64 (st.2.2.2.1+(1:Int)),(y9,(st.2.2.2.2.2.1,())))))))) else some (.inr (st.1,(st.2.1,(st.2.2.2.2.1,(st.2.2.2.2.2.1,())))))
def F_sub_Put_l1 (st:Z205):Option (Z205 ⊕ Z196):= bif decide (st.2.2.2.2.1<st.2.2.2.1) then ((gidx st.2.2.1 st.2.2.2.2.1).bind fun x18=> (F_bits_Writer_Put (st.2.2.2.2.2.1,(IntKind.wrap .u64 (IntKind.wrap .i64 (x18.1-(1:Int))),(5:Int)))).bind fun y19=> (F_bits_Writer_Put (y19.2,(IntKind.wrap .u64 x18.2.1,(4:Int)))).bind fun y20=> some (.inl (st.1,(st.2.1,(st.2.2.1,(st.2.2.2.1,(IntKind.wrap .i64 (st.2.2.2.2.1+(1:Int)),(y20.2,(st.2.2.2.2.2.2.1,()))))))))) else some (.inr (st.1,(st.2.1,(st.2.2.2.2.2.1,(st.2.2.2.2.2.2.1,())))))
def F_sub_Put_l2 (st:Z202):Option (Z202 ⊕ Z194):= bif decide (st.2.2.2.2.1<st.2.2.2.1) then ((gidx st.2.2.1 st.2.2.2.2.1).bind fun x23=> (F_sub_putSigned (st.2.2.2.2.2.1,(x23,st.2.1))).bind fun y24=> some (.inl (st.1,(st.2.1,(st.2.2.1,(st.2.2.2.1,(IntKind.wrap .i64 (st.2.2.2.2.1+(1:Int)),(y24,(st.2.2.2.2.2.2.1,()))))))))) else some (.inr (st.1,(st.2.2.2.2.2.1,(st.2.2.2.2.2.2.1,()))))
def F_sub_Put (x:(Z3×Z172)):Option Z16:= (F_sub_May (x.2.1,x.2.2)).bind fun y1=> bif !y1 then some ((1:Int),x.1) else ((F_sample_Width x.2.1.2.2.2.2.2.2.2.2.1).bind fun y2=> (F_bits_Writer_Put (x.1,(IntKind.wrap .u64 x.2.1.1,(3:Int)))).bind fun y3=> (F_bits_Writer_Put (y3.2,(IntKind.wrap .u64 x.2.1.2.1,(5:Int)))).bind fun y4=> (F_bits_Writer_Put (y4.2,(IntKind.wrap .u64 y2,(5:Int)))).bind fun y5=> (show Option Z196 from (show Option (Z196 ⊕ (Z196 ⊕ Z196)) from bif x.2.1.1==(2:Int) then ((F_bits_Writer_Put (y5.2,(IntKind.wrap .u64 x.2.1.2.2.1,(3:Int)))).bind fun y6=> some (Sum.inr (Sum.inl (x.2.2,(y2,(y6.2,(x.2.1,()))))))) else (bif x.2.1.1==(4:Int) then ((F_bits_Writer_Put (y5.2,(IntKind.wrap .u64 (IntKind.wrap .i64 (x.2.1.2.2.2.2.1-(1:Int))),(10:Int)))).bind fun y7=> (iter F_sub_Put_l0 (x.2.2,(y2,(x.2.1.2.2.2.2.2.2.1,((0:Int),(y7.2,(x.2.1,()))))))).bind fun w10=> some (Sum.inl (w10.1,(w10.2.1,(w10.2.2.1,(w10.2.2.2.1,())))))) else (bif x.2.1.1==(3:Int) then some (Sum.inl (x.2.2,(y2,(y5.2,(x.2.1,()))))) else (bif x.2.1.1==(5:Int) then some (Sum.inr (Sum.inr ((x.2.2,(y2,(y5.2,(x.2.1,()))))))) else some (Sum.inr (Sum.inl (x.2.2,(y2,(y5.2,(x.2.1,())))))))))).bind fun z11=> match z11 with |.inl a12=>((F_sub_putCoefs (a12.2.2.1,a12.2.2.2.1)).bind fun y14=> some (a12.1,(a12.2.1,(y14,(a12.2.2.2.1,()))))) |.inr b13=>(match b13 with |.inl a15=>some (a15.1,(a15.2.1,(a15.2.2.1,(a15.2.2.2.1,())))) |.inr b16=>((F_bits_Writer_Put (b16.2.2.1,(IntKind.wrap .u64 ((List.length b16.2.2.2.1.2.2.2.2.2.2.2.1:Nat):Int),(2:Int)))).bind fun y17=> (iter F_sub_Put_l1 (b16.1,(b16.2.1,(b16.2.2.2.1.2.2.2.2.2.2.2.1,(((List.length b16.2.2.2.1.2.2.2.2.2.2.2.1:Nat):Int),((0:Int),(y17.2,(b16.2.2.2.1,())))))))).bind fun w21=> some (w21.1,(w21.2.1,(w21.2.2.1,(w21.2.2.2.1,()))))))).bind fun z22=> (iter F_sub_Put_l2 (z22.1,(z22.2.1,(z22.2.2.2.1.2.2.2.2.2.2.2.2.1,(((List.length z22.2.2.2.1.2.2.2.2.2.2.2.2.1:Nat):Int),((0:Int),(z22.2.2.1,(z22.2.2.2.1,())))))))).bind fun w25=> (F_sub_rested w25.2.2.1.1).bind fun y26=> bif !y26 then some ((0:Int),w25.2.1) else ((F_parts_Put (w25.2.1,(w25.2.2.1.2.2.2.2.2.2.2.2.2.1,(w25.1,(((List.length w25.2.2.1.2.2.2.2.2.2.2.2.1:Nat):Int),w25.2.2.1.2.2.2.2.2.2.2.2.2.2.1))))).bind fun y27=> some (y27.1,y27.2)))
def S_sub_Put:FSem:=⟨[.r Q5,.v Q18,.v (.int .i64)],[.v (.int .i64)],F_sub_Put⟩
def H25:Hints:=⟨[(2042,[.sv 2 (.int .i64),.sv 7 (.int .i64),.sv 94 (.list false (.int .i64)),.sv 95 (.int .i64),.sv 96 (.int .i64),.box 1000000 Q5,.ptr 0 1000000 [],.vp 4 Q18],[(.exit 9,[.sv 2 (.int .i64),.box 1000000 Q5,.ptr 0 1000000 [],.vp 4 Q18])]),(32598,[.sv 2 (.int .i64),.sv 7 (.int .i64),.sv 75 (.list false Q4),.sv 76 (.int .i64),.sv 77 (.int .i64),.box 1000000 Q5,.ptr 0 1000000 [],.vp 4 Q18],[(.exit 7,[.sv 2 (.int .i64),.sv 7 (.int .i64),.box 1000000 Q5,.ptr 0 1000000 [],.vp 4 Q18])]),(260622,[.sv 2 (.int .i64),.sv 7 (.int .i64),.sv 57 (.arr 3 (.int .i64)),.sv 58 (.int .i64),.box 1000000 Q5,.ptr 0 1000000 [],.vp 4 Q18],[(.exit 5,[.sv 2 (.int .i64),.sv 7 (.int .i64),.box 1000000 Q5,.ptr 0 1000000 [],.vp 4 Q18])])],[(127,[(.normal,[.sv 2 (.int .i64),.sv 7 (.int .i64),.box 1000000 Q5,.ptr 0 1000000 [],.vp 4 Q18])]),(4072,[(.normal,[.sv 2 (.int .i64),.sv 7 (.int .i64),.box 1000000 Q5,.ptr 0 1000000 [],.vp 4 Q18]),(.exit 0,[.sv 2 (.int .i64),.sv 7 (.int .i64),.box 1000000 Q5,.ptr 0 1000000 [],.vp 4 Q18]),(.exit 4,[.sv 2 (.int .i64),.sv 7 (.int .i64),.box 1000000 Q5,.ptr 0 1000000 [],.vp 4 Q18])])],[]⟩
def F_bits_Writer_Len (x:Z3):Option Z16:= some (x.2.1,x)
def S_bits_Writer_Len:FSem:=⟨[.r Q5],[.v (.int .i64)],F_bits_Writer_Len⟩
def H27:Hints:=⟨[],[],[]⟩
def F_sub_Cost (x:Z172):Option Int:= (F_sub_Put ((([]:(List Int)),((0:Int),())),(x.1,x.2))).bind fun y1=> bif y1.1 != (0:Int) then some (0:Int) else ((F_bits_Writer_Len y1.2).bind fun y2=> some y2.1)
def S_sub_Cost:FSem:=⟨[.v Q18,.v (.int .i64)],[.v (.int .i64)],F_sub_Cost⟩
def H15:Hints:=⟨[],[],[]⟩
def F_r2_SameInts_l0 (st:Z28):Option (Z28 ⊕ Z0):= bif decide (st.2.2.1<((List.length st.1:Nat):Int)) then ((gidx st.1 st.2.2.1).bind fun x1=> (gidx st.2.1 st.2.2.1).bind fun x2=> bif x1 != x2 then some (.inr (Sum.inr ((false,())))) else some (.inl (st.1,(st.2.1,(IntKind.wrap .i64 (st.2.2.1+(1:Int)),()))))) else some (.inr (Sum.inl ()))
def F_r2_SameInts (x:((List Int)×(List Int))):Option Bool:= bif ((List.length x.1:Nat):Int) != ((List.length x.2:Nat):Int) then some false else ((iter F_r2_SameInts_l0 (x.1,(x.2,((0:Int),())))).bind fun w3=> match w3 with |.inl a4=>some true |.inr b5=>some b5.1)
def S_r2_SameInts:FSem:=⟨[.v (.list false (.int .i64)),.v (.list false (.int .i64))],[.v .bool],F_r2_SameInts⟩
def H17:Hints:=⟨[(58,[.sv 0 (.list false (.int .i64)),.sv 1 (.list false (.int .i64)),.sv 5 (.int .i64)],[(.exit 0,[]),(.ret,[.sv 4 .bool])])],[],[(6,[.v,.v,.v,.v,.v,.v,.v,.v,.x])]⟩
def F_sample_Down_l0 (st:Z61):Option Z143:= bif decide (st.2.2.2.1<st.2.2.1) then ((gidx st.2.1 st.2.2.2.1).bind fun x2=> (show Option Z103 from (F_sample_wide x2).bind fun y3=> bif !y3 then some (st.1,(x2,(st.2.1,(st.2.2.1,(st.2.2.2.1,(true,(st.2.2.2.2.1,()))))))) else (bif decide (st.1<0) then none else (bif (gshl .i64 (1:Int) st.1)==0 then none else some (st.1,(x2,(st.2.1,(st.2.2.1,(st.2.2.2.1,((Int.tmod x2 (gshl .i64 (1:Int) st.1)) != (0:Int),(st.2.2.2.2.1,())))))))))).bind fun z4=> bif z4.2.2.2.2.2.1 then some (.inr (Sum.inr (((6:Int),(([]:(List Int)),()))))) else (bif decide (z4.1<0) then none else (bif lim ((List.length z4.2.2.2.2.2.2.1)+1) then some (.inl (z4.1,(z4.2.2.1,(z4.2.2.2.1,(IntKind.wrap .i64 (z4.2.2.2.2.1+(1:Int)),(List.append z4.2.2.2.2.2.2.1 ([gshr .i64 z4.2.1 z4.1]:List Int),())))))) else none))) else some (.inr (Sum.inl (st.2.2.2.2.1,())))
def F_sample_Down (x:((List Int)×Int)):Option ((List Int)×Int):= (show Option Z18 from bif decide (x.2<(0:Int)) then some (x.1,(x.2,(true,()))) else some (x.1,(x.2,(decide (x.2 > (30:Int)),())))).bind fun z1=> bif z1.2.2.1 then some (([]:(List Int)),(1:Int)) else ((iter F_sample_Down_l0 (z1.2.1,(z1.1,(((List.length z1.1:Nat):Int),((0:Int),(([]:(List Int)),())))))).bind fun w5=> match w5 with |.inl a6=>some (a6.1,(0:Int)) |.inr b7=>some (b7.2.1,b7.1))
def S_sample_Down:FSem:=⟨[.v (.list false (.int .i64)),.v (.int .i64)],[.o (.int .i64),.v (.int .i64)],F_sample_Down⟩
def H45:Hints:=⟨[(122,[.sv 1 (.int .i64),.sv 15 (.list false (.int .i64)),.sv 16 (.int .i64),.sv 17 (.int .i64),.own 6 6 (.int .i64)],[(.exit 0,[.own 6 6 (.int .i64)]),(.ret,[.sv 5 (.int .i64),.own 4 4 (.int .i64)])])],[(6,[(.normal,[.sv 0 (.list false (.int .i64)),.sv 1 (.int .i64),.sv 14 .bool])]),(15666,[(.normal,[.sv 1 (.int .i64),.sv 8 (.int .i64),.sv 15 (.list false (.int .i64)),.sv 16 (.int .i64),.sv 17 (.int .i64),.sv 30 .bool,.own 6 6 (.int .i64)])])],[]⟩
def F_math_bits_TrailingZeros64 (x:Int):Option Int:= bif x==(0:Int) then some (64:Int) else ((gidx glob0 (gshr .u64 (IntKind.wrap .u64 ((bits .u64 .and x (IntKind.wrap .u64 (0-x)))*(285870213051353865:Int))) (58:Int))).bind fun x1=> some (IntKind.wrap .i64 x1))
def S_math_bits_TrailingZeros64:FSem:=⟨[.v (.int .u64)],[.v (.int .i64)],F_math_bits_TrailingZeros64⟩
def H94:Hints:=⟨[],[],[]⟩
def cx94:Cx:=cxOf [] [] [0,2] []
theorem aops_append {ρ:Type} {cx:Cx} {ops:List Oper}:∀ (l1 l2:List (Md×Oper)) (Γ:AE) (K:AE→Rs ρ),aops cx ops (l1++l2) Γ K=aops cx ops l1 Γ fun Γ'=>aops cx ops l2 Γ' K
 | [],_,_,_=>rfl
 |(md,o)::l1,l2,Γ,K=>by
  simp only [List.cons_append,aops]
  congr 1
  funext Γ'
  exact aops_append l1 l2 Γ' K
theorem aexec_seq {ρ:Type} {cx:Cx} {H:Hints} {a b:Code} {p:Nat} (h:find H.cuts p=none) (Γ:AE) (K:Ex→AE→Rs ρ):aexec cx H (.seq a b) p Γ K=aexec cx H a (2*p) Γ fun e Γ'=>match e with
   |.normal=>aexec cx H b (2*p+1) Γ' K
   |e=>K e Γ':=by
 simp only [aexec,h]
 rfl
theorem aexec_region {ρ:Type} {cx:Cx} {H:Hints} {id:Nat} {ops:Array Oper} {p:Nat} (Γ:AE) (K:Ex→AE→Rs ρ):aexec cx H (.region id ops false) p Γ K=aops cx ops.toList (ops.toList.map fun o=>(.x,o)) Γ fun Γ'=>K .normal Γ':=by
 simp only [aexec,cond_false]
def code94:Code:=match Tryz.f94.body with
 |some c=>c
 |none=>.skip
def seqL:Code→Code
 |.seq a _=>a
 |c=>c
def seqR:Code→Code
 |.seq _ b=>b
 |c=>c
def regOps:Code→Array Oper
 |.region _ ops _=>ops
 |_=>#[]
def tail94:Code:=seqR (seqR code94)
def ops94:List Oper:=(regOps (seqL tail94)).toList
def Γ94 (x:Int):AE:=(((ini [.v (.int .u64)] x).set 2 (.val (.int .i64) (0:Int))).set 3 (.val (.int .u64) x)).set 4 (.val .bool (x==(0:Int)))
def Γ94r (x:Int):AE:=(Γ94 x).set 2 (.val (.int .i64) (64:Int))
end Go.Ab
namespace Go.Ab
open Go.Proofs
set_option maxRecDepth 100000
set_option linter.unusedVariables false
def K94 (e:Ex) (Γ:AE):Option Int:=match e,Γ.pd with
  |.exit _,_=>none
  |_,some _=>none
  |_,none=>(Γ.upto Tryz.f94.ntmps).outs cx94 [] Tryz.f94.ntmps [.v (.int .i64)] (Tryz.f94.results.toList.map .inl) fun y _=>some y
def Γ94b (x a b c i:Int):AE:=((((((Γ94 x).set 5 (.val (.int .u64) x)).set 6 (.val (.int .u64) x)).set 7 (.val (.int .u64) a)).set 8 (.val (.int .u64) b)).set 9 (.val (.int .u64) c)).set 10 (.val (.int .u64) i)
set_option maxRecDepth 100000
theorem shape94:code94=.seq (seqL code94) (.seq (seqL (seqR code94)) (.seq (.region 3 (regOps (seqL tail94)) false) .ret)):=by kernel_rfl
theorem eq94_0 (x:Int):arun cx94 H94 Tryz.f94 S_math_bits_TrailingZeros64.ps S_math_bits_TrailingZeros64.rs x=aexec cx94 H94 code94 1 (ini [.v (.int .u64)] x) K94:=rfl
theorem eq94_a (x:Int) (K:Ex→AE→Option Int):aexec cx94 H94 (seqL code94) 2 (ini [.v (.int .u64)] x) K=K .normal ((ini [.v (.int .u64)] x).set 2 (.val (.int .i64) (0:Int))):=by kernel_rfl
theorem eq94_b (x:Int) (K:Ex→AE→Option Int):aexec cx94 H94 (seqL (seqR code94)) 6 ((ini [.v (.int .u64)] x).set 2 (.val (.int .i64) (0:Int))) K=bif x==(0:Int) then K .ret (Γ94r x) else K .normal (Γ94 x):=by kernel_rfl
theorem eq94_r (x:Int):K94 .ret (Γ94r x)=some (64:Int):=by kernel_rfl
theorem eq94_2 (x:Int) (K:AE→Option Int):aops cx94 ops94 ((ops94.map fun o=>(Md.x,o)).take 6) (Γ94 x) K =
  K (Γ94b x (IntKind.wrap .u64 (0-x)) (bits .u64 .and x (IntKind.wrap .u64 (0-x))) (IntKind.wrap .u64 ((bits .u64 .and x (IntKind.wrap .u64 (0-x)))*(285870213051353865:Int))) (gshr .u64 (IntKind.wrap .u64 ((bits .u64 .and x (IntKind.wrap .u64 (0-x)))*(285870213051353865:Int))) (58:Int))):=by kernel_rfl
theorem eq94_3 (x a b c i:Int):aops cx94 ops94 ((ops94.map fun o=>(Md.x,o)).drop 6) (Γ94b x a b c i) (fun Γ=>K94 .ret Γ)=(gidx glob0 i).bind fun x1=>some (IntKind.wrap .i64 x1):=by kernel_rfl
theorem eq94_4 (x:Int):aops cx94 ops94 (ops94.map fun o=>(Md.x,o)) (Γ94 x) (fun Γ=>K94 .ret Γ)=(gidx glob0 (gshr .u64 (IntKind.wrap .u64 ((bits .u64 .and x (IntKind.wrap .u64 (0-x)))*(285870213051353865:Int))) (58:Int))).bind fun x1=>some (IntKind.wrap .i64 x1):=by
 rw [←List.take_append_drop 6 (ops94.map fun o=>(Md.x,o)),aops_append,eq94_2,eq94_3]
theorem eq94' (x:Int):aexec cx94 H94 code94 1 (ini [.v (.int .u64)] x) K94=F_math_bits_TrailingZeros64 x:=by
 rw [shape94,aexec_seq rfl,eq94_a]
 simp only []
 rw [aexec_seq rfl,eq94_b]
 simp only []
 rw [aexec_seq rfl,aexec_region]
 simp only [aexec]
 rw [eq94_r]
 exact congrArg (fun z=>bif x==(0:Int) then some (64:Int) else z) (eq94_4 x)
theorem eq94 (x):arun cx94 H94 Tryz.f94 S_math_bits_TrailingZeros64.ps S_math_bits_TrailingZeros64.rs x=S_math_bits_TrailingZeros64.F x:=(eq94_0 x).trans (eq94' x)
def F_sample_Wasted_l0 (st:Z29):Option Z71:= bif decide (st.2.2.2.1<st.2.2.1) then ((gidx st.2.1 st.2.2.2.1).bind fun x1=> some (.inl (bits .i64 .or st.1 x1,(st.2.1,(st.2.2.1,(IntKind.wrap .i64 (st.2.2.2.1+(1:Int)),())))))) else some (.inr (st.1,()))
def F_sample_Wasted (x:(List Int)):Option Int:= (iter F_sample_Wasted_l0 ((0:Int),(x,(((List.length x:Nat):Int),((0:Int),()))))).bind fun w2=> bif w2.1==(0:Int) then some (0:Int) else ((F_math_bits_TrailingZeros64 (IntKind.wrap .u64 w2.1)).bind fun y3=> some (imin y3 (30:Int)))
def S_sample_Wasted:FSem:=⟨[.v (.list false (.int .i64))],[.v (.int .i64)],F_sample_Wasted⟩
def H46:Hints:=⟨[(58,[.sv 3 (.int .i64),.sv 6 (.list false (.int .i64)),.sv 7 (.int .i64),.sv 8 (.int .i64)],[(.exit 0,[.sv 3 (.int .i64)])])],[],[]⟩
def F_fixed_Rest_l0 (st:Z32):Option (Z32 ⊕ Z15):= bif decide ((IntKind.wrap .i64 (st.1+(1:Int)))<((List.length st.2.2.2.1:Nat):Int)) then (bif (decide ((0:Int)≤(IntKind.wrap .i64 (st.1+(1:Int)))))&&(decide ((IntKind.wrap .i64 (st.1+(1:Int)))<((List.length st.2.2.2.1:Nat):Int))) then (bif (decide ((0:Int)≤st.1))&&(decide (st.1<((List.length st.2.2.2.1:Nat):Int))) then (bif (decide ((0:Int)≤st.1))&&(decide (st.1<((List.length st.2.2.2.1:Nat):Int))) then some (.inl (IntKind.wrap .i64 (st.1+(1:Int)),(st.2.1,(st.2.2.1,(List.set st.2.2.2.1 (Int.toNat st.1) (IntKind.wrap .i64 ((List.getD st.2.2.2.1 (Int.toNat (IntKind.wrap .i64 (st.1+(1:Int)))) (0:Int))-(List.getD st.2.2.2.1 (Int.toNat st.1) (0:Int)))),()))))) else none) else none) else none) else some (.inr (st.2.1,(st.2.2.1,(st.2.2.2.1,()))))
def F_fixed_Rest_l1 (st:Z15):Option Z66:= bif decide (st.2.1<st.1) then ((iter F_fixed_Rest_l0 ((0:Int),(st.1,(st.2.1,(st.2.2.1,()))))).bind fun w3=> bif (decide ((0:Int)≤(IntKind.wrap .i64 (((List.length w3.2.2.1:Nat):Int)-(1:Int)))))&&(decide ((IntKind.wrap .i64 (((List.length w3.2.2.1:Nat):Int)-(1:Int)))≤((List.length w3.2.2.1:Nat):Int))) then (bif decide ((Int.toNat (IntKind.wrap .i64 (((List.length w3.2.2.1:Nat):Int)-(1:Int))))≤(List.length w3.2.2.1)) then some (.inl (w3.1,(IntKind.wrap .i64 (w3.2.1+(1:Int)),(List.take (Int.toNat (IntKind.wrap .i64 (((List.length w3.2.2.1:Nat):Int)-(1:Int)))) w3.2.2.1,())))) else none) else none) else some (.inr (st.2.2.1,()))
def F_fixed_Rest (x:((List Int)×Int)):Option ((List Int)×Int):= (show Option Z18 from bif decide (x.2<(0:Int)) then some (x.1,(x.2,(true,()))) else (bif decide (x.2 > (4:Int)) then some (x.1,(x.2,(true,()))) else some (x.1,(x.2,(decide (((List.length x.1:Nat):Int)<x.2),()))))).bind fun z1=> bif z1.2.2.1 then some (([]:(List Int)),(1:Int)) else ((F_fixed_wide z1.1).bind fun y2=> bif !y2 then some (([]:(List Int)),(6:Int)) else (bif lim (List.length z1.1) then ((iter F_fixed_Rest_l1 (z1.2.1,((0:Int),(z1.1,())))).bind fun w4=> (F_fixed_wide w4.1).bind fun y5=> bif !y5 then some (([]:(List Int)),(6:Int)) else some (w4.1,(0:Int))) else none))
def S_fixed_Rest:FSem:=⟨[.v (.list false (.int .i64)),.v (.int .i64)],[.o (.int .i64),.v (.int .i64)],F_fixed_Rest⟩
def H118:Hints:=⟨[(250,[.sv 25 (.int .i64),.sv 26 (.int .i64),.own 6 6 (.int .i64)],[(.exit 0,[.own 6 6 (.int .i64)])]),(64098,[.sv 7 (.int .i64),.sv 25 (.int .i64),.sv 26 (.int .i64),.own 6 6 (.int .i64)],[(.exit 2,[.sv 25 (.int .i64),.sv 26 (.int .i64),.own 6 6 (.int .i64)])])],[(6,[(.normal,[.sv 0 (.list false (.int .i64)),.sv 1 (.int .i64),.sv 19 .bool])])],[(11,[.q,.v,.q,.v,.v,.q,.q,.q,.v,.q,.q,.v,.x,.x])]⟩
def F_linear_Rest_l0 (st:Z78):Option (Z78 ⊕ Z49):= bif decide (st.2.2.2.1<((List.length st.1:Nat):Int)) then ((gidx st.1 st.2.2.2.1).bind fun x4=> bif (decide ((0:Int)≤st.2.2.2.1))&&(decide (st.2.2.2.1≤((List.length st.1:Nat):Int))) then ((F_linear_predict (List.take (Int.toNat st.2.2.2.1) st.1,(st.2.1,st.2.2.1))).bind fun y5=> (F_linear_wide (IntKind.wrap .i64 (x4-y5))).bind fun y6=> bif !y6 then some (.inr (Sum.inr (((6:Int),(([]:(List Int)),()))))) else (bif lim ((List.length st.2.2.2.2.1)+1) then some (.inl (st.1,(st.2.1,(st.2.2.1,(IntKind.wrap .i64 (st.2.2.2.1+(1:Int)),(List.append st.2.2.2.2.1 ([IntKind.wrap .i64 (x4-y5)]:List Int),())))))) else none)) else none) else some (.inr (Sum.inl (st.2.2.2.2.1,())))
def F_linear_Rest (x:Z11):Option ((List Int)×Int):= (show Option Z50 from (F_linear_May (x.2.1,x.2.2)).bind fun y1=> bif !y1 then some (x.1,(x.2.1,(x.2.2,(true,())))) else some (x.1,(x.2.1,(x.2.2,(decide (((List.length x.1:Nat):Int)<((List.length x.2.1:Nat):Int)),()))))).bind fun z2=> bif z2.2.2.2.1 then some (([]:(List Int)),(1:Int)) else ((F_linear_allWide z2.1).bind fun y3=> bif !y3 then some (([]:(List Int)),(6:Int)) else (bif (decide ((0:Int)≤(IntKind.wrap .i64 (((List.length z2.1:Nat):Int)-((List.length z2.2.1:Nat):Int)))))&&(lim (Int.toNat (IntKind.wrap .i64 (((List.length z2.1:Nat):Int)-((List.length z2.2.1:Nat):Int))))) then ((iter F_linear_Rest_l0 (z2.1,(z2.2.1,(z2.2.2.1,(((List.length z2.2.1:Nat):Int),(([]:(List Int)),())))))).bind fun w7=> match w7 with |.inl a8=>some (a8.1,(0:Int)) |.inr b9=>some (b9.2.1,b9.1)) else none))
def S_linear_Rest:FSem:=⟨[.v (.list false (.int .i64)),.v (.list false (.int .i64)),.v (.int .i64)],[.o (.int .i64),.v (.int .i64)],F_linear_Rest⟩
def H119:Hints:=⟨[(250,[.sv 0 (.list false (.int .i64)),.sv 1 (.list false (.int .i64)),.sv 2 (.int .i64),.sv 9 (.int .i64),.own 8 8 (.int .i64)],[(.exit 0,[.own 8 8 (.int .i64)]),(.ret,[.sv 7 (.int .i64),.own 6 6 (.int .i64)])])],[(6,[(.normal,[.sv 0 (.list false (.int .i64)),.sv 1 (.list false (.int .i64)),.sv 2 (.int .i64),.sv 21 .bool])])],[(9,[.v,.v,.v,.v,.v,.v,.v,.v,.v,.v,.x,.x])]⟩
def F_long_Rest_l0 (st:Z117):Option (Z117 ⊕ Z49):= bif decide (st.2.2.2.2.1<st.2.2.2.1) then ((gidx st.2.2.1 st.2.2.2.2.1).bind fun x3=> (F_long_predict (st.1,(st.2.2.2.2.1,(st.2.1,st.2.2.2.2.2.2.1)))).bind fun y4=> (F_long_wide (IntKind.wrap .i64 (x3-y4))).bind fun y5=> bif !y5 then some (.inr (Sum.inr (((6:Int),(([]:(List Int)),()))))) else (bif lim ((List.length st.2.2.2.2.2.1)+1) then some (.inl (st.1,(st.2.1,(st.2.2.1,(st.2.2.2.1,(IntKind.wrap .i64 (st.2.2.2.2.1+(1:Int)),(List.append st.2.2.2.2.2.1 ([IntKind.wrap .i64 (x3-y4)]:List Int),(st.2.2.2.2.2.2.1,())))))))) else none)) else some (.inr (Sum.inl (st.2.2.2.2.2.1,())))
def F_long_Rest (x:Z12):Option ((List Int)×Int):= (F_long_May (x.2.1,x.2.2)).bind fun y1=> bif !y1 then some (([]:(List Int)),(1:Int)) else ((F_long_allWide x.1).bind fun y2=> bif !y2 then some (([]:(List Int)),(6:Int)) else (bif (decide ((0:Int)≤((List.length x.1:Nat):Int)))&&(lim (Int.toNat ((List.length x.1:Nat):Int))) then ((iter F_long_Rest_l0 (x.1,(x.2.1,(x.1,(((List.length x.1:Nat):Int),((0:Int),(([]:(List Int)),(x.2.2,())))))))).bind fun w6=> match w6 with |.inl a7=>some (a7.1,(0:Int)) |.inr b8=>some (b8.2.1,b8.1)) else none))
def S_long_Rest:FSem:=⟨[.v (.list false (.int .i64)),.v (.int .i64),.v (.arr 3 (.int .i64))],[.o (.int .i64),.v (.int .i64)],F_long_Rest⟩
def H120:Hints:=⟨[(250,[.sv 0 (.list false (.int .i64)),.sv 1 (.int .i64),.sv 22 (.list false (.int .i64)),.sv 23 (.int .i64),.sv 24 (.int .i64),.own 8 8 (.int .i64),.vp 5 (.arr 3 (.int .i64))],[(.exit 0,[.own 8 8 (.int .i64)]),(.ret,[.sv 7 (.int .i64),.own 6 6 (.int .i64)])])],[],[]⟩
def F_learn_Rest_l0 (st:Z155):Option (Z155 ⊕ (Z90 ⊕ Z5)):= bif decide (st.2.2.2.2.1<st.2.2.2.1) then (bif (decide ((0:Int)≤st.2.2.2.2.1))&&(decide (st.2.2.2.2.1<((List.length st.2.2.2.2.2.1:Nat):Int))) then ((F_learn_Filter_Guess st.2.2.2.2.2.2.1).bind fun y6=> (F_learn_wide (IntKind.wrap .i64 ((List.getD st.2.2.2.2.2.1 (Int.toNat st.2.2.2.2.1) (0:Int))-y6.1))).bind fun y7=> bif !y7 then some (.inr (Sum.inr (((6:Int),(([]:(List Int)),()))))) else ((F_learn_Filter_Tell (y6.2,List.getD st.2.2.2.2.2.1 (Int.toNat st.2.2.2.2.1) (0:Int))).bind fun y8=> bif (decide ((0:Int)≤st.2.2.2.2.1))&&(decide (st.2.2.2.2.1<((List.length st.2.2.2.2.2.1:Nat):Int))) then some (.inl (st.1,(st.2.1,(st.2.2.1,(st.2.2.2.1,(IntKind.wrap .i64 (st.2.2.2.2.1+(1:Int)),(List.set st.2.2.2.2.2.1 (Int.toNat st.2.2.2.2.1) (IntKind.wrap .i64 ((List.getD st.2.2.2.2.2.1 (Int.toNat st.2.2.2.2.1) (0:Int))-y6.1)),(y8,())))))))) else none)) else none) else some (.inr (Sum.inl (st.1,(st.2.1,(st.2.2.1,(st.2.2.2.2.2.1,()))))))
def F_learn_Rest_l1 (st:Z90):Option (Z90 ⊕ Z49):= bif decide (st.2.2.1<st.2.1) then ((gidx st.1 st.2.2.1).bind fun x4=> (F_learn_New x4).bind fun y5=> bif y5.2 != (0:Int) then some (.inr (Sum.inr ((y5.2,(([]:(List Int)),()))))) else ((iter F_learn_Rest_l0 (st.1,(st.2.1,(st.2.2.1,(((List.length st.2.2.2.1:Nat):Int),((0:Int),(st.2.2.2.1,(y5.1,())))))))).bind fun w9=> match w9 with |.inl a10=>some (.inl (a10.1,(a10.2.1,(IntKind.wrap .i64 (a10.2.2.1+(1:Int)),(a10.2.2.2.1,()))))) |.inr b11=>some (.inr (Sum.inr ((b11.1,(b11.2.1,()))))))) else some (.inr (Sum.inl (st.2.2.2.1,())))
def F_learn_Rest (x:Z27):Option ((List Int)×Int):= (F_learn_May x.2).bind fun y1=> bif !y1 then some (([]:(List Int)),(1:Int)) else ((F_learn_allWide x.1).bind fun y2=> bif !y2 then some (([]:(List Int)),(6:Int)) else ((F_slices_Clone___int_int_ x.1).bind fun y3=> (iter F_learn_Rest_l1 (x.2,(((List.length x.2:Nat):Int),((0:Int),(y3,()))))).bind fun w12=> match w12 with |.inl a13=>some (a13.1,(0:Int)) |.inr b14=>some (b14.2.1,b14.1)))
def S_learn_Rest:FSem:=⟨[.v (.list false (.int .i64)),.v (.list false Q4)],[.o (.int .i64),.v (.int .i64)],F_learn_Rest⟩
def H121:Hints:=⟨[(250,[.sv 22 (.list false Q4),.sv 23 (.int .i64),.sv 24 (.int .i64),.own 6 6 (.int .i64)],[(.exit 0,[.own 6 6 (.int .i64)]),(.ret,[.sv 5 (.int .i64),.own 4 4 (.int .i64)])]),(256414,[.sv 22 (.list false Q4),.sv 23 (.int .i64),.sv 24 (.int .i64),.sv 37 (.int .i64),.sv 38 (.int .i64),.own 6 6 (.int .i64),.box 1030 Q8,.ptr 9 1030 [],.ref 36 6 []],[(.exit 2,[.sv 22 (.list false Q4),.sv 23 (.int .i64),.sv 24 (.int .i64),.own 6 6 (.int .i64)]),(.ret,[.sv 5 (.int .i64),.own 4 4 (.int .i64)])])],[],[]⟩
def F_sub_split (x:(Z170×(List Int))):Option Z173:= (show Option ((List Int)×Z186) from bif x.1.1==(2:Int) then ((F_fixed_Rest (x.2,x.1.2.2.1)).bind fun y1=> some (x.2,(y1.1,(y1.2,(x.1,()))))) else (bif x.1.1==(3:Int) then ((F_linear_Rest (x.2,(x.1.2.2.2.2.2.1,x.1.2.2.2.1))).bind fun y2=> some (x.2,(y2.1,(y2.2,(x.1,()))))) else (bif x.1.1==(4:Int) then ((F_long_Rest (x.2,(x.1.2.2.2.2.1,x.1.2.2.2.2.2.2.1))).bind fun y3=> bif y3.2==(0:Int) then ((F_linear_Rest (y3.1,(x.1.2.2.2.2.2.1,x.1.2.2.2.1))).bind fun y4=> some (y3.1,(y4.1,(y4.2,(x.1,()))))) else some (y3.1,(([]:(List Int)),(y3.2,(x.1,()))))) else (bif x.1.1==(5:Int) then ((F_learn_Rest (x.2,x.1.2.2.2.2.2.2.2.1)).bind fun y5=> some (x.2,(y5.1,(y5.2,(x.1,()))))) else some (x.2,(([]:(List Int)),((0:Int),(x.1,())))))))).bind fun z6=> bif z6.2.2.1 != (0:Int) then some (z6.2.2.1,z6.2.2.2.1) else ((F_sub_warmth (z6.2.2.2.1,((List.length z6.1:Nat):Int))).bind fun y7=> bif (decide ((0:Int)≤y7))&&(decide (y7≤((List.length z6.1:Nat):Int))) then ((F_slices_Clone___int_int_ (List.take (Int.toNat y7) z6.1)).bind fun y8=> some ((0:Int),(z6.2.2.2.1.1,(z6.2.2.2.1.2.1,(z6.2.2.2.1.2.2.1,(z6.2.2.2.1.2.2.2.1,(z6.2.2.2.1.2.2.2.2.1,(z6.2.2.2.1.2.2.2.2.2.1,(z6.2.2.2.1.2.2.2.2.2.2.1,(z6.2.2.2.1.2.2.2.2.2.2.2.1,(y8,(z6.2.2.2.1.2.2.2.2.2.2.2.2.2.1,(z6.2.1,z6.2.2.2.1.2.2.2.2.2.2.2.2.2.2.2))))))))))))) else none)
def S_sub_split:FSem:=⟨[.r Q18,.v (.list false (.int .i64))],[.v (.int .i64)],F_sub_split⟩
def H68:Hints:=⟨[],[(15,[(.normal,[.sv 1 (.list false (.int .i64)),.sv 5 (.list false (.int .i64)),.sv 6 (.int .i64),.box 1000000 Q18,.ptr 0 1000000 []])])],[(7,[.v,.q,.q,.q,.q,.q,.q,.q,.q,.x,.x,.q,.q,.q,.x]),(9,[.v,.q,.q,.q,.q,.q,.q,.q,.q,.x,.x,.q,.q,.q,.x]),(11,[.q,.q,.q,.q,.q,.q,.q,.q,.q,.x,.x,.q,.q,.q,.x])]⟩
def F_rice_Best_l0 (st:Z33):Option Z72:= bif decide (st.2.2.2.1≤(25:Int)) then ((F_rice_Sum (st.2.2.2.1,st.1)).bind fun y2=> bif decide (y2<st.2.2.1) then some (.inl (st.1,(st.2.2.2.1,(y2,(IntKind.wrap .i64 (st.2.2.2.1+(1:Int)),()))))) else some (.inl (st.1,(st.2.1,(st.2.2.1,(IntKind.wrap .i64 (st.2.2.2.1+(1:Int)),())))))) else some (.inr (st.2.1,()))
def F_rice_Best (x:(List Int)):Option Int:= (F_rice_Sum ((0:Int),x)).bind fun y1=> (iter F_rice_Best_l0 (x,((0:Int),(y1,((1:Int),()))))).bind fun w3=> some w3.1
def S_rice_Best:FSem:=⟨[.v (.list false (.int .i64))],[.v (.int .i64)],F_rice_Best⟩
def H178:Hints:=⟨[(58,[.sv 0 (.list false (.int .i64)),.sv 3 (.int .i64),.sv 4 (.int .i64),.sv 5 (.int .i64)],[(.exit 0,[.sv 3 (.int .i64)])])],[],[]⟩
def F_parts_choose (x:(List Int)):Option Int:= (F_rice_Best x).bind fun y1=> (F_parts_raw x).bind fun y2=> (F_rice_Sum (y1,x)).bind fun y3=> bif decide (y2<y3) then some (31:Int) else some y1
def S_parts_choose:FSem:=⟨[.v (.list false (.int .i64))],[.v (.int .i64)],F_parts_choose⟩
def H123:Hints:=⟨[],[],[]⟩
def F_parts_Best_l0 (st:Z187):Option (Z187 ⊕ (Int×(Int×(Int×((List Int)×(Int×(Int×Z135))))))):= bif decide (st.2.2.2.2.2.2.2.2.1<st.2.2.2.2.2.2.2.1) then (bif (decide ((0:Int)≤st.2.2.2.2.2.2.2.2.1))&&(decide (st.2.2.2.2.2.2.2.2.1<((List.length st.2.2.2.2.2.2.2.2.2.1:Nat):Int))) then (bif (decide ((0:Int)≤(List.getD st.2.2.2.2.2.2.2.2.2.1 (Int.toNat st.2.2.2.2.2.2.2.2.1) (0:Int))))&&(decide ((List.getD st.2.2.2.2.2.2.2.2.2.1 (Int.toNat st.2.2.2.2.2.2.2.2.1) (0:Int))≤((List.length st.2.2.2.2.2.2.1:Nat):Int))) then ((F_parts_choose (List.take (Int.toNat (List.getD st.2.2.2.2.2.2.2.2.2.1 (Int.toNat st.2.2.2.2.2.2.2.2.1) (0:Int))) st.2.2.2.2.2.2.1)).bind fun y3=> bif lim ((List.length st.2.2.2.2.2.2.2.2.2.2.2.2.1.2.1)+1) then (bif (decide ((0:Int)≤(List.getD st.2.2.2.2.2.2.2.2.2.1 (Int.toNat st.2.2.2.2.2.2.2.2.1) (0:Int))))&&(decide ((List.getD st.2.2.2.2.2.2.2.2.2.1 (Int.toNat st.2.2.2.2.2.2.2.2.1) (0:Int))≤((List.length st.2.2.2.2.2.2.1:Nat):Int))) then some (.inl (st.1,(st.2.1,(st.2.2.1,(st.2.2.2.1,(st.2.2.2.2.1,(st.2.2.2.2.2.1,(List.drop (Int.toNat (List.getD st.2.2.2.2.2.2.2.2.2.1 (Int.toNat st.2.2.2.2.2.2.2.2.1) (0:Int))) (List.take (List.length st.2.2.2.2.2.2.1) st.2.2.2.2.2.2.1),(st.2.2.2.2.2.2.2.1,(IntKind.wrap .i64 (st.2.2.2.2.2.2.2.2.1+(1:Int)),(st.2.2.2.2.2.2.2.2.2.1,(st.2.2.2.2.2.2.2.2.2.2.1,(st.2.2.2.2.2.2.2.2.2.2.2.1,((st.2.2.2.2.2.2.2.2.2.2.2.2.1.1,(List.append st.2.2.2.2.2.2.2.2.2.2.2.2.1.2.1 ([y3]:List Int),st.2.2.2.2.2.2.2.2.2.2.2.2.1.2.2)),())))))))))))))) else none) else none) else none) else none) else some (.inr (st.1,(st.2.1,(st.2.2.1,(st.2.2.2.1,(st.2.2.2.2.1,(st.2.2.2.2.2.1,(st.2.2.2.2.2.2.2.2.2.2.1,(st.2.2.2.2.2.2.2.2.2.2.2.1,(st.2.2.2.2.2.2.2.2.2.2.2.2.1,()))))))))))
def F_parts_Best_l1 (st:Z151):Option (Z151 ⊕ Z93):= bif decide (st.2.2.2.2.2.1≤(imin (imax st.2.2.1 (0:Int)) (8:Int))) then ((F_parts_Sizes (st.2.2.2.2.2.1,(st.1,st.2.1))).bind fun y2=> bif ((List.length y2:Nat):Int)==(0:Int) then some (.inl (st.1,(st.2.1,(st.2.2.1,(st.2.2.2.1,(st.2.2.2.2.1,(IntKind.wrap .i64 (st.2.2.2.2.2.1+(1:Int)),(st.2.2.2.2.2.2.1,(st.2.2.2.2.2.2.2.1,()))))))))) else ((iter F_parts_Best_l0 (st.1,(st.2.1,(st.2.2.1,(st.2.2.2.1,(st.2.2.2.2.1,(st.2.2.2.2.2.1,(st.2.2.2.1,(((List.length y2:Nat):Int),((0:Int),(y2,(st.2.2.2.2.2.2.1,(st.2.2.2.2.2.2.2.1,((st.2.2.2.2.2.1,(([]:(List Int)),())),())))))))))))))).bind fun w4=> (F_parts_Cost (w4.2.2.2.2.2.2.2.2.1,(w4.1,(w4.2.1,w4.2.2.2.1)))).bind fun y5=> (show Option (Int×(Int×(Int×((List Int)×(Int×(Int×(Int×(Bool×Z135)))))))) from bif w4.2.2.2.2.1==(0:Int) then some (w4.1,(w4.2.1,(w4.2.2.1,(w4.2.2.2.1,(w4.2.2.2.2.1,(w4.2.2.2.2.2.1,(y5,(true,(w4.2.2.2.2.2.2.1,(w4.2.2.2.2.2.2.2.1,(w4.2.2.2.2.2.2.2.2.1,()))))))))))) else some (w4.1,(w4.2.1,(w4.2.2.1,(w4.2.2.2.1,(w4.2.2.2.2.1,(w4.2.2.2.2.2.1,(y5,(decide (y5<w4.2.2.2.2.1),(w4.2.2.2.2.2.2.1,(w4.2.2.2.2.2.2.2.1,(w4.2.2.2.2.2.2.2.2.1,())))))))))))).bind fun z6=> bif z6.2.2.2.2.2.2.2.1 then some (.inl (z6.1,(z6.2.1,(z6.2.2.1,(z6.2.2.2.1,(z6.2.2.2.2.2.2.1,(IntKind.wrap .i64 (z6.2.2.2.2.2.1+(1:Int)),(z6.2.2.2.2.2.2.2.2.1,(z6.2.2.2.2.2.2.2.2.2.2.1,()))))))))) else some (.inl (z6.1,(z6.2.1,(z6.2.2.1,(z6.2.2.2.1,(z6.2.2.2.2.1,(IntKind.wrap .i64 (z6.2.2.2.2.2.1+(1:Int)),(z6.2.2.2.2.2.2.2.2.1,(z6.2.2.2.2.2.2.2.2.2.1,()))))))))))) else some (.inr (st.2.2.2.2.2.2.1,(st.2.2.2.2.2.2.2.1,())))
def F_parts_Best (x:(Int×Z1)):Option (Z5×Int):= (F_parts_right (x.1,(x.2.1,x.2.2.2))).bind fun y1=> bif !y1 then some (((0:Int),(([]:(List Int)),())),(1:Int)) else ((iter F_parts_Best_l1 (x.1,(x.2.1,(x.2.2.1,(x.2.2.2,((0:Int),((0:Int),(((0:Int),(([]:(List Int)),())),(((0:Int),(([]:(List Int)),())),()))))))))).bind fun w7=> some (w7.2.1,(0:Int)))
def S_parts_Best:FSem:=⟨[.v (.int .i64),.v (.int .i64),.v (.int .i64),.v (.list false (.int .i64))],[.v Q6,.v (.int .i64)],F_parts_Best⟩
def H69:Hints:=⟨[(250,[.sv 0 (.int .i64),.sv 1 (.int .i64),.sv 2 (.int .i64),.sv 3 (.list false (.int .i64)),.sv 11 (.int .i64),.sv 12 (.int .i64),.box 8 Q6,.box 10 Q6,.ptr 8 8 [],.ptr 10 10 []],[(.exit 0,[.box 8 Q6,.box 10 Q6,.ptr 8 8 [],.ptr 10 10 []])]),(512634,[.sv 0 (.int .i64),.sv 1 (.int .i64),.sv 2 (.int .i64),.sv 3 (.list false (.int .i64)),.sv 11 (.int .i64),.sv 12 (.int .i64),.sv 15 (.list false (.int .i64)),.sv 43 (.int .i64),.sv 44 (.int .i64),.own 42 13 (.int .i64),.box 8 Q6,.box 10 Q6,.box 14 (.pair (.int .i64) Q2),.ptr 8 8 [],.ptr 10 10 [],.ptr 14 14 []],[(.exit 2,[.sv 0 (.int .i64),.sv 1 (.int .i64),.sv 2 (.int .i64),.sv 3 (.list false (.int .i64)),.sv 11 (.int .i64),.sv 12 (.int .i64),.box 8 Q6,.box 10 Q6,.box 14 (.pair (.int .i64) Q2),.ptr 8 8 [],.ptr 10 10 [],.ptr 14 14 []])])],[(256319,[(.normal,[.sv 0 (.int .i64),.sv 1 (.int .i64),.sv 2 (.int .i64),.sv 3 (.list false (.int .i64)),.sv 11 (.int .i64),.sv 12 (.int .i64),.sv 18 (.int .i64),.sv 72 .bool,.box 8 Q6,.box 10 Q6,.box 14 Q6,.ptr 8 8 [],.ptr 10 10 [],.ptr 14 14 []])])],[(15,[.q,.q,.v,.v,.v,.v,.q,.x,.x,.x])]⟩
def F_sub_Make_l0 (st:Z210):Option (Z210 ⊕ (((List Int)×Z206) ⊕ Z177)):= bif decide (st.2.2.2.1<st.2.2.1) then ((gidx st.2.1 st.2.2.2.1).bind fun x5=> (gidx st.1 (0:Int)).bind fun x6=> bif x5 != x6 then some (.inr (Sum.inr (((7:Int),(((0:Int),((0:Int),((0:Int),((0:Int),((0:Int),(([]:(List Int)),(List.replicate 3 (0:Int),(([]:Z4),(([]:(List Int)),(((0:Int),(([]:(List Int)),())),(([]:(List Int)),()))))))))))),()))))) else some (.inl (st.1,(st.2.1,(st.2.2.1,(IntKind.wrap .i64 (st.2.2.2.1+(1:Int)),(st.2.2.2.2.1,(st.2.2.2.2.2.1,())))))))) else some (.inr (Sum.inl (st.1,(st.2.2.2.2.1,(st.2.2.2.2.2.1,())))))
def F_sub_Make (x:(Int×((List Int)×Z170))):Option Z172:= (show Option (Int×((List Int)×(Int×(Bool×Z206)))) from bif decide (((List.length x.2.1:Nat):Int)<(1:Int)) then some (x.1,(x.2.1,(((List.length x.2.1:Nat):Int),(true,(((0:Int),((0:Int),((0:Int),((0:Int),((0:Int),(([]:(List Int)),(List.replicate 3 (0:Int),(([]:Z4),(([]:(List Int)),(((0:Int),(([]:(List Int)),())),(([]:(List Int)),()))))))))))),(x.2.2,())))))) else (bif decide (((List.length x.2.1:Nat):Int) > (4096:Int)) then some (x.1,(x.2.1,(((List.length x.2.1:Nat):Int),(true,(((0:Int),((0:Int),((0:Int),((0:Int),((0:Int),(([]:(List Int)),(List.replicate 3 (0:Int),(([]:Z4),(([]:(List Int)),(((0:Int),(([]:(List Int)),())),(([]:(List Int)),()))))))))))),(x.2.2,())))))) else ((F_sub_fit (x.1,(x.2.2,((List.length x.2.1:Nat):Int)))).bind fun y1=> some (x.1,(x.2.1,(((List.length x.2.1:Nat):Int),(!y1,(((0:Int),((0:Int),((0:Int),((0:Int),((0:Int),(([]:(List Int)),(List.replicate 3 (0:Int),(([]:Z4),(([]:(List Int)),(((0:Int),(([]:(List Int)),())),(([]:(List Int)),()))))))))))),(x.2.2,()))))))))).bind fun z2=> bif z2.2.2.2.1 then some (((0:Int),((0:Int),((0:Int),((0:Int),((0:Int),(([]:(List Int)),(List.replicate 3 (0:Int),(([]:Z4),(([]:(List Int)),(((0:Int),(([]:(List Int)),())),(([]:(List Int)),()))))))))))),(1:Int)) else ((F_sub_allWide z2.2.1).bind fun y3=> bif !y3 then some (((0:Int),((0:Int),((0:Int),((0:Int),((0:Int),(([]:(List Int)),(List.replicate 3 (0:Int),(([]:Z4),(([]:(List Int)),(((0:Int),(([]:(List Int)),())),(([]:(List Int)),()))))))))))),(6:Int)) else ((F_sub_chosen (z2.1,z2.2.2.2.2.2.1)).bind fun y4=> bif z2.1==(0:Int) then ((iter F_sub_Make_l0 (z2.2.1,(z2.2.1,(((List.length z2.2.1:Nat):Int),((0:Int),(z2.2.2.2.2.1,(y4,()))))))).bind fun w7=> match w7 with |.inl a8=>((gidx a8.1 (0:Int)).bind fun x10=> some ((a8.2.2.1.1,(a8.2.2.1.2.1,(a8.2.2.1.2.2.1,(a8.2.2.1.2.2.2.1,(a8.2.2.1.2.2.2.2.1,(a8.2.2.1.2.2.2.2.2.1,(a8.2.2.1.2.2.2.2.2.2.1,(a8.2.2.1.2.2.2.2.2.2.2.1,(([x10]:List Int),a8.2.2.1.2.2.2.2.2.2.2.2.2))))))))),(0:Int))) |.inr b9=>some (b9.2.1,b9.1)) else ((F_sample_Wasted z2.2.1).bind fun y11=> (F_sample_Down (z2.2.1,y11)).bind fun y12=> bif y12.2 != (0:Int) then some (((0:Int),((0:Int),((0:Int),((0:Int),((0:Int),(([]:(List Int)),(List.replicate 3 (0:Int),(([]:Z4),(([]:(List Int)),(((0:Int),(([]:(List Int)),())),(([]:(List Int)),()))))))))))),(6:Int)) else (bif z2.1==(1:Int) then some ((y4.1,(y11,(y4.2.2.1,(y4.2.2.2.1,(y4.2.2.2.2.1,(y4.2.2.2.2.2.1,(y4.2.2.2.2.2.2.1,(y4.2.2.2.2.2.2.2.1,(y12.1,y4.2.2.2.2.2.2.2.2.2))))))))),(0:Int)) else ((F_sub_split ((y4.1,(y11,y4.2.2)),y12.1)).bind fun y13=> bif y13.1 != (0:Int) then some (((0:Int),((0:Int),((0:Int),((0:Int),((0:Int),(([]:(List Int)),(List.replicate 3 (0:Int),(([]:Z4),(([]:(List Int)),(((0:Int),(([]:(List Int)),())),(([]:(List Int)),()))))))))))),(6:Int)) else ((F_parts_Best (z2.2.2.1,(((List.length y13.2.2.2.2.2.2.2.2.2.1:Nat):Int),((6:Int),y13.2.2.2.2.2.2.2.2.2.2.2.1)))).bind fun y14=> bif y14.2 != (0:Int) then some (((0:Int),((0:Int),((0:Int),((0:Int),((0:Int),(([]:(List Int)),(List.replicate 3 (0:Int),(([]:Z4),(([]:(List Int)),(((0:Int),(([]:(List Int)),())),(([]:(List Int)),()))))))))))),(6:Int)) else some ((y13.2.1,(y13.2.2.1,(y13.2.2.2.1,(y13.2.2.2.2.1,(y13.2.2.2.2.2.1,(y13.2.2.2.2.2.2.1,(y13.2.2.2.2.2.2.2.1,(y13.2.2.2.2.2.2.2.2.1,(y13.2.2.2.2.2.2.2.2.2.1,(y14.1,y13.2.2.2.2.2.2.2.2.2.2.2)))))))))),(0:Int))))))))
def S_sub_Make:FSem:=⟨[.v (.int .i64),.v (.list false (.int .i64)),.v Q18],[.v Q18,.v (.int .i64)],F_sub_Make⟩
def H32:Hints:=⟨[(4050,[.sv 1 (.list false (.int .i64)),.sv 39 (.list false (.int .i64)),.sv 40 (.int .i64),.sv 41 (.int .i64),.box 6 Q18,.box 9 Q18,.ptr 6 6 [],.ptr 9 9 []],[(.exit 0,[.sv 1 (.list false (.int .i64)),.box 6 Q18,.box 9 Q18,.ptr 6 6 [],.ptr 9 9 []]),(.ret,[.sv 7 (.int .i64),.box 6 Q18,.ptr 6 6 []])])],[(14,[(.normal,[.sv 0 (.int .i64),.sv 1 (.list false (.int .i64)),.sv 8 (.int .i64),.sv 28 .bool,.box 6 Q18,.vp 5 Q18,.ptr 6 6 []])])],[]⟩
def F_fixed_weigh_l0 (st:Z51):Option Z91:= bif decide (st.2.2.2.2.1<st.2.2.2.1) then ((gidx st.2.2.1 st.2.2.2.2.1).bind fun x1=> bif decide ((IntKind.wrap .i64 (st.2.2.2.2.1+st.1))≥(4:Int)) then some (.inl (st.1,(IntKind.wrap .i64 (st.2.1+(imax x1 (IntKind.wrap .i64 (0-x1)))),(st.2.2.1,(st.2.2.2.1,(IntKind.wrap .i64 (st.2.2.2.2.1+(1:Int)),())))))) else some (.inl (st.1,(st.2.1,(st.2.2.1,(st.2.2.2.1,(IntKind.wrap .i64 (st.2.2.2.2.1+(1:Int)),()))))))) else some (.inr (st.2.1,()))
def F_fixed_weigh (x:((List Int)×Int)):Option Int:= (iter F_fixed_weigh_l0 (x.2,((0:Int),(x.1,(((List.length x.1:Nat):Int),((0:Int),())))))).bind fun w2=> some w2.1
def S_fixed_weigh:FSem:=⟨[.v (.list false (.int .i64)),.v (.int .i64)],[.v (.int .i64)],F_fixed_weigh⟩
def H149:Hints:=⟨[(58,[.sv 1 (.int .i64),.sv 5 (.int .i64),.sv 8 (.list false (.int .i64)),.sv 9 (.int .i64),.sv 10 (.int .i64)],[(.exit 0,[.sv 5 (.int .i64)])])],[],[]⟩
def F_fixed_Best_l0 (st:Z33):Option Z72:= bif decide (st.2.2.2.1≤(4:Int)) then ((F_fixed_Rest (st.1,st.2.2.2.1)).bind fun y1=> bif y1.2 != (0:Int) then some (.inl (st.1,(st.2.1,(st.2.2.1,(IntKind.wrap .i64 (st.2.2.2.1+(1:Int)),()))))) else ((F_fixed_weigh (y1.1,st.2.2.2.1)).bind fun y2=> (show Option ((List Int)×Z42) from bif decide (st.2.2.1<(0:Int)) then some (st.1,(st.2.1,(st.2.2.1,(st.2.2.2.1,(y2,(true,())))))) else some (st.1,(st.2.1,(st.2.2.1,(st.2.2.2.1,(y2,(decide (y2<st.2.2.1),()))))))).bind fun z3=> bif z3.2.2.2.2.2.1 then some (.inl (z3.1,(z3.2.2.2.1,(z3.2.2.2.2.1,(IntKind.wrap .i64 (z3.2.2.2.1+(1:Int)),()))))) else some (.inl (z3.1,(z3.2.1,(z3.2.2.1,(IntKind.wrap .i64 (z3.2.2.2.1+(1:Int)),()))))))) else some (.inr (st.2.1,()))
def F_fixed_Best (x:(List Int)):Option Int:= (iter F_fixed_Best_l0 (x,((0:Int),((-1:Int),((0:Int),()))))).bind fun w4=> some w4.1
def S_fixed_Best:FSem:=⟨[.v (.list false (.int .i64))],[.v (.int .i64)],F_fixed_Best⟩
def H95:Hints:=⟨[(58,[.sv 0 (.list false (.int .i64)),.sv 3 (.int .i64),.sv 4 (.int .i64),.sv 5 (.int .i64)],[(.exit 0,[.sv 3 (.int .i64)])])],[(7463,[(.normal,[.sv 0 (.list false (.int .i64)),.sv 3 (.int .i64),.sv 4 (.int .i64),.sv 5 (.int .i64),.sv 8 (.int .i64),.sv 30 .bool])])],[]⟩
def F_linear_clamp (x:Int):Option Int:= some (imin (imax x (-1048576:Int)) (1048575:Int))
def S_linear_clamp:FSem:=⟨[.v (.int .i64)],[.v (.int .i64)],F_linear_clamp⟩
def H187:Hints:=⟨[],[],[]⟩
def F_linear_scaled_l0 (st:Z81):Option (Z81 ⊕ Z63):= bif decide (st.2.1<0) then none else ((F_linear_clamp (gshr .i64 st.2.2.1 st.2.1)).bind fun y2=> bif decide (st.2.1<0) then none else (bif y2 != (gshr .i64 st.2.2.1 st.2.1) then some (.inl (st.1,(IntKind.wrap .i64 (st.2.1+(1:Int)),(st.2.2.1,(st.2.2.2.1,(st.2.2.2.2.1,(st.2.2.2.2.2.1,()))))))) else some (.inr (st.1,(st.2.1,(st.2.2.2.1,(st.2.2.2.2.1,(st.2.2.2.2.2.1,()))))))))
def F_linear_scaled_l1 (st:Z63):Option (Z63 ⊕ Z3):= bif decide (st.2.2.2.2.1<st.2.2.2.1) then ((gidx st.2.2.1 st.2.2.2.2.1).bind fun x1=> (iter F_linear_scaled_l0 (st.1,(st.2.1,(x1,(st.2.2.1,(st.2.2.2.1,(st.2.2.2.2.1,()))))))).bind fun w3=> some (.inl (w3.1,(w3.2.1,(w3.2.2.1,(w3.2.2.2.1,(IntKind.wrap .i64 (w3.2.2.2.2.1+(1:Int)),()))))))) else some (.inr (st.1,(st.2.1,())))
def F_linear_scaled_l2 (st:Z61):Option (Z61 ⊕ ((List Int)×Unit)):= bif decide (st.2.2.2.1<st.2.2.1) then ((gidx st.2.1 st.2.2.2.1).bind fun x5=> bif decide (st.1<0) then none else (bif (decide ((0:Int)≤st.2.2.2.1))&&(decide (st.2.2.2.1<((List.length st.2.2.2.2.1:Nat):Int))) then some (.inl (st.1,(st.2.1,(st.2.2.1,(IntKind.wrap .i64 (st.2.2.2.1+(1:Int)),(List.set st.2.2.2.2.1 (Int.toNat st.2.2.2.1) (gshr .i64 x5 st.1),())))))) else none)) else some (.inr (st.2.2.2.2.1,()))
def F_linear_scaled (x:(List Int)):Option (List Int):= (iter F_linear_scaled_l1 (x,((0:Int),(x,(((List.length x:Nat):Int),((0:Int),())))))).bind fun w4=> bif (decide ((0:Int)≤((List.length w4.1:Nat):Int)))&&((decide (((List.length w4.1:Nat):Int)≤((List.length w4.1:Nat):Int)))&&(lim (Int.toNat ((List.length w4.1:Nat):Int)))) then ((iter F_linear_scaled_l2 (w4.2.1,(w4.1,(((List.length w4.1:Nat):Int),((0:Int),(List.replicate (Int.toNat ((List.length w4.1:Nat):Int)) (0:Int),())))))).bind fun w6=> some w6.1) else none
def S_linear_scaled:FSem:=⟨[.v (.list false (.int .i64))],[.o (.int .i64)],F_linear_scaled⟩
def H185:Hints:=⟨[(58,[.sv 0 (.list false (.int .i64)),.sv 3 (.int .i64),.sv 9 (.list false (.int .i64)),.sv 10 (.int .i64),.sv 11 (.int .i64)],[(.exit 0,[.sv 0 (.list false (.int .i64)),.sv 3 (.int .i64)])]),(250,[.sv 3 (.int .i64),.sv 29 (.list false (.int .i64)),.sv 30 (.int .i64),.sv 31 (.int .i64),.own 6 6 (.int .i64)],[(.exit 4,[.own 6 6 (.int .i64)])]),(7474,[.sv 0 (.list false (.int .i64)),.sv 3 (.int .i64),.sv 5 (.int .i64),.sv 9 (.list false (.int .i64)),.sv 10 (.int .i64),.sv 11 (.int .i64)],[(.exit 2,[.sv 0 (.list false (.int .i64)),.sv 3 (.int .i64),.sv 9 (.list false (.int .i64)),.sv 10 (.int .i64),.sv 11 (.int .i64)])])],[],[(5,[.v,.v,.v,.v,.v,.v,.v,.x])]⟩
def F_linear_reflection_l0 (st:Z64):Option (Z64 ⊕ (Int×(Int×Unit))):= bif decide (st.2.2.2.2.1<((List.length st.1:Nat):Int)) then ((gidx st.1 st.2.2.2.2.1).bind fun x1=> (gidx st.2.1 (IntKind.wrap .i64 (st.2.2.2.2.1-(1:Int)))).bind fun x2=> (gidx st.1 st.2.2.2.2.1).bind fun x3=> (gidx st.1 st.2.2.2.2.1).bind fun x4=> (gidx st.2.1 (IntKind.wrap .i64 (st.2.2.2.2.1-(1:Int)))).bind fun x5=> (gidx st.2.1 (IntKind.wrap .i64 (st.2.2.2.2.1-(1:Int)))).bind fun x6=> some (.inl (st.1,(st.2.1,(IntKind.wrap .i64 (st.2.2.1+(IntKind.wrap .i64 (x1*x2))),(IntKind.wrap .i64 (st.2.2.2.1+(IntKind.wrap .i64 ((IntKind.wrap .i64 (x3*x4))+(IntKind.wrap .i64 (x5*x6))))),(IntKind.wrap .i64 (st.2.2.2.2.1+(1:Int)),()))))))) else some (.inr (st.2.2.1,(st.2.2.2.1,())))
def F_linear_reflection_l1 (st:(Int×(Int×Unit))):Option ((Int×(Int×Unit)) ⊕ (Int×(Int×Unit))):= bif decide (st.2.1≥(1099511627776:Int)) then some (.inl (gshr .i64 st.1 (1:Int),(gshr .i64 st.2.1 (1:Int),()))) else some (.inr (st.1,(st.2.1,())))
def F_linear_reflection (x:Z11):Option Int:= (iter F_linear_reflection_l0 (x.1,(x.2.1,((0:Int),((0:Int),(x.2.2,())))))).bind fun w7=> (iter F_linear_reflection_l1 (w7.1,(w7.2.1,()))).bind fun w8=> bif w8.2.1==(0:Int) then some (0:Int) else (bif w8.2.1==0 then none else ((show Option (Int×Unit) from bif w8.2.1==0 then none else (bif decide ((Int.tmod (gshl .i64 w8.1 (15:Int)) w8.2.1)<(0:Int)) then some (IntKind.wrap .i64 ((IntKind.wrap .i64 (Int.tdiv (gshl .i64 w8.1 (15:Int)) w8.2.1))-(1:Int)),()) else some (IntKind.wrap .i64 (Int.tdiv (gshl .i64 w8.1 (15:Int)) w8.2.1),()))).bind fun z9=> some (imin (imax z9.1 (-16383:Int)) (16383:Int))))
def S_linear_reflection:FSem:=⟨[.v (.list false (.int .i64)),.v (.list false (.int .i64)),.v (.int .i64)],[.v (.int .i64)],F_linear_reflection⟩
def H186:Hints:=⟨[(58,[.sv 0 (.list false (.int .i64)),.sv 1 (.list false (.int .i64)),.sv 7 (.int .i64),.sv 8 (.int .i64),.sv 9 (.int .i64)],[(.exit 0,[.sv 7 (.int .i64),.sv 8 (.int .i64)])]),(60,[.sv 7 (.int .i64),.sv 8 (.int .i64)],[(.exit 2,[.sv 7 (.int .i64),.sv 8 (.int .i64)])])],[(255,[(.normal,[.sv 10 (.int .i64)])])],[(5,[.v,.v,.v,.v,.v,.v,.v,.v,.v,.v,.v,.x,.x]),(6,[.v,.v,.v,.v,.v,.v,.v,.v,.v,.v,.v,.v,.v,.v,.v,.v,.v,.v,.v,.v,.v,.v,.x,.x])]⟩
def F_linear_Reflect_l0 (st:Z108):Option (Z108 ⊕ Z79):= bif decide (st.2.2.2.1≥st.2.1) then (bif (decide ((0:Int)≤st.2.2.2.1))&&(decide (st.2.2.2.1<((List.length st.2.2.2.2.1:Nat):Int))) then (bif (decide ((0:Int)≤(IntKind.wrap .i64 (st.2.2.2.1-(1:Int)))))&&(decide ((IntKind.wrap .i64 (st.2.2.2.1-(1:Int)))<((List.length st.2.2.2.2.2.1:Nat):Int))) then ((F_linear_clamp (IntKind.wrap .i64 ((List.getD st.2.2.2.2.1 (Int.toNat st.2.2.2.1) (0:Int))-(gshr .i64 (IntKind.wrap .i64 (st.2.2.1*(List.getD st.2.2.2.2.2.1 (Int.toNat (IntKind.wrap .i64 (st.2.2.2.1-(1:Int)))) (0:Int)))) (14:Int))))).bind fun y6=> bif (decide ((0:Int)≤st.2.2.2.1))&&(decide (st.2.2.2.1<((List.length st.2.2.2.2.1:Nat):Int))) then ((F_linear_clamp (IntKind.wrap .i64 ((List.getD st.2.2.2.2.2.1 (Int.toNat (IntKind.wrap .i64 (st.2.2.2.1-(1:Int)))) (0:Int))-(gshr .i64 (IntKind.wrap .i64 (st.2.2.1*(List.getD st.2.2.2.2.1 (Int.toNat st.2.2.2.1) (0:Int)))) (14:Int))))).bind fun y7=> bif (decide ((0:Int)≤st.2.2.2.1))&&(decide (st.2.2.2.1<((List.length st.2.2.2.2.2.1:Nat):Int))) then some (.inl (st.1,(st.2.1,(st.2.2.1,(IntKind.wrap .i64 (st.2.2.2.1-(1:Int)),(List.set st.2.2.2.2.1 (Int.toNat st.2.2.2.1) y6,(List.set st.2.2.2.2.2.1 (Int.toNat st.2.2.2.1) y7,(st.2.2.2.2.2.2.1,())))))))) else none) else none) else none) else none) else some (.inr (st.1,(st.2.1,(st.2.2.2.2.1,(st.2.2.2.2.2.1,(st.2.2.2.2.2.2.1,()))))))
def F_linear_Reflect_l1 (st:Z79):Option (Z79 ⊕ ((List Int)×Unit)):= bif decide (st.2.1≤st.1) then ((F_linear_reflection (st.2.2.1,(st.2.2.2.1,st.2.1))).bind fun y5=> bif lim ((List.length st.2.2.2.2.1)+1) then ((iter F_linear_Reflect_l0 (st.1,(st.2.1,(y5,(IntKind.wrap .i64 (((List.length st.2.2.1:Nat):Int)-(1:Int)),(st.2.2.1,(st.2.2.2.1,(List.append st.2.2.2.2.1 ([y5]:List Int),())))))))).bind fun w8=> some (.inl (w8.1,(IntKind.wrap .i64 (w8.2.1+(1:Int)),(w8.2.2.1,(w8.2.2.2.1,(w8.2.2.2.2.1,()))))))) else none) else some (.inr (st.2.2.2.2.1,()))
def F_linear_Reflect (x:((List Int)×Int)):Option ((List Int)×Int):= (show Option Z18 from bif decide (x.2<(1:Int)) then some (x.1,(x.2,(true,()))) else (bif decide (x.2 > (32:Int)) then some (x.1,(x.2,(true,()))) else some (x.1,(x.2,(decide (((List.length x.1:Nat):Int) > (4096:Int)),()))))).bind fun z1=> bif z1.2.2.1 then some (([]:(List Int)),(1:Int)) else ((F_linear_allWide z1.1).bind fun y2=> bif !y2 then some (([]:(List Int)),(6:Int)) else ((F_linear_scaled z1.1).bind fun y3=> (F_slices_Clone___int_int_ y3).bind fun y4=> bif (decide ((0:Int)≤z1.2.1))&&(lim (Int.toNat z1.2.1)) then ((iter F_linear_Reflect_l1 (z1.2.1,((1:Int),(y3,(y4,(([]:(List Int)),())))))).bind fun w9=> some (w9.1,(0:Int))) else none))
def S_linear_Reflect:FSem:=⟨[.v (.list false (.int .i64)),.v (.int .i64)],[.o (.int .i64),.v (.int .i64)],F_linear_Reflect⟩
def H150:Hints:=⟨[(1018,[.sv 1 (.int .i64),.sv 9 (.int .i64),.own 6 6 (.int .i64),.own 7 7 (.int .i64),.own 8 8 (.int .i64)],[(.exit 0,[.own 8 8 (.int .i64)])]),(260686,[.sv 1 (.int .i64),.sv 9 (.int .i64),.sv 10 (.int .i64),.sv 11 (.int .i64),.own 6 6 (.int .i64),.own 7 7 (.int .i64),.own 8 8 (.int .i64)],[(.exit 2,[.sv 1 (.int .i64),.sv 9 (.int .i64),.own 6 6 (.int .i64),.own 7 7 (.int .i64),.own 8 8 (.int .i64)])])],[(6,[(.normal,[.sv 0 (.list false (.int .i64)),.sv 1 (.int .i64),.sv 24 .bool])])],[(16,[.q,.v,.q,.q,.q,.v,.v,.q,.q,.v,.x])]⟩
def F_linear_Climb_l0 (st:Z47):Option (Z47 ⊕ (((List Int)×Unit) ⊕ Z3)):= bif decide (st.2.2.2.1<st.2.2.1) then ((gidx st.2.1 st.2.2.2.1).bind fun x2=> (show Option ((List Int)×Z34) from bif decide (x2<(-16383:Int)) then some (st.1,(st.2.1,(st.2.2.1,(st.2.2.2.1,(true,()))))) else some (st.1,(st.2.1,(st.2.2.1,(st.2.2.2.1,(decide (x2 > (16383:Int)),())))))).bind fun z3=> bif z3.2.2.2.2.1 then some (.inr (Sum.inr ((([]:(List Int)),((1:Int),()))))) else some (.inl (z3.1,(z3.2.1,(z3.2.2.1,(IntKind.wrap .i64 (z3.2.2.2.1+(1:Int)),())))))) else some (.inr (Sum.inl (st.1,())))
def F_linear_Climb_l1 (st:Z140):Option (Z140 ⊕ Z61):= bif decide (st.2.2.2.2.2.2.2.2.1<st.2.2.2.2.2.2.2.1) then ((gidx st.2.2.2.2.2.2.1 st.2.2.2.2.2.2.2.2.1).bind fun x8=> (gidx st.1 (IntKind.wrap .i64 ((IntKind.wrap .i64 (st.2.1-(1:Int)))-st.2.2.2.2.2.2.2.2.1))).bind fun x9=> bif lim ((List.length st.2.2.2.2.2.2.2.2.2.1)+1) then some (.inl (st.1,(st.2.1,(st.2.2.1,(st.2.2.2.1,(st.2.2.2.2.1,(st.2.2.2.2.2.1,(st.2.2.2.2.2.2.1,(st.2.2.2.2.2.2.2.1,(IntKind.wrap .i64 (st.2.2.2.2.2.2.2.2.1+(1:Int)),(List.append st.2.2.2.2.2.2.2.2.2.1 ([IntKind.wrap .i64 (x8-(gshr .i64 (IntKind.wrap .i64 (st.2.2.1*x9)) (14:Int)))]:List Int),()))))))))))) else none) else some (.inr (st.2.2.1,(st.2.2.2.1,(st.2.2.2.2.1,(st.2.2.2.2.2.1,(st.2.2.2.2.2.2.2.2.2.1,()))))))
def F_linear_Climb_l2 (st:Z47):Option (Z47 ⊕ ((List Int)×Unit)):= bif decide (st.2.2.2.1<st.2.2.1) then ((gidx st.2.1 st.2.2.2.1).bind fun x7=> bif (decide ((0:Int)≤(IntKind.wrap .i64 (st.2.2.2.1+(1:Int)))))&&(lim (Int.toNat (IntKind.wrap .i64 (st.2.2.2.1+(1:Int))))) then ((iter F_linear_Climb_l1 (st.1,(st.2.2.2.1,(x7,(st.2.1,(st.2.2.1,(st.2.2.2.1,(st.1,(((List.length st.1:Nat):Int),((0:Int),(([]:(List Int)),()))))))))))).bind fun w10=> bif lim ((List.length w10.2.2.2.2.1)+1) then some (.inl (List.append w10.2.2.2.2.1 ([w10.1]:List Int),(w10.2.1,(w10.2.2.1,(IntKind.wrap .i64 (w10.2.2.2.1+(1:Int)),()))))) else none) else none) else some (.inr (st.1,()))
def F_linear_Climb (x:(List Int)):Option ((List Int)×Int):= (show Option Z6 from bif decide (((List.length x:Nat):Int)<(1:Int)) then some (x,(true,())) else some (x,(decide (((List.length x:Nat):Int) > (32:Int)),()))).bind fun z1=> bif z1.2.1 then some (([]:(List Int)),(1:Int)) else ((iter F_linear_Climb_l0 (z1.1,(z1.1,(((List.length z1.1:Nat):Int),((0:Int),()))))).bind fun w4=> match w4 with |.inl a5=>((iter F_linear_Climb_l2 (([]:List Int),(a5.1,(((List.length a5.1:Nat):Int),((0:Int),()))))).bind fun w11=> some (w11.1,(0:Int))) |.inr b6=>some (b6.1,b6.2.1))
def S_linear_Climb:FSem:=⟨[.v (.list false (.int .i64))],[.v (.list false (.int .i64)),.v (.int .i64)],F_linear_Climb⟩
def H151:Hints:=⟨[(58,[.sv 0 (.list false (.int .i64)),.sv 20 (.list false (.int .i64)),.sv 21 (.int .i64),.sv 22 (.int .i64)],[(.exit 0,[.sv 0 (.list false (.int .i64))]),(.ret,[.sv 2 (.list false (.int .i64)),.sv 3 (.int .i64)])]),(250,[.sv 6 (.list false (.int .i64)),.sv 34 (.list false (.int .i64)),.sv 35 (.int .i64),.sv 36 (.int .i64)],[(.exit 2,[.sv 6 (.list false (.int .i64))])]),(256410,[.sv 6 (.list false (.int .i64)),.sv 7 (.int .i64),.sv 8 (.int .i64),.sv 34 (.list false (.int .i64)),.sv 35 (.int .i64),.sv 36 (.int .i64),.sv 44 (.list false (.int .i64)),.sv 45 (.int .i64),.sv 46 (.int .i64),.own 9 9 (.int .i64)],[(.exit 4,[.sv 8 (.int .i64),.sv 34 (.list false (.int .i64)),.sv 35 (.int .i64),.sv 36 (.int .i64),.own 9 9 (.int .i64)])])],[(6,[(.normal,[.sv 0 (.list false (.int .i64)),.sv 19 .bool])]),(3737,[(.normal,[.sv 0 (.list false (.int .i64)),.sv 20 (.list false (.int .i64)),.sv 21 (.int .i64),.sv 22 (.int .i64),.sv 31 .bool])])],[]⟩
def F_linear_Round_l0 (st:Z63):Option (Z63 ⊕ (Z3 ⊕ Z15)):= bif decide (st.2.2.2.2.1<st.2.2.2.1) then ((gidx st.2.2.1 st.2.2.2.2.1).bind fun x2=> (show Option ((List Int)×(Int×Z34)) from bif decide (x2<(-35184372088832:Int)) then some (st.1,(st.2.1,(st.2.2.1,(st.2.2.2.1,(st.2.2.2.2.1,(true,())))))) else some (st.1,(st.2.1,(st.2.2.1,(st.2.2.2.1,(st.2.2.2.2.1,(decide (x2 > (35184372088832:Int)),()))))))).bind fun z3=> bif z3.2.2.2.2.2.1 then some (.inr (Sum.inr (((0:Int),((1:Int),(([]:(List Int)),())))))) else some (.inl (z3.1,(z3.2.1,(z3.2.2.1,(z3.2.2.2.1,(IntKind.wrap .i64 (z3.2.2.2.2.1+(1:Int)),()))))))) else some (.inr (Sum.inl (st.1,(st.2.1,()))))
def F_linear_Round_l1 (st:Z120):Option (Z120 ⊕ Z44):= bif decide (st.2.2.2.2.2.2.1<st.2.2.2.2.2.1) then ((gidx st.2.2.2.2.1 st.2.2.2.2.2.2.1).bind fun x8=> bif decide (st.2.2.1<0) then none else ((F_sample_Fits (gshr .i64 (IntKind.wrap .i64 (x8+st.2.2.2.1)) st.2.2.1,st.2.1)).bind fun y9=> bif !y9 then some (.inr (st.1,(st.2.1,(st.2.2.1,(st.2.2.2.2.2.2.2.1,()))))) else (bif lim ((List.length st.2.2.2.2.2.2.2.1)+1) then some (.inl (st.1,(st.2.1,(st.2.2.1,(st.2.2.2.1,(st.2.2.2.2.1,(st.2.2.2.2.2.1,(IntKind.wrap .i64 (st.2.2.2.2.2.2.1+(1:Int)),(List.append st.2.2.2.2.2.2.2.1 ([gshr .i64 (IntKind.wrap .i64 (x8+st.2.2.2.1)) st.2.2.1]:List Int),()))))))))) else none))) else some (.inr (st.1,(st.2.1,(st.2.2.1,(st.2.2.2.2.2.2.2.1,())))))
def F_linear_Round_l2 (st:Z14):Option (Z14 ⊕ (Unit ⊕ Z15)):= bif decide (st.2.2.1≤(14:Int)) then ((show Option Z33 from bif decide (st.2.2.1 > (0:Int)) then (bif decide ((IntKind.wrap .i64 (st.2.2.1-(1:Int)))<0) then none else some (st.1,(st.2.1,(st.2.2.1,(gshl .i64 (1:Int) (IntKind.wrap .i64 (st.2.2.1-(1:Int))),()))))) else some (st.1,(st.2.1,(st.2.2.1,((0:Int),()))))).bind fun z7=> bif (decide ((0:Int)≤((List.length z7.1:Nat):Int)))&&(lim (Int.toNat ((List.length z7.1:Nat):Int))) then ((iter F_linear_Round_l1 (z7.1,(z7.2.1,(z7.2.2.1,(z7.2.2.2.1,(z7.1,(((List.length z7.1:Nat):Int),((0:Int),(([]:(List Int)),()))))))))).bind fun w10=> bif ((List.length w10.2.2.2.1:Nat):Int)==((List.length w10.1:Nat):Int) then some (.inr (Sum.inr ((IntKind.wrap .i64 ((14:Int)-w10.2.2.1),((0:Int),(w10.2.2.2.1,())))))) else some (.inl (w10.1,(w10.2.1,(IntKind.wrap .i64 (w10.2.2.1+(1:Int)),()))))) else none) else some (.inr (Sum.inl ()))
def F_linear_Round (x:((List Int)×Int)):Option Z2:= (show Option Z18 from bif decide (((List.length x.1:Nat):Int)<(1:Int)) then some (x.1,(x.2,(true,()))) else (bif decide (((List.length x.1:Nat):Int) > (32:Int)) then some (x.1,(x.2,(true,()))) else (bif decide (x.2<(2:Int)) then some (x.1,(x.2,(true,()))) else some (x.1,(x.2,(decide (x.2 > (16:Int)),())))))).bind fun z1=> bif z1.2.2.1 then some (([]:(List Int)),((0:Int),(1:Int))) else ((iter F_linear_Round_l0 (z1.1,(z1.2.1,(z1.1,(((List.length z1.1:Nat):Int),((0:Int),())))))).bind fun w4=> match w4 with |.inl a5=>((iter F_linear_Round_l2 (a5.1,(a5.2.1,((0:Int),())))).bind fun w11=> match w11 with |.inl a12=>some (([]:(List Int)),((0:Int),(6:Int))) |.inr b13=>some (b13.2.2.1,(b13.1,b13.2.1))) |.inr b6=>some (b6.2.2.1,(b6.1,b6.2.1)))
def S_linear_Round:FSem:=⟨[.v (.list false (.int .i64)),.v (.int .i64)],[.o (.int .i64),.v (.int .i64),.v (.int .i64)],F_linear_Round⟩
def H152:Hints:=⟨[(58,[.sv 0 (.list false (.int .i64)),.sv 1 (.int .i64),.sv 31 (.list false (.int .i64)),.sv 32 (.int .i64),.sv 33 (.int .i64)],[(.exit 0,[.sv 0 (.list false (.int .i64)),.sv 1 (.int .i64)]),(.ret,[.sv 5 (.int .i64),.sv 6 (.int .i64),.own 4 4 (.int .i64)])]),(122,[.sv 0 (.list false (.int .i64)),.sv 1 (.int .i64),.sv 9 (.int .i64)],[(.exit 2,[]),(.ret,[.sv 5 (.int .i64),.sv 6 (.int .i64),.own 4 11 (.int .i64)])]),(125242,[.sv 0 (.list false (.int .i64)),.sv 1 (.int .i64),.sv 9 (.int .i64),.sv 10 (.int .i64),.sv 56 (.list false (.int .i64)),.sv 57 (.int .i64),.sv 58 (.int .i64),.own 11 11 (.int .i64)],[(.exit 4,[.sv 0 (.list false (.int .i64)),.sv 1 (.int .i64),.sv 9 (.int .i64),.own 11 11 (.int .i64)])])],[(6,[(.normal,[.sv 0 (.list false (.int .i64)),.sv 1 (.int .i64),.sv 30 .bool])]),(3737,[(.normal,[.sv 0 (.list false (.int .i64)),.sv 1 (.int .i64),.sv 31 (.list false (.int .i64)),.sv 32 (.int .i64),.sv 33 (.int .i64),.sv 42 .bool])]),(3913,[(.normal,[.sv 0 (.list false (.int .i64)),.sv 1 (.int .i64),.sv 9 (.int .i64),.sv 10 (.int .i64)])])],[]⟩
def F_linear_Find (x:Z2):Option Z2:= (F_linear_Reflect (x.1,x.2.1)).bind fun y1=> bif y1.2 != (0:Int) then some (([]:(List Int)),((0:Int),y1.2)) else ((F_linear_Climb y1.1).bind fun y2=> bif y2.2 != (0:Int) then some (([]:(List Int)),((0:Int),y2.2)) else ((F_linear_Round (y2.1,x.2.2)).bind fun y3=> some (y3.1,(y3.2.1,y3.2.2))))
def S_linear_Find:FSem:=⟨[.v (.list false (.int .i64)),.v (.int .i64),.v (.int .i64)],[.o (.int .i64),.v (.int .i64),.v (.int .i64)],F_linear_Find⟩
def H97:Hints:=⟨[],[],[]⟩
def F_long_Find_l0 (st:Z106):Option (Z106 ⊕ ((List Int)×Z57)):= bif decide (st.2.2.2.2.2.2.2.1<((List.length st.1:Nat):Int)) then ((gidx st.1 st.2.2.2.2.2.2.2.1).bind fun x3=> (gidx st.1 (IntKind.wrap .i64 (st.2.2.2.2.2.2.2.1-st.2.2.2.2.2.1))).bind fun x4=> some (.inl (st.1,(st.2.1,(st.2.2.1,(st.2.2.2.1,(st.2.2.2.2.1,(st.2.2.2.2.2.1,(IntKind.wrap .i64 (st.2.2.2.2.2.2.1+(imax (IntKind.wrap .i64 (x3-x4)) (IntKind.wrap .i64 (0-(IntKind.wrap .i64 (x3-x4)))))),(IntKind.wrap .i64 (st.2.2.2.2.2.2.2.1+(1:Int)),())))))))))) else some (.inr (st.1,(st.2.1,(st.2.2.1,(st.2.2.2.1,(st.2.2.2.2.1,(st.2.2.2.2.2.1,(st.2.2.2.2.2.2.1,()))))))))
def F_long_Find_l1 (st:Z70):Option (Z70 ⊕ (Int×Unit)):= bif decide (st.2.2.2.2.2.1≤st.2.2.1) then ((iter F_long_Find_l0 (st.1,(st.2.1,(st.2.2.1,(st.2.2.2.1,(st.2.2.2.2.1,(st.2.2.2.2.2.1,((0:Int),(st.2.2.1,()))))))))).bind fun w5=> (show Option ((List Int)×(Int×(Int×Z42))) from bif w5.2.2.2.2.2.1==w5.2.1 then some (w5.1,(w5.2.1,(w5.2.2.1,(w5.2.2.2.1,(w5.2.2.2.2.1,(w5.2.2.2.2.2.1,(w5.2.2.2.2.2.2.1,(true,())))))))) else some (w5.1,(w5.2.1,(w5.2.2.1,(w5.2.2.2.1,(w5.2.2.2.2.1,(w5.2.2.2.2.2.1,(w5.2.2.2.2.2.2.1,(decide (w5.2.2.2.2.2.2.1<w5.2.2.2.2.1),()))))))))).bind fun z6=> bif z6.2.2.2.2.2.2.2.1 then some (.inl (z6.1,(z6.2.1,(z6.2.2.1,(z6.2.2.2.2.2.1,(z6.2.2.2.2.2.2.1,(IntKind.wrap .i64 (z6.2.2.2.2.2.1+(1:Int)),()))))))) else some (.inl (z6.1,(z6.2.1,(z6.2.2.1,(z6.2.2.2.1,(z6.2.2.2.2.1,(IntKind.wrap .i64 (z6.2.2.2.2.2.1+(1:Int)),())))))))) else some (.inr (st.2.2.2.1,()))
def F_long_Find (x:Z2):Option (Int×Int):= (show Option Z34 from bif decide (x.2.1<(2:Int)) then some (x.1,(x.2.1,(x.2.2,(true,())))) else (bif decide (x.2.1 > x.2.2) then some (x.1,(x.2.1,(x.2.2,(true,())))) else (bif decide (x.2.2 > (1024:Int)) then some (x.1,(x.2.1,(x.2.2,(true,())))) else some (x.1,(x.2.1,(x.2.2,(decide (((List.length x.1:Nat):Int) > (4096:Int)),()))))))).bind fun z1=> bif z1.2.2.2.1 then some ((0:Int),(1:Int)) else (bif decide (((List.length z1.1:Nat):Int)≤z1.2.2.1) then some ((0:Int),(7:Int)) else ((F_long_allWide z1.1).bind fun y2=> bif !y2 then some ((0:Int),(6:Int)) else ((iter F_long_Find_l1 (z1.1,(z1.2.1,(z1.2.2.1,((0:Int),((0:Int),(z1.2.1,()))))))).bind fun w7=> some (w7.1,(0:Int)))))
def S_long_Find:FSem:=⟨[.v (.list false (.int .i64)),.v (.int .i64),.v (.int .i64)],[.v (.int .i64),.v (.int .i64)],F_long_Find⟩
def H153:Hints:=⟨[(506,[.sv 0 (.list false (.int .i64)),.sv 1 (.int .i64),.sv 2 (.int .i64),.sv 8 (.int .i64),.sv 9 (.int .i64),.sv 10 (.int .i64)],[(.exit 0,[.sv 8 (.int .i64)])]),(129610,[.sv 0 (.list false (.int .i64)),.sv 1 (.int .i64),.sv 2 (.int .i64),.sv 8 (.int .i64),.sv 9 (.int .i64),.sv 10 (.int .i64),.sv 11 (.int .i64),.sv 12 (.int .i64)],[(.exit 2,[.sv 0 (.list false (.int .i64)),.sv 1 (.int .i64),.sv 2 (.int .i64),.sv 8 (.int .i64),.sv 9 (.int .i64),.sv 10 (.int .i64),.sv 11 (.int .i64)])])],[(6,[(.normal,[.sv 0 (.list false (.int .i64)),.sv 1 (.int .i64),.sv 2 (.int .i64),.sv 29 .bool])]),(32403,[(.normal,[.sv 0 (.list false (.int .i64)),.sv 1 (.int .i64),.sv 2 (.int .i64),.sv 8 (.int .i64),.sv 9 (.int .i64),.sv 10 (.int .i64),.sv 11 (.int .i64),.sv 74 .bool])])],[(15,[.v,.v,.v,.v,.v,.v,.v,.v,.v,.v,.x,.x])]⟩
def F_long_Table (x:Unit):Option (List (List Int)):= some ([List.set (List.set (List.set (List.replicate 3 (0:Int)) 0 (0:Int)) 1 (0:Int)) 2 (0:Int),List.set (List.set (List.set (List.replicate 3 (0:Int)) 0 (0:Int)) 1 (64:Int)) 2 (0:Int),List.set (List.set (List.set (List.replicate 3 (0:Int)) 0 (0:Int)) 1 (32:Int)) 2 (0:Int),List.set (List.set (List.set (List.replicate 3 (0:Int)) 0 (16:Int)) 1 (32:Int)) 2 (16:Int),List.set (List.set (List.set (List.replicate 3 (0:Int)) 0 (21:Int)) 1 (22:Int)) 2 (21:Int),List.set (List.set (List.set (List.replicate 3 (0:Int)) 0 (0:Int)) 1 (48:Int)) 2 (0:Int),List.set (List.set (List.set (List.replicate 3 (0:Int)) 0 (-8:Int)) 1 (64:Int)) 2 (-8:Int),List.set (List.set (List.set (List.replicate 3 (0:Int)) 0 (32:Int)) 1 (32:Int)) 2 (0:Int),List.set (List.set (List.set (List.replicate 3 (0:Int)) 0 (0:Int)) 1 (32:Int)) 2 (32:Int)]:List (List Int))
def S_long_Table:FSem:=⟨[],[.o (.arr 3 (.int .i64))],F_long_Table⟩
def H188:Hints:=⟨[],[],[]⟩
def F_long_Tune_l0 (st:Z169):Option (Z169 ⊕ ((List Int)×(Int×(Int×(Bool×(Int×(Int×(Int×Z94)))))))):= bif decide (st.2.2.2.2.2.2.2.2.1<st.2.2.2.2.2.2.2.1) then (bif (decide ((0:Int)≤st.2.2.2.2.2.2.2.2.1))&&(decide (st.2.2.2.2.2.2.2.2.1<((List.length st.2.2.2.2.2.2.2.2.2.2.1:Nat):Int))) then some (.inl (st.1,(st.2.1,(st.2.2.1,(st.2.2.2.1,(IntKind.wrap .i64 (st.2.2.2.2.1+(imax (List.getD st.2.2.2.2.2.2.2.2.2.2.1 (Int.toNat st.2.2.2.2.2.2.2.2.1) (0:Int)) (IntKind.wrap .i64 (0-(List.getD st.2.2.2.2.2.2.2.2.2.2.1 (Int.toNat st.2.2.2.2.2.2.2.2.1) (0:Int)))))),(st.2.2.2.2.2.1,(st.2.2.2.2.2.2.1,(st.2.2.2.2.2.2.2.1,(IntKind.wrap .i64 (st.2.2.2.2.2.2.2.2.1+(1:Int)),(st.2.2.2.2.2.2.2.2.2.1,(st.2.2.2.2.2.2.2.2.2.2.1,(st.2.2.2.2.2.2.2.2.2.2.2.1,(st.2.2.2.2.2.2.2.2.2.2.2.2.1,(st.2.2.2.2.2.2.2.2.2.2.2.2.2.1,()))))))))))))))) else none) else some (.inr (st.1,(st.2.1,(st.2.2.1,(st.2.2.2.1,(st.2.2.2.2.1,(st.2.2.2.2.2.1,(st.2.2.2.2.2.2.1,(st.2.2.2.2.2.2.2.2.2.1,(st.2.2.2.2.2.2.2.2.2.2.2.1,(st.2.2.2.2.2.2.2.2.2.2.2.2.1,(st.2.2.2.2.2.2.2.2.2.2.2.2.2.1,()))))))))))))
def F_long_Tune_l1 (st:Z141):Option (Z141 ⊕ (Bool×Z13)):= bif decide (st.2.2.2.2.2.1<st.2.2.2.2.1) then (bif (decide ((0:Int)≤st.2.2.2.2.2.1))&&(decide (st.2.2.2.2.2.1<((List.length st.2.2.2.2.2.2.1:Nat):Int))) then ((F_long_Rest (st.1,(st.2.1,List.getD st.2.2.2.2.2.2.1 (Int.toNat st.2.2.2.2.2.1) (List.replicate 3 (0:Int))))).bind fun y3=> bif y3.2 != (0:Int) then some (.inl (st.1,(st.2.1,(st.2.2.1,(st.2.2.2.1,(st.2.2.2.2.1,(IntKind.wrap .i64 (st.2.2.2.2.2.1+(1:Int)),(st.2.2.2.2.2.2.1,(st.2.2.2.2.2.2.2.1,(st.2.2.2.2.2.2.2.2.1,())))))))))) else ((iter F_long_Tune_l0 (st.1,(st.2.1,(st.2.2.1,(st.2.2.2.1,((0:Int),(st.2.2.2.2.1,(st.2.2.2.2.2.1,(((List.length y3.1:Nat):Int),((0:Int),(st.2.2.2.2.2.2.1,(y3.1,(st.2.2.2.2.2.2.2.1,(st.2.2.2.2.2.2.2.2.1,(List.getD st.2.2.2.2.2.2.1 (Int.toNat st.2.2.2.2.2.1) (List.replicate 3 (0:Int)),()))))))))))))))).bind fun w4=> (show Option ((List Int)×(Int×(Int×(Bool×(Int×(Int×(Int×(Bool×Z94)))))))) from bif !w4.2.2.2.1 then some (w4.1,(w4.2.1,(w4.2.2.1,(w4.2.2.2.1,(w4.2.2.2.2.1,(w4.2.2.2.2.2.1,(w4.2.2.2.2.2.2.1,(true,(w4.2.2.2.2.2.2.2.1,(w4.2.2.2.2.2.2.2.2.1,(w4.2.2.2.2.2.2.2.2.2.1,(w4.2.2.2.2.2.2.2.2.2.2.1,())))))))))))) else some (w4.1,(w4.2.1,(w4.2.2.1,(w4.2.2.2.1,(w4.2.2.2.2.1,(w4.2.2.2.2.2.1,(w4.2.2.2.2.2.2.1,(decide (w4.2.2.2.2.1<w4.2.2.1),(w4.2.2.2.2.2.2.2.1,(w4.2.2.2.2.2.2.2.2.1,(w4.2.2.2.2.2.2.2.2.2.1,(w4.2.2.2.2.2.2.2.2.2.2.1,()))))))))))))).bind fun z5=> bif z5.2.2.2.2.2.2.2.1 then some (.inl (z5.1,(z5.2.1,(z5.2.2.2.2.1,(true,(z5.2.2.2.2.2.1,(IntKind.wrap .i64 (z5.2.2.2.2.2.2.1+(1:Int)),(z5.2.2.2.2.2.2.2.2.1,(z5.2.2.2.2.2.2.2.2.2.1,(z5.2.2.2.2.2.2.2.2.2.2.2.1,())))))))))) else some (.inl (z5.1,(z5.2.1,(z5.2.2.1,(z5.2.2.2.1,(z5.2.2.2.2.2.1,(IntKind.wrap .i64 (z5.2.2.2.2.2.2.1+(1:Int)),(z5.2.2.2.2.2.2.2.2.1,(z5.2.2.2.2.2.2.2.2.2.1,(z5.2.2.2.2.2.2.2.2.2.2.1,())))))))))))) else none) else some (.inr (st.2.2.2.1,(st.2.2.2.2.2.2.2.1,(st.2.2.2.2.2.2.2.2.1,()))))
def F_long_Tune (x:((List Int)×Int)):Option ((List Int)×Int):= (show Option ((List Int)×Z20) from bif decide (x.2<(2:Int)) then some (x.1,(x.2,(true,(List.replicate 3 (0:Int),())))) else some (x.1,(x.2,(decide (x.2 > (1024:Int)),(List.replicate 3 (0:Int),()))))).bind fun z1=> bif z1.2.2.1 then some (List.replicate 3 (0:Int),(1:Int)) else ((F_long_Table ()).bind fun y2=> (iter F_long_Tune_l1 (z1.1,(z1.2.1,((0:Int),(false,(((List.length y2:Nat):Int),((0:Int),(y2,(z1.2.2.2.1,(List.replicate 3 (0:Int),())))))))))).bind fun w6=> bif !w6.1 then some (List.replicate 3 (0:Int),(6:Int)) else some (w6.2.2.1,(0:Int)))
def S_long_Tune:FSem:=⟨[.v (.list false (.int .i64)),.v (.int .i64)],[.v (.arr 3 (.int .i64)),.v (.int .i64)],F_long_Tune⟩
def H154:Hints:=⟨[(122,[.sv 0 (.list false (.int .i64)),.sv 1 (.int .i64),.sv 7 (.int .i64),.sv 8 .bool,.sv 25 (.int .i64),.sv 26 (.int .i64),.own 24 1024 (.arr 3 (.int .i64)),.box 4 (.arr 3 (.int .i64)),.box 6 (.arr 3 (.int .i64)),.ptr 4 4 [],.ptr 6 6 []],[(.exit 0,[.sv 8 .bool,.box 4 (.arr 3 (.int .i64)),.box 6 (.arr 3 (.int .i64)),.ptr 4 4 [],.ptr 6 6 []])]),(501370,[.sv 0 (.list false (.int .i64)),.sv 1 (.int .i64),.sv 7 (.int .i64),.sv 8 .bool,.sv 13 (.int .i64),.sv 25 (.int .i64),.sv 26 (.int .i64),.sv 40 (.int .i64),.sv 41 (.int .i64),.own 24 1024 (.arr 3 (.int .i64)),.own 39 11 (.int .i64),.box 4 (.arr 3 (.int .i64)),.box 6 (.arr 3 (.int .i64)),.box 10 (.arr 3 (.int .i64)),.ptr 4 4 [],.ptr 6 6 [],.ptr 10 10 []],[(.exit 2,[.sv 0 (.list false (.int .i64)),.sv 1 (.int .i64),.sv 7 (.int .i64),.sv 8 .bool,.sv 13 (.int .i64),.sv 25 (.int .i64),.sv 26 (.int .i64),.own 24 1024 (.arr 3 (.int .i64)),.box 4 (.arr 3 (.int .i64)),.box 6 (.arr 3 (.int .i64)),.box 10 (.arr 3 (.int .i64)),.ptr 4 4 [],.ptr 6 6 [],.ptr 10 10 []])])],[(6,[(.normal,[.sv 0 (.list false (.int .i64)),.sv 1 (.int .i64),.sv 21 .bool,.box 4 (.arr 3 (.int .i64)),.ptr 4 4 []])]),(125343,[(.normal,[.sv 0 (.list false (.int .i64)),.sv 1 (.int .i64),.sv 7 (.int .i64),.sv 8 .bool,.sv 13 (.int .i64),.sv 25 (.int .i64),.sv 26 (.int .i64),.sv 58 .bool,.own 24 1024 (.arr 3 (.int .i64)),.box 4 (.arr 3 (.int .i64)),.box 6 (.arr 3 (.int .i64)),.box 10 (.arr 3 (.int .i64)),.ptr 4 4 [],.ptr 6 6 [],.ptr 10 10 []])])],[]⟩
def F_sub_lagged (x:(List Int)):Option (Z170×Bool):= (F_long_Find (x,((16:Int),(256:Int)))).bind fun y1=> bif y1.2 != (0:Int) then some (((0:Int),((0:Int),((0:Int),((0:Int),((0:Int),(([]:(List Int)),(List.replicate 3 (0:Int),(([]:Z4),(([]:(List Int)),(((0:Int),(([]:(List Int)),())),(([]:(List Int)),()))))))))))),false) else ((F_long_Tune (x,y1.1)).bind fun y2=> bif y2.2 != (0:Int) then some (((0:Int),((0:Int),((0:Int),((0:Int),((0:Int),(([]:(List Int)),(List.replicate 3 (0:Int),(([]:Z4),(([]:(List Int)),(((0:Int),(([]:(List Int)),())),(([]:(List Int)),()))))))))))),false) else ((F_long_Rest (x,(y1.1,y2.1))).bind fun y3=> bif y3.2 != (0:Int) then some (((0:Int),((0:Int),((0:Int),((0:Int),((0:Int),(([]:(List Int)),(List.replicate 3 (0:Int),(([]:Z4),(([]:(List Int)),(((0:Int),(([]:(List Int)),())),(([]:(List Int)),()))))))))))),false) else ((F_linear_Find (y3.1,((4:Int),(12:Int)))).bind fun y4=> bif y4.2.2 != (0:Int) then some (((0:Int),((0:Int),((0:Int),((0:Int),((0:Int),(([]:(List Int)),(List.replicate 3 (0:Int),(([]:Z4),(([]:(List Int)),(((0:Int),(([]:(List Int)),())),(([]:(List Int)),()))))))))))),false) else some (((4:Int),((0:Int),((0:Int),(y4.2.1,(y1.1,(y4.1,(y2.1,(([]:Z4),(([]:(List Int)),(((0:Int),(([]:(List Int)),())),(([]:(List Int)),()))))))))))),true))))
def S_sub_lagged:FSem:=⟨[.v (.list false (.int .i64))],[.v Q18,.v .bool],F_sub_lagged⟩
def H98:Hints:=⟨[],[],[]⟩
def F_sub_candidates_1 (x:(Int×(Int×Z180))):Option Z180:= (F_linear_Find (x.2.2.1,(x.1,x.2.1))).bind fun y1=> bif y1.2.2==(0:Int) then (bif lim ((List.length x.2.2.2)+1) then some (x.2.2.1,List.append x.2.2.2 ([((3:Int),((0:Int),((0:Int),(y1.2.1,((0:Int),(y1.1,(List.replicate 3 (0:Int),(([]:Z4),(([]:(List Int)),(((0:Int),(([]:(List Int)),())),(([]:(List Int)),())))))))))))]:List Z170)) else none) else some (x.2.2.1,x.2.2.2)
def S_sub_candidates_1:FSem:=⟨[.v (.int .i64),.v (.int .i64),.r (.list false (.int .i64)),.r (.list true Q18)],[],F_sub_candidates_1⟩
def H96:Hints:=⟨[],[],[]⟩
def F_sub_candidates_l0 (st:Z190):Option (Z190 ⊕ Z184):= bif decide (st.1<(5:Int)) then (bif lim ((List.length st.2.1)+1) then some (.inl (IntKind.wrap .i64 (st.1+(1:Int)),(List.append st.2.1 ([((2:Int),((0:Int),(st.1,((0:Int),((0:Int),(([]:(List Int)),(List.replicate 3 (0:Int),(([]:Z4),(([]:(List Int)),(((0:Int),(([]:(List Int)),())),(([]:(List Int)),())))))))))))]:List Z170),(st.2.2.1,())))) else none) else some (.inr (st.2.1,(st.2.2.1,())))
def F_sub_candidates (x:((List Int)×Int)):Option Z171:= (F_fixed_Best x.1).bind fun y1=> (show Option (Int×((List Int)×Z176)) from bif decide (x.2≥(1:Int)) then ((F_sub_candidates_1 ((4:Int),((12:Int),(x.1,([((0:Int),((0:Int),((0:Int),((0:Int),((0:Int),(([]:(List Int)),(List.replicate 3 (0:Int),(([]:Z4),(([]:(List Int)),(((0:Int),(([]:(List Int)),())),(([]:(List Int)),()))))))))))),((1:Int),((0:Int),((0:Int),((0:Int),((0:Int),(([]:(List Int)),(List.replicate 3 (0:Int),(([]:Z4),(([]:(List Int)),(((0:Int),(([]:(List Int)),())),(([]:(List Int)),()))))))))))),((2:Int),((0:Int),(y1,((0:Int),((0:Int),(([]:(List Int)),(List.replicate 3 (0:Int),(([]:Z4),(([]:(List Int)),(((0:Int),(([]:(List Int)),())),(([]:(List Int)),())))))))))))]:List Z170))))).bind fun y2=> (F_sub_candidates_1 ((8:Int),((12:Int),(y2.1,y2.2)))).bind fun y3=> some (x.2,(y3.1,(y3.2,())))) else some (x.2,(x.1,(([((0:Int),((0:Int),((0:Int),((0:Int),((0:Int),(([]:(List Int)),(List.replicate 3 (0:Int),(([]:Z4),(([]:(List Int)),(((0:Int),(([]:(List Int)),())),(([]:(List Int)),()))))))))))),((1:Int),((0:Int),((0:Int),((0:Int),((0:Int),(([]:(List Int)),(List.replicate 3 (0:Int),(([]:Z4),(([]:(List Int)),(((0:Int),(([]:(List Int)),())),(([]:(List Int)),()))))))))))),((2:Int),((0:Int),(y1,((0:Int),((0:Int),(([]:(List Int)),(List.replicate 3 (0:Int),(([]:Z4),(([]:(List Int)),(((0:Int),(([]:(List Int)),())),(([]:(List Int)),())))))))))))]:List Z170),())))).bind fun z4=> (show Option Z190 from bif decide (z4.1≥(2:Int)) then (bif lim ((List.length z4.2.2.1)+1) then (bif lim ((List.length (List.append z4.2.2.1 ([((5:Int),((0:Int),((0:Int),((0:Int),((0:Int),(([]:(List Int)),(List.replicate 3 (0:Int),(([((16:Int),((4:Int),()))]:List (Int×(Int×Unit))),(([]:(List Int)),(((0:Int),(([]:(List Int)),())),(([]:(List Int)),())))))))))))]:List Z170)))+1) then ((F_sub_lagged z4.2.1).bind fun y5=> bif y5.2 then (bif lim ((List.length (List.append (List.append z4.2.2.1 ([((5:Int),((0:Int),((0:Int),((0:Int),((0:Int),(([]:(List Int)),(List.replicate 3 (0:Int),(([((16:Int),((4:Int),()))]:List (Int×(Int×Unit))),(([]:(List Int)),(((0:Int),(([]:(List Int)),())),(([]:(List Int)),())))))))))))]:List Z170)) ([((5:Int),((0:Int),((0:Int),((0:Int),((0:Int),(([]:(List Int)),(List.replicate 3 (0:Int),(([((32:Int),((3:Int),())),((16:Int),((5:Int),()))]:List (Int×(Int×Unit))),(([]:(List Int)),(((0:Int),(([]:(List Int)),())),(([]:(List Int)),())))))))))))]:List Z170)))+1) then some (z4.1,(List.append (List.append (List.append z4.2.2.1 ([((5:Int),((0:Int),((0:Int),((0:Int),((0:Int),(([]:(List Int)),(List.replicate 3 (0:Int),(([((16:Int),((4:Int),()))]:List (Int×(Int×Unit))),(([]:(List Int)),(((0:Int),(([]:(List Int)),())),(([]:(List Int)),())))))))))))]:List Z170)) ([((5:Int),((0:Int),((0:Int),((0:Int),((0:Int),(([]:(List Int)),(List.replicate 3 (0:Int),(([((32:Int),((3:Int),())),((16:Int),((5:Int),()))]:List (Int×(Int×Unit))),(([]:(List Int)),(((0:Int),(([]:(List Int)),())),(([]:(List Int)),())))))))))))]:List Z170)) ([y5.1]:List Z170),(z4.2.1,()))) else none) else some (z4.1,(List.append (List.append z4.2.2.1 ([((5:Int),((0:Int),((0:Int),((0:Int),((0:Int),(([]:(List Int)),(List.replicate 3 (0:Int),(([((16:Int),((4:Int),()))]:List (Int×(Int×Unit))),(([]:(List Int)),(((0:Int),(([]:(List Int)),())),(([]:(List Int)),())))))))))))]:List Z170)) ([((5:Int),((0:Int),((0:Int),((0:Int),((0:Int),(([]:(List Int)),(List.replicate 3 (0:Int),(([((32:Int),((3:Int),())),((16:Int),((5:Int),()))]:List (Int×(Int×Unit))),(([]:(List Int)),(((0:Int),(([]:(List Int)),())),(([]:(List Int)),())))))))))))]:List Z170),(z4.2.1,())))) else none) else none) else some (z4.1,(z4.2.2.1,(z4.2.1,())))).bind fun z6=> (show Option Z176 from bif decide (z6.1≥(3:Int)) then ((iter F_sub_candidates_l0 ((0:Int),(z6.2.1,(z6.2.2.1,())))).bind fun w7=> (F_sub_candidates_1 ((1:Int),((12:Int),(w7.2.1,w7.1)))).bind fun y8=> (F_sub_candidates_1 ((2:Int),((12:Int),(y8.1,y8.2)))).bind fun y9=> (F_sub_candidates_1 ((12:Int),((14:Int),(y9.1,y9.2)))).bind fun y10=> (F_sub_candidates_1 ((16:Int),((14:Int),(y10.1,y10.2)))).bind fun y11=> some (y11.2,())) else some (z6.2.1,())).bind fun z12=> some z12.1
def S_sub_candidates:FSem:=⟨[.v (.list false (.int .i64)),.v (.int .i64)],[.v (.list false Q18)],F_sub_candidates⟩
def H47:Hints:=⟨[(4050,[.sv 50 (.int .i64),.box 5 (.list true Q18),.box 2 (.list false (.int .i64)),.ptr 5 5 [],.clo 6 96 [2,5]],[(.exit 0,[.box 5 (.list true Q18),.box 2 (.list false (.int .i64)),.ptr 5 5 [],.clo 6 96 [2,5]])])],[(15,[(.normal,[.sv 1 (.int .i64),.box 2 (.list false (.int .i64)),.box 5 (.list true Q18),.ptr 2 2 [],.ptr 5 5 [],.clo 6 96 [2,5]])]),(31,[(.normal,[.sv 1 (.int .i64),.box 5 (.list true Q18),.box 2 (.list false (.int .i64)),.ptr 5 5 [],.clo 6 96 [2,5]])]),(63,[(.normal,[.box 5 (.list true Q18),.ptr 5 5 []])])],[]⟩
def F_sub_Best_l0 (st:Z215):Option (Z215 ⊕ Z206):= bif decide (st.2.2.2.2.2.1<st.2.2.2.2.1) then ((gidx st.2.2.2.1 st.2.2.2.2.2.1).bind fun x6=> (F_sub_Make (x6.1,(st.1,x6))).bind fun y7=> bif y7.2 != (0:Int) then some (.inl (st.1,(st.2.1,(st.2.2.1,(st.2.2.2.1,(st.2.2.2.2.1,(IntKind.wrap .i64 (st.2.2.2.2.2.1+(1:Int)),(st.2.2.2.2.2.2.1,(st.2.2.2.2.2.2.2.1,()))))))))) else ((F_sub_Cost (y7.1,((List.length st.1:Nat):Int))).bind fun y8=> (show Option ((List Int)×(Int×(Bool×(Int×(Z171×(Int×(Int×(Bool×Z211)))))))) from bif !st.2.2.1 then some (st.1,(st.2.1,(st.2.2.1,(y8,(st.2.2.2.1,(st.2.2.2.2.1,(st.2.2.2.2.2.1,(true,(st.2.2.2.2.2.2.1,(st.2.2.2.2.2.2.2.1,(y7.1,()))))))))))) else some (st.1,(st.2.1,(st.2.2.1,(y8,(st.2.2.2.1,(st.2.2.2.2.1,(st.2.2.2.2.2.1,(decide (y8<st.2.1),(st.2.2.2.2.2.2.1,(st.2.2.2.2.2.2.2.1,(y7.1,())))))))))))).bind fun z9=> bif z9.2.2.2.2.2.2.2.1 then some (.inl (z9.1,(z9.2.2.2.1,(true,(z9.2.2.2.2.1,(z9.2.2.2.2.2.1,(IntKind.wrap .i64 (z9.2.2.2.2.2.2.1+(1:Int)),(z9.2.2.2.2.2.2.2.2.1,(z9.2.2.2.2.2.2.2.2.2.2.1,()))))))))) else some (.inl (z9.1,(z9.2.1,(z9.2.2.1,(z9.2.2.2.2.1,(z9.2.2.2.2.2.1,(IntKind.wrap .i64 (z9.2.2.2.2.2.2.1+(1:Int)),(z9.2.2.2.2.2.2.2.2.1,(z9.2.2.2.2.2.2.2.2.2.1,()))))))))))) else some (.inr (st.2.2.2.2.2.2.1,(st.2.2.2.2.2.2.2.1,())))
def F_sub_Best (x:((List Int)×Int)):Option Z172:= (show Option ((List Int)×Z183) from bif decide (((List.length x.1:Nat):Int)<(1:Int)) then some (x.1,(x.2,(true,(((0:Int),((0:Int),((0:Int),((0:Int),((0:Int),(([]:(List Int)),(List.replicate 3 (0:Int),(([]:Z4),(([]:(List Int)),(((0:Int),(([]:(List Int)),())),(([]:(List Int)),()))))))))))),())))) else (bif decide (((List.length x.1:Nat):Int) > (4096:Int)) then some (x.1,(x.2,(true,(((0:Int),((0:Int),((0:Int),((0:Int),((0:Int),(([]:(List Int)),(List.replicate 3 (0:Int),(([]:Z4),(([]:(List Int)),(((0:Int),(([]:(List Int)),())),(([]:(List Int)),()))))))))))),())))) else (bif decide (x.2<(0:Int)) then some (x.1,(x.2,(true,(((0:Int),((0:Int),((0:Int),((0:Int),((0:Int),(([]:(List Int)),(List.replicate 3 (0:Int),(([]:Z4),(([]:(List Int)),(((0:Int),(([]:(List Int)),())),(([]:(List Int)),()))))))))))),())))) else some (x.1,(x.2,(decide (x.2 > (3:Int)),(((0:Int),((0:Int),((0:Int),((0:Int),((0:Int),(([]:(List Int)),(List.replicate 3 (0:Int),(([]:Z4),(([]:(List Int)),(((0:Int),(([]:(List Int)),())),(([]:(List Int)),()))))))))))),()))))))).bind fun z1=> bif z1.2.2.1 then some (((0:Int),((0:Int),((0:Int),((0:Int),((0:Int),(([]:(List Int)),(List.replicate 3 (0:Int),(([]:Z4),(([]:(List Int)),(((0:Int),(([]:(List Int)),())),(([]:(List Int)),()))))))))))),(1:Int)) else ((F_sub_allWide z1.1).bind fun y2=> bif !y2 then some (((0:Int),((0:Int),((0:Int),((0:Int),((0:Int),(([]:(List Int)),(List.replicate 3 (0:Int),(([]:Z4),(([]:(List Int)),(((0:Int),(([]:(List Int)),())),(([]:(List Int)),()))))))))))),(6:Int)) else ((F_sample_Wasted z1.1).bind fun y3=> (F_sample_Down (z1.1,y3)).bind fun y4=> bif y4.2 != (0:Int) then some (((0:Int),((0:Int),((0:Int),((0:Int),((0:Int),(([]:(List Int)),(List.replicate 3 (0:Int),(([]:Z4),(([]:(List Int)),(((0:Int),(([]:(List Int)),())),(([]:(List Int)),()))))))))))),y4.2) else ((F_sub_candidates (y4.1,z1.2.1)).bind fun y5=> (iter F_sub_Best_l0 (z1.1,((0:Int),(false,(y5,(((List.length y5:Nat):Int),((0:Int),(z1.2.2.2.1,(((0:Int),((0:Int),((0:Int),((0:Int),((0:Int),(([]:(List Int)),(List.replicate 3 (0:Int),(([]:Z4),(([]:(List Int)),(((0:Int),(([]:(List Int)),())),(([]:(List Int)),()))))))))))),()))))))))).bind fun w10=> some (w10.2.1,(0:Int)))))
def S_sub_Best:FSem:=⟨[.v (.list false (.int .i64)),.v (.int .i64)],[.v Q18,.v (.int .i64)],F_sub_Best⟩
def H18:Hints:=⟨[(2042,[.sv 0 (.list false (.int .i64)),.sv 9 (.int .i64),.sv 10 .bool,.sv 50 (.list false Q18),.sv 51 (.int .i64),.sv 52 (.int .i64),.box 4 Q18,.box 8 Q18,.ptr 4 4 [],.ptr 8 8 []],[(.exit 0,[.box 4 Q18,.box 8 Q18,.ptr 4 4 [],.ptr 8 8 []])])],[(6,[(.normal,[.sv 0 (.list false (.int .i64)),.sv 1 (.int .i64),.sv 31 .bool,.box 4 Q18,.ptr 4 4 []])]),(1045711,[(.normal,[.sv 0 (.list false (.int .i64)),.sv 9 (.int .i64),.sv 10 .bool,.sv 15 (.int .i64),.sv 50 (.list false Q18),.sv 51 (.int .i64),.sv 52 (.int .i64),.sv 76 .bool,.box 4 Q18,.box 8 Q18,.box 13 Q18,.ptr 4 4 [],.ptr 8 8 [],.ptr 13 13 []])])],[]⟩
def F_l15_known (x:Unit):Option Bool:= (F_sub_Make ((2:Int),(([(4:Int),(8:Int),(12:Int),(16:Int)]:List Int),((0:Int),((0:Int),((1:Int),((0:Int),((0:Int),(([]:(List Int)),(List.replicate 3 (0:Int),(([]:Z4),(([]:(List Int)),(((0:Int),(([]:(List Int)),())),(([]:(List Int)),())))))))))))))).bind fun y1=> (F_sub_Row (y1.1,(4:Int))).bind fun y2=> (F_sub_Best (([(6:Int),(6:Int),(6:Int)]:List Int),(0:Int))).bind fun y3=> bif y1.2==(0:Int) then (bif y2.2==(0:Int) then (bif y3.2==(0:Int) then (bif y1.1.2.1==(2:Int) then ((F_r2_SameInts (y1.1.2.2.2.2.2.2.2.2.1,([(1:Int)]:List Int))).bind fun y4=> bif y4 then ((F_r2_SameInts (y1.1.2.2.2.2.2.2.2.2.2.2.1,([(1:Int),(1:Int),(1:Int)]:List Int))).bind fun y5=> bif y5 then ((F_r2_SameInts (y2.1,([(4:Int),(8:Int),(12:Int),(16:Int)]:List Int))).bind fun y6=> bif y6 then (bif y3.1.1==(0:Int) then ((F_r2_SameInts (y3.1.2.2.2.2.2.2.2.2.1,([(6:Int)]:List Int))).bind fun y7=> bif y7 then ((F_sub_Cost (y3.1,(3:Int))).bind fun y8=> some (y8==(17:Int))) else some false) else some false) else some false) else some false) else some false) else some false) else some false) else some false) else some false
def S_l15_known:FSem:=⟨[],[.v .bool],F_l15_known⟩
def H10:Hints:=⟨[],[],[]⟩
def F_l15_Small (x:Z172):Option Bool:= bif decide (((List.length x.1.2.2.2.2.2.1:Nat):Int)≤(40:Int)) then (bif decide (((List.length x.1.2.2.2.2.2.2.2.1:Nat):Int)≤(6:Int)) then (bif decide (((List.length x.1.2.2.2.2.2.2.2.2.1:Nat):Int)≤x.2) then (bif decide (((List.length x.1.2.2.2.2.2.2.2.2.2.2.1:Nat):Int)≤x.2) then some (decide (((List.length x.1.2.2.2.2.2.2.2.2.2.1.2.1:Nat):Int)≤(300:Int))) else some false) else some false) else some false) else some false
def S_l15_Small:FSem:=⟨[.v Q18,.v (.int .i64)],[.v .bool],F_l15_Small⟩
def H11:Hints:=⟨[],[],[]⟩
def F_r2_Writer_Put_l0 (st:Z38):Option (Z38 ⊕ Z9):= bif decide (st.2.1≥(0:Int)) then (bif decide ((IntKind.wrap .u64 st.2.1)<0) then none else (bif lim ((List.length st.2.2.1.1)+1) then some (.inl (st.1,(IntKind.wrap .i64 (st.2.1-(1:Int)),((List.append st.2.2.1.1 ([IntKind.wrap .u8 (bits .u64 .and (gshr .u64 st.1 (IntKind.wrap .u64 st.2.1)) (1:Int))]:List Int),st.2.2.1.2),())))) else none)) else some (.inr (st.2.2.1,()))
def F_r2_Writer_Put (x:(((List Int)×Unit)×(Int×Int))):Option Z5:= (show Option (Int×(Int×(Bool×Z9))) from bif decide (x.2.2<(0:Int)) then some (x.2.1,(x.2.2,(true,(x.1,())))) else (bif decide (x.2.2 > (64:Int)) then some (x.2.1,(x.2.2,(true,(x.1,())))) else (bif decide (x.2.2<(64:Int)) then (bif decide ((IntKind.wrap .u64 x.2.2)<0) then none else some (x.2.1,(x.2.2,((gshr .u64 x.2.1 (IntKind.wrap .u64 x.2.2)) != (0:Int),(x.1,()))))) else some (x.2.1,(x.2.2,(false,(x.1,()))))))).bind fun z1=> bif z1.2.2.1 then some ((1:Int),z1.2.2.2.1) else ((iter F_r2_Writer_Put_l0 (z1.1,(IntKind.wrap .i64 (z1.2.1-(1:Int)),(z1.2.2.2.1,())))).bind fun w2=> some ((0:Int),w2.1))
def S_r2_Writer_Put:FSem:=⟨[.r Q1,.v (.int .u64),.v (.int .i64)],[.v (.int .i64)],F_r2_Writer_Put⟩
def H24:Hints:=⟨[(58,[.sv 1 (.int .u64),.sv 7 (.int .i64),.box 1000000 Q1,.ptr 0 1000000 []],[(.exit 0,[.box 1000000 Q1])])],[(6,[(.normal,[.sv 1 (.int .u64),.sv 2 (.int .i64),.sv 24 .bool,.box 1000000 Q1,.ptr 0 1000000 []])])],[]⟩
def F_r19_guessed (x:Int):Option Bool:= bif decide (x≥(2:Int)) then some (decide (x≤(5:Int))) else some false
def S_r19_guessed:FSem:=⟨[.v (.int .i64)],[.v .bool],F_r19_guessed⟩
def H41:Hints:=⟨[],[],[]⟩
def F_r14_SameStages_l0 (st:(Z4×Z39)):Option ((Z4×Z39) ⊕ Z0):= bif decide (st.2.2.1<((List.length st.1:Nat):Int)) then ((gidx st.1 st.2.2.1).bind fun x1=> (gidx st.2.1 st.2.2.1).bind fun x2=> bif !(eqT Q4 x1 x2) then some (.inr (Sum.inr ((false,())))) else some (.inl (st.1,(st.2.1,(IntKind.wrap .i64 (st.2.2.1+(1:Int)),()))))) else some (.inr (Sum.inl ()))
def F_r14_SameStages (x:(Z4×Z4)):Option Bool:= bif ((List.length x.1:Nat):Int) != ((List.length x.2:Nat):Int) then some false else ((iter F_r14_SameStages_l0 (x.1,(x.2,((0:Int),())))).bind fun w3=> match w3 with |.inl a4=>some true |.inr b5=>some b5.1)
def S_r14_SameStages:FSem:=⟨[.v (.list false Q4),.v (.list false Q4)],[.v .bool],F_r14_SameStages⟩
def H52:Hints:=⟨[(58,[.sv 0 (.list false Q4),.sv 1 (.list false Q4),.sv 5 (.int .i64)],[(.exit 0,[]),(.ret,[.sv 4 .bool])])],[],[(6,[.v,.v,.v,.v,.v,.v,.v,.v,.x])]⟩
def F_r8_SameParts (x:(Z5×Z5)):Option Bool:= bif x.1.1==x.2.1 then ((F_r2_SameInts (x.1.2.1,x.2.2.1)).bind fun y1=> some y1) else some false
def S_r8_SameParts:FSem:=⟨[.v Q6,.v Q6],[.v .bool],F_r8_SameParts⟩
def H53:Hints:=⟨[],[],[]⟩
def F_r19_SameSub (x:(Z170×Z170)):Option Bool:= bif x.1.1==x.2.1 then (bif x.1.2.1==x.2.2.1 then (bif x.1.2.2.1==x.2.2.2.1 then (bif x.1.2.2.2.1==x.2.2.2.2.1 then (bif x.1.2.2.2.2.1==x.2.2.2.2.2.1 then ((F_r2_SameInts (x.1.2.2.2.2.2.1,x.2.2.2.2.2.2.1)).bind fun y1=> bif y1 then (bif eqT (.arr 3 (.int .i64)) x.1.2.2.2.2.2.2.1 x.2.2.2.2.2.2.2.1 then ((F_r14_SameStages (x.1.2.2.2.2.2.2.2.1,x.2.2.2.2.2.2.2.2.1)).bind fun y2=> bif y2 then ((F_r2_SameInts (x.1.2.2.2.2.2.2.2.2.1,x.2.2.2.2.2.2.2.2.2.1)).bind fun y3=> bif y3 then ((F_r8_SameParts (x.1.2.2.2.2.2.2.2.2.2.1,x.2.2.2.2.2.2.2.2.2.2.1)).bind fun y4=> bif y4 then ((F_r2_SameInts (x.1.2.2.2.2.2.2.2.2.2.2.1,x.2.2.2.2.2.2.2.2.2.2.2.1)).bind fun y5=> some y5) else some false) else some false) else some false) else some false) else some false) else some false) else some false) else some false) else some false) else some false
def S_r19_SameSub:FSem:=⟨[.v Q18,.v Q18],[.v .bool],F_r19_SameSub⟩
def H20:Hints:=⟨[],[],[]⟩
def F_r2_Wide (x:Int):Option Bool:= bif decide (x≥(-1073741824:Int)) then some (decide (x<(1073741824:Int))) else some false
def S_r2_Wide:FSem:=⟨[.v (.int .i64)],[.v .bool],F_r2_Wide⟩
def H54:Hints:=⟨[],[],[]⟩
def F_r2_AllWide_l0 (st:Z3):Option (Z3 ⊕ Z0):= bif decide (st.2.1<((List.length st.1:Nat):Int)) then ((gidx st.1 st.2.1).bind fun x1=> (F_r2_Wide x1).bind fun y2=> bif !y2 then some (.inr (Sum.inr ((false,())))) else some (.inl (st.1,(IntKind.wrap .i64 (st.2.1+(1:Int)),())))) else some (.inr (Sum.inl ()))
def F_r2_AllWide (x:(List Int)):Option Bool:= (iter F_r2_AllWide_l0 (x,((0:Int),()))).bind fun w3=> match w3 with |.inl a4=>some true |.inr b5=>some b5.1
def S_r2_AllWide:FSem:=⟨[.v (.list false (.int .i64))],[.v .bool],F_r2_AllWide⟩
def H21:Hints:=⟨[(26,[.sv 0 (.list false (.int .i64)),.sv 3 (.int .i64)],[(.exit 0,[]),(.ret,[.sv 2 .bool])])],[],[]⟩
def F_r2_Up_l0 (st:Z44):Option (Z44 ⊕ Z49):= bif decide (st.2.2.1<((List.length st.1:Nat):Int)) then ((show Option Z68 from (gidx st.1 st.2.2.1).bind fun x2=> (F_r2_Wide x2).bind fun y3=> bif !y3 then some (st.1,(st.2.1,(st.2.2.1,(true,(st.2.2.2.1,()))))) else ((gidx st.1 st.2.2.1).bind fun x4=> bif decide ((IntKind.wrap .u64 st.2.1)<0) then none else ((F_r2_Wide (gshl .i64 x4 (IntKind.wrap .u64 st.2.1))).bind fun y5=> some (st.1,(st.2.1,(st.2.2.1,(!y5,(st.2.2.2.1,())))))))).bind fun z6=> bif z6.2.2.2.1 then some (.inr (Sum.inr (((6:Int),(([]:(List Int)),()))))) else ((gidx z6.1 z6.2.2.1).bind fun x7=> bif decide ((IntKind.wrap .u64 z6.2.1)<0) then none else (bif lim ((List.length z6.2.2.2.2.1)+1) then some (.inl (z6.1,(z6.2.1,(IntKind.wrap .i64 (z6.2.2.1+(1:Int)),(List.append z6.2.2.2.2.1 ([gshl .i64 x7 (IntKind.wrap .u64 z6.2.1)]:List Int),()))))) else none))) else some (.inr (Sum.inl (st.2.2.2.1,())))
def F_r2_Up (x:((List Int)×Int)):Option ((List Int)×Int):= (show Option Z18 from bif decide (x.2<(0:Int)) then some (x.1,(x.2,(true,()))) else some (x.1,(x.2,(decide (x.2 > (30:Int)),())))).bind fun z1=> bif z1.2.2.1 then some (([]:(List Int)),(1:Int)) else ((iter F_r2_Up_l0 (z1.1,(z1.2.1,((0:Int),(([]:(List Int)),()))))).bind fun w8=> match w8 with |.inl a9=>some (a9.1,(0:Int)) |.inr b10=>some (b10.2.1,b10.1))
def S_r2_Up:FSem:=⟨[.v (.list false (.int .i64)),.v (.int .i64)],[.o (.int .i64),.v (.int .i64)],F_r2_Up⟩
def H22:Hints:=⟨[(122,[.sv 0 (.list false (.int .i64)),.sv 1 (.int .i64),.sv 7 (.int .i64),.own 6 6 (.int .i64)],[(.exit 0,[.own 6 6 (.int .i64)]),(.ret,[.sv 5 (.int .i64),.own 4 4 (.int .i64)])])],[(6,[(.normal,[.sv 0 (.list false (.int .i64)),.sv 1 (.int .i64),.sv 13 .bool])]),(3912,[(.normal,[.sv 0 (.list false (.int .i64)),.sv 1 (.int .i64),.sv 7 (.int .i64),.sv 36 .bool,.own 6 6 (.int .i64)])])],[]⟩
def F_r19_named (x:Z170):Option Z170:= bif x.1==(0:Int) then some (x.1,((0:Int),((0:Int),((0:Int),((0:Int),(([]:(List Int)),(List.replicate 3 (0:Int),(([]:Z4),(x.2.2.2.2.2.2.2.2.1,(((0:Int),(([]:(List Int)),())),(([]:(List Int)),()))))))))))) else (bif x.1==(1:Int) then some (x.1,(x.2.1,((0:Int),((0:Int),((0:Int),(([]:(List Int)),(List.replicate 3 (0:Int),(([]:Z4),(x.2.2.2.2.2.2.2.2.1,(((0:Int),(([]:(List Int)),())),(([]:(List Int)),()))))))))))) else ((show Option Z206 from bif x.1==(2:Int) then some (((0:Int),((0:Int),((0:Int),((0:Int),((0:Int),(([]:(List Int)),(List.replicate 3 (0:Int),(([]:Z4),(([]:(List Int)),(((0:Int),(([]:(List Int)),())),(([]:(List Int)),()))))))))))),((x.1,(x.2.1,(x.2.2.1,((0:Int),((0:Int),(([]:(List Int)),(List.replicate 3 (0:Int),(([]:Z4),(x.2.2.2.2.2.2.2.2.1,(x.2.2.2.2.2.2.2.2.2.1,(x.2.2.2.2.2.2.2.2.2.2.1,()))))))))))),())) else (bif x.1==(3:Int) then some (((0:Int),((0:Int),((0:Int),((0:Int),((0:Int),(([]:(List Int)),(List.replicate 3 (0:Int),(([]:Z4),(([]:(List Int)),(((0:Int),(([]:(List Int)),())),(([]:(List Int)),()))))))))))),((x.1,(x.2.1,((0:Int),(x.2.2.2.1,((0:Int),(x.2.2.2.2.2.1,(List.replicate 3 (0:Int),(([]:Z4),(x.2.2.2.2.2.2.2.2.1,(x.2.2.2.2.2.2.2.2.2.1,(x.2.2.2.2.2.2.2.2.2.2.1,()))))))))))),())) else (bif x.1==(4:Int) then some (((0:Int),((0:Int),((0:Int),((0:Int),((0:Int),(([]:(List Int)),(List.replicate 3 (0:Int),(([]:Z4),(([]:(List Int)),(((0:Int),(([]:(List Int)),())),(([]:(List Int)),()))))))))))),((x.1,(x.2.1,((0:Int),(x.2.2.2.1,(x.2.2.2.2.1,(x.2.2.2.2.2.1,(x.2.2.2.2.2.2.1,(([]:Z4),(x.2.2.2.2.2.2.2.2.1,(x.2.2.2.2.2.2.2.2.2.1,(x.2.2.2.2.2.2.2.2.2.2.1,()))))))))))),())) else (bif x.1==(5:Int) then some (((0:Int),((0:Int),((0:Int),((0:Int),((0:Int),(([]:(List Int)),(List.replicate 3 (0:Int),(([]:Z4),(([]:(List Int)),(((0:Int),(([]:(List Int)),())),(([]:(List Int)),()))))))))))),((x.1,(x.2.1,((0:Int),((0:Int),((0:Int),(([]:(List Int)),(List.replicate 3 (0:Int),(x.2.2.2.2.2.2.2.1,(([]:(List Int)),(x.2.2.2.2.2.2.2.2.2.1,(x.2.2.2.2.2.2.2.2.2.2.1,()))))))))))),())) else some (((0:Int),((0:Int),((0:Int),((0:Int),((0:Int),(([]:(List Int)),(List.replicate 3 (0:Int),(([]:Z4),(([]:(List Int)),(((0:Int),(([]:(List Int)),())),(([]:(List Int)),()))))))))))),((x.1,(x.2.1,((0:Int),((0:Int),((0:Int),(([]:(List Int)),(List.replicate 3 (0:Int),(([]:Z4),(x.2.2.2.2.2.2.2.2.1,(x.2.2.2.2.2.2.2.2.2.1,(x.2.2.2.2.2.2.2.2.2.2.1,()))))))))))),())))))).bind fun z1=> some z1.2.1))
def S_r19_named:FSem:=⟨[.v Q18],[.v Q18],F_r19_named⟩
def H39:Hints:=⟨[],[(127,[(.normal,[.box 2 Q18,.box 3 Q18,.ptr 2 2 [],.ptr 3 3 []])])],[(7,[.v,.v,.v,.v,.q,.w [0,3],.x,.x]),(12,[.v,.v,.v,.v,.q,.w [0,3],.x,.x]),(14,[.v,.v,.v,.v,.v,.v,.v,.v,.q,.w [0,3],.q,.w [0,3],.q,.w [0,3],.x,.x])]⟩
def F_r14_LinearMay_l0 (st:Z14):Option (Z14 ⊕ (Z3 ⊕ (Bool×Unit))):= bif decide (st.2.2.1<((List.length st.1:Nat):Int)) then ((show Option Z34 from (gidx st.1 st.2.2.1).bind fun x1=> bif decide (x1<(-32768:Int)) then some (st.1,(st.2.1,(st.2.2.1,(true,())))) else ((gidx st.1 st.2.2.1).bind fun x2=> some (st.1,(st.2.1,(st.2.2.1,(decide (x2≥(32768:Int)),())))))).bind fun z3=> bif z3.2.2.2.1 then some (.inr (Sum.inr ((false,())))) else some (.inl (z3.1,(z3.2.1,(IntKind.wrap .i64 (z3.2.2.1+(1:Int)),()))))) else some (.inr (Sum.inl (st.1,(st.2.1,()))))
def F_r14_LinearMay (x:((List Int)×Int)):Option Bool:= (iter F_r14_LinearMay_l0 (x.1,(x.2,((0:Int),())))).bind fun w4=> match w4 with |.inl a5=>(bif decide (((List.length a5.1:Nat):Int)≥(1:Int)) then (bif decide (((List.length a5.1:Nat):Int)≤(32:Int)) then (bif decide (a5.2.1≥(0:Int)) then some (decide (a5.2.1≤(15:Int))) else some false) else some false) else some false) |.inr b6=>some b6.1
def S_r14_LinearMay:FSem:=⟨[.v (.list false (.int .i64)),.v (.int .i64)],[.v .bool],F_r14_LinearMay⟩
def H84:Hints:=⟨[(26,[.sv 0 (.list false (.int .i64)),.sv 1 (.int .i64),.sv 5 (.int .i64)],[(.exit 0,[.sv 0 (.list false (.int .i64)),.sv 1 (.int .i64)]),(.ret,[.sv 4 .bool])])],[(420,[(.normal,[.sv 0 (.list false (.int .i64)),.sv 1 (.int .i64),.sv 5 (.int .i64),.sv 23 .bool])])],[]⟩
def F_r14_LongMay_l0 (st:Z15):Option (Z15 ⊕ ((Int×Unit) ⊕ (Bool×Unit))):= bif decide (st.2.1<(3:Int)) then ((show Option Z35 from (gidx st.2.2.1 st.2.1).bind fun x1=> bif decide (x1<(-64:Int)) then some (st.1,(st.2.1,(true,(st.2.2.1,())))) else ((gidx st.2.2.1 st.2.1).bind fun x2=> some (st.1,(st.2.1,(decide (x2 > (64:Int)),(st.2.2.1,())))))).bind fun z3=> bif z3.2.2.1 then some (.inr (Sum.inr ((false,())))) else some (.inl (z3.1,(IntKind.wrap .i64 (z3.2.1+(1:Int)),(z3.2.2.2.1,()))))) else some (.inr (Sum.inl (st.1,())))
def F_r14_LongMay (x:(Int×(List Int))):Option Bool:= (iter F_r14_LongMay_l0 (x.1,((0:Int),(x.2,())))).bind fun w4=> match w4 with |.inl a5=>(bif decide (a5.1≥(2:Int)) then some (decide (a5.1≤(1024:Int))) else some false) |.inr b6=>some b6.1
def S_r14_LongMay:FSem:=⟨[.v (.int .i64),.v (.arr 3 (.int .i64))],[.v .bool],F_r14_LongMay⟩
def H85:Hints:=⟨[(26,[.sv 0 (.int .i64),.sv 5 (.int .i64),.vp 3 (.arr 3 (.int .i64))],[(.exit 0,[.sv 0 (.int .i64)]),(.ret,[.sv 4 .bool])])],[(420,[(.normal,[.sv 0 (.int .i64),.sv 5 (.int .i64),.sv 19 .bool,.vp 3 (.arr 3 (.int .i64))])])],[]⟩
def F_r14_StageMay (x:(Int×(Int×Unit))):Option Bool:= bif decide (x.1≥(1:Int)) then (bif decide (x.1≤(32:Int)) then (bif decide (x.2.1≥(0:Int)) then some (decide (x.2.1≤(8:Int))) else some false) else some false) else some false
def S_r14_StageMay:FSem:=⟨[.v Q4],[.v .bool],F_r14_StageMay⟩
def H141:Hints:=⟨[],[],[]⟩
def F_r14_LearnMay_l0 (st:Z39):Option (Z39 ⊕ ((Z4×Unit) ⊕ (Bool×Unit))):= bif decide (st.2.1<((List.length st.1:Nat):Int)) then ((gidx st.1 st.2.1).bind fun x1=> (F_r14_StageMay x1).bind fun y2=> bif !y2 then some (.inr (Sum.inr ((false,())))) else some (.inl (st.1,(IntKind.wrap .i64 (st.2.1+(1:Int)),())))) else some (.inr (Sum.inl (st.1,())))
def F_r14_LearnMay (x:Z4):Option Bool:= (iter F_r14_LearnMay_l0 (x,((0:Int),()))).bind fun w3=> match w3 with |.inl a4=>some (decide (((List.length a4.1:Nat):Int)≤(3:Int))) |.inr b5=>some b5.1
def S_r14_LearnMay:FSem:=⟨[.v (.list false Q4)],[.v .bool],F_r14_LearnMay⟩
def H86:Hints:=⟨[(26,[.sv 0 (.list false Q4),.sv 3 (.int .i64)],[(.exit 0,[.sv 0 (.list false Q4)]),(.ret,[.sv 2 .bool])])],[],[]⟩
def F_r19_warms (x:Z172):Option Int:= bif x.1.1==(0:Int) then some (1:Int) else (bif x.1.1==(1:Int) then some x.2 else (bif x.1.1==(2:Int) then ((show Option Z179 from bif decide (x.1.2.2.1≥(0:Int)) then (bif decide (x.1.2.2.1≤(4:Int)) then some (decide (x.1.2.2.1≤x.2),(x.1,())) else some (false,(x.1,()))) else some (false,(x.1,()))).bind fun z1=> bif z1.1 then some z1.2.1.2.2.1 else some (-1:Int)) else ((show Option Z189 from bif x.1.1==(3:Int) then some (x.2,(x.1.1,(x.1.1==(3:Int),(x.1,())))) else some (x.2,(x.1.1,(x.1.1==(4:Int),(x.1,()))))).bind fun z2=> bif z2.2.2.1 then ((show Option Z179 from (F_r14_LinearMay (z2.2.2.2.1.2.2.2.2.2.1,z2.2.2.2.1.2.2.2.1)).bind fun y3=> bif y3 then (bif decide (((List.length z2.2.2.2.1.2.2.2.2.2.1:Nat):Int)≤z2.1) then (bif z2.2.2.2.1.1==(3:Int) then some (true,(z2.2.2.2.1,())) else ((F_r14_LongMay (z2.2.2.2.1.2.2.2.2.1,z2.2.2.2.1.2.2.2.2.2.2.1)).bind fun y4=> some (y4,(z2.2.2.2.1,())))) else some (false,(z2.2.2.2.1,()))) else some (false,(z2.2.2.2.1,()))).bind fun z5=> bif z5.1 then some ((List.length z5.2.1.2.2.2.2.2.1:Nat):Int) else some (-1:Int)) else (bif z2.2.1==(5:Int) then ((show Option (Bool×Unit) from bif decide (((List.length z2.2.2.2.1.2.2.2.2.2.2.2.1:Nat):Int) > (0:Int)) then ((F_r14_LearnMay z2.2.2.2.1.2.2.2.2.2.2.2.1).bind fun y6=> some (y6,())) else some (false,())).bind fun z7=> bif z7.1 then some (0:Int) else some (-1:Int)) else some (-1:Int)))))
def S_r19_warms:FSem:=⟨[.v Q18,.v (.int .i64)],[.v (.int .i64)],F_r19_warms⟩
def H40:Hints:=⟨[],[(1726,[(.normal,[.sv 27 .bool,.vp 2 Q18])]),(1727,[(.normal,[.sv 1 (.int .i64),.sv 6 (.int .i64),.sv 30 .bool,.vp 2 Q18])]),(6910,[(.normal,[.sv 56 .bool,.vp 2 Q18])]),(27646,[(.normal,[.sv 70 .bool])])],[]⟩
def F_r8_row (x:(Int×Int)):Option Bool:= bif decide (x.1≥(1:Int)) then (bif decide (x.1≤(4096:Int)) then (bif decide (x.2≥(0:Int)) then some (decide (x.2≤x.1)) else some false) else some false) else some false
def S_r8_row:FSem:=⟨[.v (.int .i64),.v (.int .i64)],[.v .bool],F_r8_row⟩
def H142:Hints:=⟨[],[],[]⟩
def F_r8_PartsSizes_l0 (st:(Int×Z32)):Option ((Int×Z32) ⊕ Z5):= bif decide ((IntKind.wrap .u64 st.1)<0) then none else (bif decide (st.2.2.2.1<(gshl .i64 (1:Int) (IntKind.wrap .u64 st.1))) then (bif decide ((IntKind.wrap .u64 st.1)<0) then none else (bif lim ((List.length st.2.2.2.2.1)+1) then some (.inl (st.1,(st.2.1,(st.2.2.1,(IntKind.wrap .i64 (st.2.2.2.1+(1:Int)),(List.append st.2.2.2.2.1 ([gshr .i64 st.2.1 (IntKind.wrap .u64 st.1)]:List Int),())))))) else none)) else some (.inr (st.2.2.1,(st.2.2.2.2.1,()))))
def F_r8_PartsSizes (x:(Int×(Int×Int))):Option (List Int):= (show Option Z24 from (F_r8_row (x.2.1,x.2.2)).bind fun y1=> bif !y1 then some (x.1,(x.2.1,(x.2.2,(true,())))) else (bif decide (x.1<(0:Int)) then some (x.1,(x.2.1,(x.2.2,(true,())))) else (bif decide (x.1 > (8:Int)) then some (x.1,(x.2.1,(x.2.2,(true,())))) else (bif decide ((IntKind.wrap .u64 x.1)<0) then none else (bif (gshl .i64 (1:Int) (IntKind.wrap .u64 x.1))==0 then none else (bif (Int.tmod x.2.1 (gshl .i64 (1:Int) (IntKind.wrap .u64 x.1))) != (0:Int) then some (x.1,(x.2.1,(x.2.2,(true,())))) else (bif decide ((IntKind.wrap .u64 x.1)<0) then none else some (x.1,(x.2.1,(x.2.2,(decide ((gshr .i64 x.2.1 (IntKind.wrap .u64 x.1))<x.2.2),()))))))))))).bind fun z2=> bif z2.2.2.2.1 then some ([]:(List Int)) else ((iter F_r8_PartsSizes_l0 (z2.1,(z2.2.1,(z2.2.2.1,((0:Int),(([]:(List Int)),())))))).bind fun w3=> bif decide ((0:Int)<((List.length w3.2.1:Nat):Int)) then (bif decide ((0:Int)<((List.length w3.2.1:Nat):Int)) then some (List.set w3.2.1 0 (IntKind.wrap .i64 ((List.getD w3.2.1 0 (0:Int))-w3.1))) else none) else none)
def S_r8_PartsSizes:FSem:=⟨[.v (.int .i64),.v (.int .i64),.v (.int .i64)],[.o (.int .i64)],F_r8_PartsSizes⟩
def H87:Hints:=⟨[(122,[.sv 0 (.int .i64),.sv 1 (.int .i64),.sv 2 (.int .i64),.sv 8 (.int .i64),.own 7 7 (.int .i64)],[(.exit 0,[.sv 2 (.int .i64),.own 7 7 (.int .i64)])])],[(6,[(.normal,[.sv 0 (.int .i64),.sv 1 (.int .i64),.sv 2 (.int .i64),.sv 36 .bool])])],[]⟩
def F_r8_parameter (x:Int):Option Bool:= bif decide (x≥(0:Int)) then some (decide (x≤(25:Int))) else some false
def S_r8_parameter:FSem:=⟨[.v (.int .i64)],[.v .bool],F_r8_parameter⟩
def H88:Hints:=⟨[],[],[]⟩
def F_r8_PartsMay_l0 (st:(Int×Z19)):Option ((Int×Z19) ⊕ Z0):= bif decide (st.1<((List.length st.2.1.2.1:Nat):Int)) then ((show Option (Int×Z40) from (gidx st.2.1.2.1 st.1).bind fun x3=> (F_r8_parameter x3).bind fun y4=> bif !y4 then ((gidx st.2.1.2.1 st.1).bind fun x5=> some (st.1,(x5 != (31:Int),(st.2.1,())))) else some (st.1,(false,(st.2.1,())))).bind fun z6=> bif z6.2.1 then some (.inr (Sum.inr ((false,())))) else some (.inl (IntKind.wrap .i64 (z6.1+(1:Int)),(z6.2.2.1,())))) else some (.inr (Sum.inl ()))
def F_r8_PartsMay (x:(Z5×(Int×Int))):Option Bool:= (F_r8_PartsSizes (x.1.1,(x.2.1,x.2.2))).bind fun y1=> (show Option Z40 from bif ((List.length y1:Nat):Int)==(0:Int) then some (true,(x.1,())) else some (((List.length y1:Nat):Int) != ((List.length x.1.2.1:Nat):Int),(x.1,()))).bind fun z2=> bif z2.1 then some false else ((iter F_r8_PartsMay_l0 ((0:Int),(z2.2.1,()))).bind fun w7=> match w7 with |.inl a8=>some true |.inr b9=>some b9.1)
def S_r8_PartsMay:FSem:=⟨[.v Q6,.v (.int .i64),.v (.int .i64)],[.v .bool],F_r8_PartsMay⟩
def H42:Hints:=⟨[(122,[.sv 8 (.int .i64),.vp 3 Q6],[(.exit 0,[]),(.ret,[.sv 6 .bool])])],[(14,[(.normal,[.sv 24 .bool,.vp 3 Q6])]),(1956,[(.normal,[.sv 8 (.int .i64),.sv 46 .bool,.vp 3 Q6])])],[]⟩
def F_r14_pascal (x:Int):Option (List Int):= bif (decide ((0:Int)≤x))&&(decide (x<(5:Int))) then some (List.getD ([([]:(List Int)),([(1:Int)]:List Int),([(2:Int),(-1:Int)]:List Int),([(3:Int),(-3:Int),(1:Int)]:List Int),([(4:Int),(-6:Int),(4:Int),(-1:Int)]:List Int)]:List (List Int)) (Int.toNat x) ([]:(List Int))) else none
end Go.Ab
namespace Go.Ab
open Go.Proofs
set_option maxRecDepth 100000
set_option linter.unusedVariables false
def S_r14_pascal:FSem:=⟨[.v (.int .i64)],[.v (.list false (.int .i64))],F_r14_pascal⟩
def H143:Hints:=⟨[],[],[]⟩
def F_r14_FixedBack_l0 (st:((List Int)×(Int×Z65))):Option (((List Int)×(Int×Z65)) ⊕ Z96):= bif decide (st.2.2.2.2.2.1<st.2.1) then ((gidx st.2.2.1 st.2.2.2.2.2.1).bind fun x7=> bif (decide ((0:Int)≤(IntKind.wrap .i64 ((IntKind.wrap .i64 (((List.length st.2.2.2.2.2.2.1:Nat):Int)-(1:Int)))-st.2.2.2.2.2.1))))&&(decide ((IntKind.wrap .i64 ((IntKind.wrap .i64 (((List.length st.2.2.2.2.2.2.1:Nat):Int)-(1:Int)))-st.2.2.2.2.2.1))<((List.length st.2.2.2.2.2.2.1:Nat):Int))) then some (.inl (st.1,(st.2.1,(st.2.2.1,(st.2.2.2.1,(IntKind.wrap .i64 (st.2.2.2.2.1+(IntKind.wrap .i64 (x7*(List.getD st.2.2.2.2.2.2.1 (Int.toNat (IntKind.wrap .i64 ((IntKind.wrap .i64 (((List.length st.2.2.2.2.2.2.1:Nat):Int)-(1:Int)))-st.2.2.2.2.2.1))) (0:Int))))),(IntKind.wrap .i64 (st.2.2.2.2.2.1+(1:Int)),(st.2.2.2.2.2.2.1,())))))))) else none) else some (.inr (st.1,(st.2.1,(st.2.2.1,(st.2.2.2.1,(st.2.2.2.2.1,(st.2.2.2.2.2.2.1,())))))))
def F_r14_FixedBack_l1 (st:((List Int)×(Int×Z26))):Option (((List Int)×(Int×Z26)) ⊕ Z49):= bif decide (st.2.2.2.1<((List.length st.1:Nat):Int)) then ((gidx st.1 st.2.2.2.1).bind fun x6=> (iter F_r14_FixedBack_l0 (st.1,(st.2.1,(st.2.2.1,(st.2.2.2.1,(x6,((0:Int),(st.2.2.2.2.1,())))))))).bind fun w8=> (F_r2_Wide w8.2.2.2.2.1).bind fun y9=> bif !y9 then some (.inr (Sum.inr (((6:Int),(([]:(List Int)),()))))) else (bif lim ((List.length w8.2.2.2.2.2.1)+1) then some (.inl (w8.1,(w8.2.1,(w8.2.2.1,(IntKind.wrap .i64 (w8.2.2.2.1+(1:Int)),(List.append w8.2.2.2.2.2.1 ([w8.2.2.2.2.1]:List Int),())))))) else none)) else some (.inr (Sum.inl (st.2.2.2.2.1,())))
def F_r14_FixedBack (x:Z11):Option ((List Int)×Int):= (show Option Z50 from bif decide (x.2.2<(0:Int)) then some (x.1,(x.2.1,(x.2.2,(true,())))) else (bif decide (x.2.2 > (4:Int)) then some (x.1,(x.2.1,(x.2.2,(true,())))) else some (x.1,(x.2.1,(x.2.2,(((List.length x.1:Nat):Int) != x.2.2,())))))).bind fun z1=> bif z1.2.2.2.1 then some (([]:(List Int)),(1:Int)) else ((show Option Z50 from (F_r2_AllWide z1.1).bind fun y2=> bif !y2 then some (z1.1,(z1.2.1,(z1.2.2.1,(true,())))) else ((F_r2_AllWide z1.2.1).bind fun y3=> some (z1.1,(z1.2.1,(z1.2.2.1,(!y3,())))))).bind fun z4=> bif z4.2.2.2.1 then some (([]:(List Int)),(6:Int)) else (bif lim (0+(List.length z4.1)) then ((F_r14_pascal z4.2.2.1).bind fun y5=> (iter F_r14_FixedBack_l1 (z4.2.1,(z4.2.2.1,(y5,((0:Int),(List.append ([]:List Int) z4.1,())))))).bind fun w10=> match w10 with |.inl a11=>some (a11.1,(0:Int)) |.inr b12=>some (b12.2.1,b12.1)) else none))
def S_r14_FixedBack:FSem:=⟨[.v (.list false (.int .i64)),.v (.list false (.int .i64)),.v (.int .i64)],[.o (.int .i64),.v (.int .i64)],F_r14_FixedBack⟩
def H89:Hints:=⟨[(250,[.sv 1 (.list false (.int .i64)),.sv 2 (.int .i64),.sv 9 (.list false (.int .i64)),.sv 10 (.int .i64),.own 8 8 (.int .i64)],[(.exit 0,[.own 8 8 (.int .i64)]),(.ret,[.sv 7 (.int .i64),.own 6 6 (.int .i64)])]),(64074,[.sv 1 (.list false (.int .i64)),.sv 2 (.int .i64),.sv 9 (.list false (.int .i64)),.sv 10 (.int .i64),.sv 11 (.int .i64),.sv 12 (.int .i64),.own 8 8 (.int .i64)],[(.exit 2,[.sv 1 (.list false (.int .i64)),.sv 2 (.int .i64),.sv 9 (.list false (.int .i64)),.sv 10 (.int .i64),.sv 11 (.int .i64),.own 8 8 (.int .i64)])])],[(6,[(.normal,[.sv 0 (.list false (.int .i64)),.sv 1 (.list false (.int .i64)),.sv 2 (.int .i64),.sv 24 .bool])]),(14,[(.normal,[.sv 0 (.list false (.int .i64)),.sv 1 (.list false (.int .i64)),.sv 2 (.int .i64),.sv 32 .bool])])],[(13,[.v,.v,.v,.v,.v,.q,.q,.q,.v,.v,.v,.q,.q,.v,.x,.x])]⟩
def F_r14_LinearGuess_l0 (st:Z64):Option (Z64 ⊕ ((Int×(Int×Unit)) ⊕ (Int×Unit))):= bif decide (st.2.2.2.2.1<((List.length st.2.1:Nat):Int)) then (bif decide (st.2.2.2.2.1<((List.length st.1:Nat):Int)) then ((gidx st.1 (IntKind.wrap .i64 ((IntKind.wrap .i64 (((List.length st.1:Nat):Int)-(1:Int)))-st.2.2.2.2.1))).bind fun x2=> (F_r2_Wide x2).bind fun y3=> bif !y3 then some (.inr (Sum.inr (((0:Int),())))) else ((gidx st.2.1 st.2.2.2.2.1).bind fun x4=> some (.inl (st.1,(st.2.1,(st.2.2.1,(IntKind.wrap .i64 (st.2.2.2.1+(IntKind.wrap .i64 (x4*x2))),(IntKind.wrap .i64 (st.2.2.2.2.1+(1:Int)),())))))))) else some (.inr (Sum.inl (st.2.2.1,(st.2.2.2.1,()))))) else some (.inr (Sum.inl (st.2.2.1,(st.2.2.2.1,()))))
def F_r14_LinearGuess (x:Z11):Option Int:= (F_r14_LinearMay (x.2.1,x.2.2)).bind fun y1=> bif !y1 then some (0:Int) else ((iter F_r14_LinearGuess_l0 (x.1,(x.2.1,(x.2.2,((0:Int),((0:Int),())))))).bind fun w5=> match w5 with |.inl a6=>(bif decide ((IntKind.wrap .u64 a6.1)<0) then none else some (gshr .i64 a6.2.1 (IntKind.wrap .u64 a6.1))) |.inr b7=>some b7.1)
def S_r14_LinearGuess:FSem:=⟨[.v (.list false (.int .i64)),.v (.list false (.int .i64)),.v (.int .i64)],[.v (.int .i64)],F_r14_LinearGuess⟩
def H144:Hints:=⟨[(122,[.sv 0 (.list false (.int .i64)),.sv 1 (.list false (.int .i64)),.sv 2 (.int .i64),.sv 7 (.int .i64),.sv 8 (.int .i64)],[(.exit 0,[.sv 2 (.int .i64),.sv 7 (.int .i64)]),(.ret,[.sv 6 (.int .i64)])])],[],[]⟩
def F_r14_LinearBack_l0 (st:Z78):Option (Z78 ⊕ Z49):= bif decide (st.2.2.2.1<((List.length st.1:Nat):Int)) then ((gidx st.1 st.2.2.2.1).bind fun x6=> (F_r14_LinearGuess (st.2.2.2.2.1,(st.2.1,st.2.2.1))).bind fun y7=> (F_r2_Wide (IntKind.wrap .i64 (x6+y7))).bind fun y8=> bif !y8 then some (.inr (Sum.inr (((6:Int),(([]:(List Int)),()))))) else (bif lim ((List.length st.2.2.2.2.1)+1) then some (.inl (st.1,(st.2.1,(st.2.2.1,(IntKind.wrap .i64 (st.2.2.2.1+(1:Int)),(List.append st.2.2.2.2.1 ([IntKind.wrap .i64 (x6+y7)]:List Int),())))))) else none)) else some (.inr (Sum.inl (st.2.2.2.2.1,())))
def F_r14_LinearBack (x:((List Int)×Z11)):Option ((List Int)×Int):= (show Option Z82 from (F_r14_LinearMay (x.2.2.1,x.2.2.2)).bind fun y1=> bif !y1 then some (x.1,(x.2.1,(x.2.2.1,(x.2.2.2,(true,()))))) else some (x.1,(x.2.1,(x.2.2.1,(x.2.2.2,(((List.length x.1:Nat):Int) != ((List.length x.2.2.1:Nat):Int),())))))).bind fun z2=> bif z2.2.2.2.2.1 then some (([]:(List Int)),(1:Int)) else ((show Option Z82 from (F_r2_AllWide z2.1).bind fun y3=> bif !y3 then some (z2.1,(z2.2.1,(z2.2.2.1,(z2.2.2.2.1,(true,()))))) else ((F_r2_AllWide z2.2.1).bind fun y4=> some (z2.1,(z2.2.1,(z2.2.2.1,(z2.2.2.2.1,(!y4,()))))))).bind fun z5=> bif z5.2.2.2.2.1 then some (([]:(List Int)),(6:Int)) else (bif lim (0+(List.length z5.1)) then ((iter F_r14_LinearBack_l0 (z5.2.1,(z5.2.2.1,(z5.2.2.2.1,((0:Int),(List.append ([]:List Int) z5.1,())))))).bind fun w9=> match w9 with |.inl a10=>some (a10.1,(0:Int)) |.inr b11=>some (b11.2.1,b11.1)) else none))
def S_r14_LinearBack:FSem:=⟨[.v (.list false (.int .i64)),.v (.list false (.int .i64)),.v (.list false (.int .i64)),.v (.int .i64)],[.o (.int .i64),.v (.int .i64)],F_r14_LinearBack⟩
def H90:Hints:=⟨[(250,[.sv 1 (.list false (.int .i64)),.sv 2 (.list false (.int .i64)),.sv 3 (.int .i64),.sv 11 (.int .i64),.own 10 10 (.int .i64)],[(.exit 0,[.own 10 10 (.int .i64)]),(.ret,[.sv 9 (.int .i64),.own 8 8 (.int .i64)])])],[(6,[(.normal,[.sv 0 (.list false (.int .i64)),.sv 1 (.list false (.int .i64)),.sv 2 (.list false (.int .i64)),.sv 3 (.int .i64),.sv 23 .bool])]),(14,[(.normal,[.sv 0 (.list false (.int .i64)),.sv 1 (.list false (.int .i64)),.sv 2 (.list false (.int .i64)),.sv 3 (.int .i64),.sv 31 .bool])])],[(9,[.v,.v,.v,.v,.q,.v,.v,.q,.x,.x])]⟩
def F_r14_longGuess_l0 (st:Z65):Option (Z65 ⊕ (Int×Unit)):= bif decide (st.2.2.2.1<(3:Int)) then (bif decide ((IntKind.wrap .i64 ((IntKind.wrap .i64 ((IntKind.wrap .i64 (((List.length st.1:Nat):Int)-st.2.1))-(1:Int)))+st.2.2.2.1))≥(0:Int)) then ((gidx st.2.2.2.2.1 st.2.2.2.1).bind fun x1=> (gidx st.1 (IntKind.wrap .i64 ((IntKind.wrap .i64 ((IntKind.wrap .i64 (((List.length st.1:Nat):Int)-st.2.1))-(1:Int)))+st.2.2.2.1))).bind fun x2=> some (.inl (st.1,(st.2.1,(IntKind.wrap .i64 (st.2.2.1+(IntKind.wrap .i64 (x1*x2))),(IntKind.wrap .i64 (st.2.2.2.1+(1:Int)),(st.2.2.2.2.1,()))))))) else some (.inl (st.1,(st.2.1,(st.2.2.1,(IntKind.wrap .i64 (st.2.2.2.1+(1:Int)),(st.2.2.2.2.1,()))))))) else some (.inr (st.2.2.1,()))
def F_r14_longGuess (x:Z12):Option Int:= (iter F_r14_longGuess_l0 (x.1,(x.2.1,((0:Int),((0:Int),(x.2.2,())))))).bind fun w3=> some (gshr .i64 w3.1 (6:Int))
def S_r14_longGuess:FSem:=⟨[.v (.list false (.int .i64)),.v (.int .i64),.v (.arr 3 (.int .i64))],[.v (.int .i64)],F_r14_longGuess⟩
def H145:Hints:=⟨[(58,[.sv 0 (.list false (.int .i64)),.sv 1 (.int .i64),.sv 7 (.int .i64),.sv 8 (.int .i64),.vp 5 (.arr 3 (.int .i64))],[(.exit 0,[.sv 7 (.int .i64)])])],[],[(7,[.v,.v,.v,.v,.v,.v,.v,.v,.v,.x,.x])]⟩
def F_r14_LongBack_l0 (st:Z77):Option (Z77 ⊕ Z49):= bif decide (st.2.2.1<((List.length st.1:Nat):Int)) then ((gidx st.1 st.2.2.1).bind fun x3=> (F_r14_longGuess (st.2.2.2.1,(st.2.1,st.2.2.2.2.1))).bind fun y4=> (F_r2_Wide (IntKind.wrap .i64 (x3+y4))).bind fun y5=> bif !y5 then some (.inr (Sum.inr (((6:Int),(([]:(List Int)),()))))) else (bif lim ((List.length st.2.2.2.1)+1) then some (.inl (st.1,(st.2.1,(IntKind.wrap .i64 (st.2.2.1+(1:Int)),(List.append st.2.2.2.1 ([IntKind.wrap .i64 (x3+y4)]:List Int),(st.2.2.2.2.1,())))))) else none)) else some (.inr (Sum.inl (st.2.2.2.1,())))
def F_r14_LongBack (x:Z12):Option ((List Int)×Int):= (F_r14_LongMay (x.2.1,x.2.2)).bind fun y1=> bif !y1 then some (([]:(List Int)),(1:Int)) else ((F_r2_AllWide x.1).bind fun y2=> bif !y2 then some (([]:(List Int)),(6:Int)) else ((iter F_r14_LongBack_l0 (x.1,(x.2.1,((0:Int),(([]:(List Int)),(x.2.2,())))))).bind fun w6=> match w6 with |.inl a7=>some (a7.1,(0:Int)) |.inr b8=>some (b8.2.1,b8.1)))
def S_r14_LongBack:FSem:=⟨[.v (.list false (.int .i64)),.v (.int .i64),.v (.arr 3 (.int .i64))],[.o (.int .i64),.v (.int .i64)],F_r14_LongBack⟩
def H91:Hints:=⟨[(250,[.sv 0 (.list false (.int .i64)),.sv 1 (.int .i64),.sv 9 (.int .i64),.own 8 8 (.int .i64),.vp 5 (.arr 3 (.int .i64))],[(.exit 0,[.own 8 8 (.int .i64)]),(.ret,[.sv 7 (.int .i64),.own 6 6 (.int .i64)])])],[],[(9,[.v,.v,.v,.v,.q,.v,.v,.q,.x,.x])]⟩
def F_r14_NewFilter (x:(Int×(Int×Unit))):Option Z46:= (F_r14_StageMay x).bind fun y1=> bif !y1 then none else (bif (decide ((0:Int)≤x.1))&&((decide (x.1≤x.1))&&(lim (Int.toNat x.1))) then (bif (decide ((0:Int)≤x.1))&&((decide (x.1≤x.1))&&(lim (Int.toNat x.1))) then some ((x.2.1,(List.replicate (Int.toNat x.1) (0:Int),(List.replicate (Int.toNat x.1) (0:Int),()))),(0:Int)) else none) else none)
def S_r14_NewFilter:FSem:=⟨[.v Q4],[.b Q8,.v (.int .i64)],F_r14_NewFilter⟩
def H146:Hints:=⟨[],[],[(3,[.v,.v,.v,.v,.q,.v,.v,.q,.x,.x,.x,.x])]⟩
def F_r14_wide (x:Int):Option Int:= some (imin (imax x (-1073741824:Int)) (1073741823:Int))
def S_r14_wide:FSem:=⟨[.v (.int .i64)],[.v (.int .i64)],F_r14_wide⟩
def H183:Hints:=⟨[],[],[]⟩
def F_r14_Filter_Guess_l0 (st:Z86):Option (Z86 ⊕ Z67):= bif decide (st.2.1<((List.length st.2.2.1.2.1:Nat):Int)) then (bif (decide ((0:Int)≤st.2.1))&&(decide (st.2.1<((List.length st.2.2.1.2.1:Nat):Int))) then (bif (decide ((0:Int)≤st.2.1))&&(decide (st.2.1<((List.length st.2.2.1.2.2.1:Nat):Int))) then some (.inl (IntKind.wrap .i64 (st.1+(IntKind.wrap .i64 ((List.getD st.2.2.1.2.1 (Int.toNat st.2.1) (0:Int))*(List.getD st.2.2.1.2.2.1 (Int.toNat st.2.1) (0:Int))))),(IntKind.wrap .i64 (st.2.1+(1:Int)),(st.2.2.1,())))) else none) else none) else some (.inr (st.1,(st.2.2.1,())))
def F_r14_Filter_Guess (x:Z25):Option Z45:= (iter F_r14_Filter_Guess_l0 ((0:Int),((0:Int),(x,())))).bind fun w1=> (F_r14_wide (gshr .i64 w1.1 (16:Int))).bind fun y2=> some (y2,w1.2.1)
def S_r14_Filter_Guess:FSem:=⟨[.r Q8],[.v (.int .i64)],F_r14_Filter_Guess⟩
def H147:Hints:=⟨[(58,[.sv 3 (.int .i64),.sv 4 (.int .i64),.box 1000000 Q8,.ptr 0 1000000 []],[(.exit 0,[.sv 3 (.int .i64),.box 1000000 Q8])])],[],[(5,[.v,.q,.q,.q,.q,.v,.q,.q,.q,.q,.q,.q,.v,.q,.q,.v,.x,.x])]⟩
def F_r14_sign (x:Int):Option Int:= bif decide (x > (0:Int)) then some (1:Int) else (bif decide (x<(0:Int)) then some (-1:Int) else some (0:Int))
def S_r14_sign:FSem:=⟨[.v (.int .i64)],[.v (.int .i64)],F_r14_sign⟩
def H184:Hints:=⟨[],[],[]⟩
def F_r14_Filter_Tell_l0 (st:(Int×(Int×(Int×((List Int)×Z84))))):Option ((Int×(Int×(Int×((List Int)×Z84)))) ⊕ (Int×((List Int)×Z84))):= bif decide (st.2.2.1<((List.length st.2.2.2.2.2.1.2.1:Nat):Int)) then (bif (decide ((0:Int)≤st.2.2.1))&&(decide (st.2.2.1<((List.length st.2.2.2.2.2.1.2.1:Nat):Int))) then (bif (decide ((0:Int)≤st.2.2.1))&&(decide (st.2.2.1<((List.length st.2.2.2.2.2.1.2.2.1:Nat):Int))) then ((F_r14_sign (List.getD st.2.2.2.2.2.1.2.2.1 (Int.toNat st.2.2.1) (0:Int))).bind fun y4=> bif decide ((IntKind.wrap .u64 st.2.2.2.2.2.1.1)<0) then none else (bif lim ((List.length st.2.2.2.1)+1) then some (.inl (st.1,(st.2.1,(IntKind.wrap .i64 (st.2.2.1+(1:Int)),(List.append st.2.2.2.1 ([imin (imax (IntKind.wrap .i64 ((List.getD st.2.2.2.2.2.1.2.1 (Int.toNat st.2.2.1) (0:Int))+(gshl .i64 (IntKind.wrap .i64 (st.2.1*y4)) (IntKind.wrap .u64 st.2.2.2.2.2.1.1)))) (-1048576:Int)) (1048576:Int)]:List Int),(st.2.2.2.2.1,(st.2.2.2.2.2.1,()))))))) else none)) else none) else none) else some (.inr (st.1,(st.2.2.2.1,(st.2.2.2.2.1,(st.2.2.2.2.2.1,())))))
def F_r14_Filter_Tell (x:Z46):Option Z25:= (F_r14_wide x.2).bind fun y1=> (F_r14_Filter_Guess x.1).bind fun y2=> (F_r14_sign (IntKind.wrap .i64 (y1-y2.1))).bind fun y3=> (iter F_r14_Filter_Tell_l0 (y1,(y3,((0:Int),(([]:(List Int)),(([]:(List Int)),(y2.2,()))))))).bind fun w5=> bif lim ((List.length w5.2.2.1)+1) then (bif (decide ((0:Int)≤(IntKind.wrap .i64 (((List.length w5.2.2.2.1.2.2.1:Nat):Int)-(1:Int)))))&&(decide ((IntKind.wrap .i64 (((List.length w5.2.2.2.1.2.2.1:Nat):Int)-(1:Int)))≤((List.length w5.2.2.2.1.2.2.1:Nat):Int))) then (bif lim ((List.length (List.append w5.2.2.1 ([w5.1]:List Int)))+(List.length (List.take (Int.toNat (IntKind.wrap .i64 (((List.length w5.2.2.2.1.2.2.1:Nat):Int)-(1:Int)))) (List.drop 0 w5.2.2.2.1.2.2.1)))) then some (w5.2.2.2.1.1,(w5.2.1,(List.append (List.append w5.2.2.1 ([w5.1]:List Int)) (List.take (Int.toNat (IntKind.wrap .i64 (((List.length w5.2.2.2.1.2.2.1:Nat):Int)-(1:Int)))) (List.drop 0 w5.2.2.2.1.2.2.1)),w5.2.2.2.1.2.2.2))) else none) else none) else none
def S_r14_Filter_Tell:FSem:=⟨[.r Q8,.v (.int .i64)],[],F_r14_Filter_Tell⟩
def H148:Hints:=⟨[(122,[.sv 1 (.int .i64),.sv 4 (.int .i64),.sv 7 (.int .i64),.own 5 5 (.int .i64),.own 6 6 (.int .i64),.box 1000000 Q8,.ptr 0 1000000 []],[(.exit 0,[.sv 1 (.int .i64),.own 5 5 (.int .i64),.own 6 6 (.int .i64),.box 1000000 Q8,.ptr 0 1000000 []])])],[],[(6,[.q,.q,.q,.q,.q,.v,.q,.q,.v,.q,.q,.q,.q,.v,.q,.q,.v,.v,.q,.q,.q,.q,.v,.v,.v,.v,.v,.q,.x,.x]),(7,[.q,.v,.q,.w [6,55,56],.r [57,1000000],.r [58,1000000],.r [59,1000000],.r [60,1000000],.r [61,1000000],.r [62,1000000],.r [63,1000000],.r [64,1000000],.r [65,1000000],.v,.r [67,1000000],.x,.x])]⟩
def F_r14_LearnBack_l0 (st:(Z4×Z112)):Option ((Z4×Z112) ⊕ ((Z4×Z5) ⊕ Z5)):= bif decide (st.2.2.1<((List.length st.2.2.2.1:Nat):Int)) then (bif (decide ((0:Int)≤st.2.2.1))&&(decide (st.2.2.1<((List.length st.2.2.2.1:Nat):Int))) then ((F_r14_Filter_Guess st.2.2.2.2.1).bind fun y5=> (F_r2_Wide (IntKind.wrap .i64 ((List.getD st.2.2.2.1 (Int.toNat st.2.2.1) (0:Int))+y5.1))).bind fun y6=> bif !y6 then some (.inr (Sum.inr (((6:Int),(([]:(List Int)),()))))) else (bif (decide ((0:Int)≤st.2.2.1))&&(decide (st.2.2.1<((List.length st.2.2.2.1:Nat):Int))) then ((F_r14_Filter_Tell (y5.2,IntKind.wrap .i64 ((List.getD st.2.2.2.1 (Int.toNat st.2.2.1) (0:Int))+y5.1))).bind fun y7=> some (.inl (st.1,(st.2.1,(IntKind.wrap .i64 (st.2.2.1+(1:Int)),(List.set st.2.2.2.1 (Int.toNat st.2.2.1) (IntKind.wrap .i64 ((List.getD st.2.2.2.1 (Int.toNat st.2.2.1) (0:Int))+y5.1)),(y7,()))))))) else none)) else none) else some (.inr (Sum.inl (st.1,(st.2.1,(st.2.2.2.1,())))))
def F_r14_LearnBack_l1 (st:(Z4×Z5)):Option ((Z4×Z5) ⊕ Z49):= bif decide (st.2.1≥(0:Int)) then ((gidx st.1 st.2.1).bind fun x3=> (F_r14_NewFilter x3).bind fun y4=> (iter F_r14_LearnBack_l0 (st.1,(st.2.1,((0:Int),(st.2.2.1,(y4.1,())))))).bind fun w8=> match w8 with |.inl a9=>some (.inl (a9.1,(IntKind.wrap .i64 (a9.2.1-(1:Int)),(a9.2.2.1,())))) |.inr b10=>some (.inr (Sum.inr ((b10.1,(b10.2.1,())))))) else some (.inr (Sum.inl (st.2.2.1,())))
def F_r14_LearnBack (x:Z27):Option ((List Int)×Int):= (F_r14_LearnMay x.2).bind fun y1=> bif !y1 then some (([]:(List Int)),(1:Int)) else ((F_r2_AllWide x.1).bind fun y2=> bif !y2 then some (([]:(List Int)),(6:Int)) else (bif lim (0+(List.length x.1)) then ((iter F_r14_LearnBack_l1 (x.2,(IntKind.wrap .i64 (((List.length x.2:Nat):Int)-(1:Int)),(List.append ([]:List Int) x.1,())))).bind fun w11=> match w11 with |.inl a12=>some (a12.1,(0:Int)) |.inr b13=>some (b13.2.1,b13.1)) else none))
def S_r14_LearnBack:FSem:=⟨[.v (.list false (.int .i64)),.v (.list false Q4)],[.o (.int .i64),.v (.int .i64)],F_r14_LearnBack⟩
def H92:Hints:=⟨[(250,[.sv 1 (.list false Q4),.sv 7 (.int .i64),.own 6 6 (.int .i64)],[(.exit 0,[.own 6 6 (.int .i64)]),(.ret,[.sv 5 (.int .i64),.own 4 4 (.int .i64)])]),(32038,[.sv 1 (.list false Q4),.sv 7 (.int .i64),.sv 10 (.int .i64),.own 6 6 (.int .i64),.box 1033 Q8,.ptr 8 1033 []],[(.exit 2,[.sv 1 (.list false Q4),.sv 7 (.int .i64),.own 6 6 (.int .i64)]),(.ret,[.sv 5 (.int .i64),.own 4 4 (.int .i64)])])],[],[(13,[.r [6,42],.v,.r [6,44],.r [6,45],.q,.w [47,1033,1047],.x,.x])]⟩
def F_r19_back (x:Z170):Option ((List Int)×Int):= bif x.1==(2:Int) then ((F_r14_FixedBack (x.2.2.2.2.2.2.2.2.1,(x.2.2.2.2.2.2.2.2.2.2.1,x.2.2.1))).bind fun y1=> some (y1.1,y1.2)) else (bif x.1==(3:Int) then ((F_r14_LinearBack (x.2.2.2.2.2.2.2.2.1,(x.2.2.2.2.2.2.2.2.2.2.1,(x.2.2.2.2.2.1,x.2.2.2.1)))).bind fun y2=> some (y2.1,y2.2)) else (bif x.1==(4:Int) then ((F_r14_LinearBack (x.2.2.2.2.2.2.2.2.1,(x.2.2.2.2.2.2.2.2.2.2.1,(x.2.2.2.2.2.1,x.2.2.2.1)))).bind fun y3=> bif y3.2 != (0:Int) then some (([]:(List Int)),y3.2) else ((F_r14_LongBack (y3.1,(x.2.2.2.2.1,x.2.2.2.2.2.2.1))).bind fun y4=> some (y4.1,y4.2))) else (bif x.1==(5:Int) then ((F_r14_LearnBack (x.2.2.2.2.2.2.2.2.2.2.1,x.2.2.2.2.2.2.2.1)).bind fun y5=> some (y5.1,y5.2)) else some (x.2.2.2.2.2.2.2.2.1,(0:Int)))))
def S_r19_back:FSem:=⟨[.v Q18],[.v (.list false (.int .i64)),.v (.int .i64)],F_r19_back⟩
def H43:Hints:=⟨[],[],[]⟩
def F_r19_SubRow_l0 (st:Z191):Option (Z191 ⊕ ((List Int)×Unit)):= bif decide (st.2.1<st.1) then ((gidx st.2.2.2.1.2.2.2.2.2.2.2.2.1 (0:Int)).bind fun x11=> bif (decide ((0:Int)≤st.2.1))&&(decide (st.2.1<((List.length st.2.2.1:Nat):Int))) then some (.inl (st.1,(IntKind.wrap .i64 (st.2.1+(1:Int)),(List.set st.2.2.1 (Int.toNat st.2.1) x11,(st.2.2.2.1,()))))) else none) else some (.inr (st.2.2.1,()))
def F_r19_SubRow (x:Z172):Option ((List Int)×Bool):= (show Option Z183 from bif decide (x.2<(1:Int)) then some (x.2,(true,(x.1,()))) else (bif decide (x.2 > (4096:Int)) then some (x.2,(true,(x.1,()))) else (bif decide (x.1.1<(0:Int)) then some (x.2,(true,(x.1,()))) else (bif decide (x.1.1 > (5:Int)) then some (x.2,(true,(x.1,()))) else ((F_r19_named x.1).bind fun y1=> (F_r19_SameSub (x.1,y1)).bind fun y2=> bif !y2 then some (x.2,(true,(x.1,()))) else (bif decide (x.1.2.1<(0:Int)) then some (x.2,(true,(x.1,()))) else some (x.2,(decide (x.1.2.1 > (30:Int)),(x.1,()))))))))).bind fun z3=> bif z3.2.1 then some (([]:(List Int)),false) else ((F_r19_warms (z3.2.2.1,z3.1)).bind fun y4=> (show Option Z189 from bif decide (y4<(0:Int)) then some (z3.1,(y4,(true,(z3.2.2.1,())))) else (bif ((List.length z3.2.2.1.2.2.2.2.2.2.2.2.1:Nat):Int) != y4 then some (z3.1,(y4,(true,(z3.2.2.1,())))) else ((F_r2_AllWide z3.2.2.1.2.2.2.2.2.2.2.2.1).bind fun y5=> bif !y5 then some (z3.1,(y4,(true,(z3.2.2.1,())))) else ((F_r2_AllWide z3.2.2.1.2.2.2.2.2.2.2.2.2.2.1).bind fun y6=> some (z3.1,(y4,(!y6,(z3.2.2.1,())))))))).bind fun z7=> bif z7.2.2.1 then some (([]:(List Int)),false) else ((show Option Z183 from (F_r19_guessed z7.2.2.2.1.1).bind fun y8=> bif y8 then (bif ((List.length z7.2.2.2.1.2.2.2.2.2.2.2.2.2.2.1:Nat):Int) != (IntKind.wrap .i64 (z7.1-z7.2.1)) then some (z7.1,(true,(z7.2.2.2.1,()))) else ((F_r8_PartsMay (z7.2.2.2.1.2.2.2.2.2.2.2.2.2.1,(z7.1,z7.2.1))).bind fun y9=> some (z7.1,(!y9,(z7.2.2.2.1,()))))) else some (z7.1,(false,(z7.2.2.2.1,())))).bind fun z10=> bif z10.2.1 then some (([]:(List Int)),false) else (bif z10.2.2.1.1==(0:Int) then (bif (decide ((0:Int)≤z10.1))&&((decide (z10.1≤z10.1))&&(lim (Int.toNat z10.1))) then ((iter F_r19_SubRow_l0 (z10.1,((0:Int),(List.replicate (Int.toNat z10.1) (0:Int),(z10.2.2.1,()))))).bind fun w12=> some (w12.1,true)) else none) else ((F_r19_back z10.2.2.1).bind fun y13=> bif y13.2 != (0:Int) then some (([]:(List Int)),false) else ((F_r2_Up (y13.1,z10.2.2.1.2.1)).bind fun y14=> some (y14.1,y14.2==(0:Int)))))))
def S_r19_SubRow:FSem:=⟨[.v Q18,.v (.int .i64)],[.o (.int .i64),.v .bool],F_r19_SubRow⟩
def H13:Hints:=⟨[(8106,[.sv 1 (.int .i64),.sv 8 (.int .i64),.own 7 7 (.int .i64),.vp 2 Q18],[(.exit 0,[.own 7 7 (.int .i64)])])],[(6,[(.normal,[.sv 1 (.int .i64),.sv 45 .bool,.vp 2 Q18])]),(30,[(.normal,[.sv 1 (.int .i64),.sv 6 (.int .i64),.sv 69 .bool,.vp 2 Q18])]),(62,[(.normal,[.sv 1 (.int .i64),.sv 89 .bool,.vp 2 Q18])])],[(1,[.x,.x,.x,.x,.x,.x,.x,.x,.x,.x,.x,.x,.x,.x,.x,.x,.x,.v,.v,.v,.x,.x,.x,.x,.x,.x,.x,.x,.x,.x,.x,.x,.x])]⟩
def F_r19_SubMay (x:Z172):Option Bool:= (F_r19_SubRow (x.1,x.2)).bind fun y1=> some y1.2
def S_r19_SubMay:FSem:=⟨[.v Q18,.v (.int .i64)],[.v .bool],F_r19_SubMay⟩
def H61:Hints:=⟨[],[],[]⟩
def F_r2_Low (x:Int):Option Int:= (show Option (Int×(Bool×Unit)) from bif decide (x<(1:Int)) then some (x,(true,())) else some (x,(decide (x > (31:Int)),()))).bind fun z1=> bif z1.2.1 then some (0:Int) else (bif decide ((IntKind.wrap .u64 (IntKind.wrap .i64 (z1.1-(1:Int))))<0) then none else some (gshl .i64 (-1:Int) (IntKind.wrap .u64 (IntKind.wrap .i64 (z1.1-(1:Int))))))
def S_r2_Low:FSem:=⟨[.v (.int .i64)],[.v (.int .i64)],F_r2_Low⟩
def H172:Hints:=⟨[],[(6,[(.normal,[.sv 0 (.int .i64),.sv 8 .bool])])],[]⟩
def F_r2_High (x:Int):Option Int:= (show Option (Int×(Bool×Unit)) from bif decide (x<(1:Int)) then some (x,(true,())) else some (x,(decide (x > (31:Int)),()))).bind fun z1=> bif z1.2.1 then some (0:Int) else (bif decide ((IntKind.wrap .u64 (IntKind.wrap .i64 (z1.1-(1:Int))))<0) then none else some (IntKind.wrap .i64 ((gshl .i64 (1:Int) (IntKind.wrap .u64 (IntKind.wrap .i64 (z1.1-(1:Int)))))-(1:Int))))
def S_r2_High:FSem:=⟨[.v (.int .i64)],[.v (.int .i64)],F_r2_High⟩
def H173:Hints:=⟨[],[(6,[(.normal,[.sv 0 (.int .i64),.sv 8 .bool])])],[]⟩
def F_r2_Fits (x:(Int×Int)):Option Bool:= bif decide (x.2≥(1:Int)) then (bif decide (x.2≤(31:Int)) then ((F_r2_Low x.2).bind fun y1=> bif decide (x.1≥y1) then ((F_r2_High x.2).bind fun y2=> some (decide (x.1≤y2))) else some false) else some false) else some false
def S_r2_Fits:FSem:=⟨[.v (.int .i64),.v (.int .i64)],[.v .bool],F_r2_Fits⟩
def H110:Hints:=⟨[],[],[]⟩
def F_r2_Width_l0 (st:Z14):Option (Z14 ⊕ Z14):= bif decide (st.2.1<(32:Int)) then ((gidx st.1 st.2.2.1).bind fun x1=> bif x1 != (0:Int) then ((gidx st.1 st.2.2.1).bind fun x2=> (F_r2_Fits (x2,st.2.1)).bind fun y3=> bif !y3 then some (.inl (st.1,(IntKind.wrap .i64 (st.2.1+(1:Int)),(st.2.2.1,())))) else some (.inr (st.1,(st.2.1,(st.2.2.1,()))))) else some (.inr (st.1,(st.2.1,(st.2.2.1,()))))) else some (.inr (st.1,(st.2.1,(st.2.2.1,()))))
def F_r2_Width_l1 (st:Z14):Option (Z14 ⊕ (Int×Unit)):= bif decide (st.2.2.1<((List.length st.1:Nat):Int)) then ((iter F_r2_Width_l0 (st.1,(st.2.1,(st.2.2.1,())))).bind fun w4=> some (.inl (w4.1,(w4.2.1,(IntKind.wrap .i64 (w4.2.2.1+(1:Int)),()))))) else some (.inr (st.2.1,()))
def F_r2_Width (x:(List Int)):Option Int:= (iter F_r2_Width_l1 (x,((0:Int),((0:Int),())))).bind fun w5=> some w5.1
def S_r2_Width:FSem:=⟨[.v (.list false (.int .i64))],[.v (.int .i64)],F_r2_Width⟩
def H62:Hints:=⟨[(58,[.sv 0 (.list false (.int .i64)),.sv 3 (.int .i64),.sv 4 (.int .i64)],[(.exit 0,[.sv 3 (.int .i64)])]),(1864,[.sv 0 (.list false (.int .i64)),.sv 3 (.int .i64),.sv 4 (.int .i64)],[(.exit 2,[.sv 0 (.list false (.int .i64)),.sv 3 (.int .i64),.sv 4 (.int .i64)])])],[],[]⟩
def F_r8_PutSigned_l0 (st:((List Int)×Z38)):Option (((List Int)×Z38) ⊕ Z9):= bif decide (st.2.2.1<((List.length st.1:Nat):Int)) then ((gidx st.1 st.2.2.1).bind fun x2=> bif decide ((IntKind.wrap .u64 st.2.1)<0) then none else ((F_r2_Writer_Put (st.2.2.2.1,(bits .u64 .and (IntKind.wrap .u64 x2) (IntKind.wrap .u64 ((gshl .u64 (1:Int) (IntKind.wrap .u64 st.2.1))-(1:Int))),st.2.1))).bind fun y3=> some (.inl (st.1,(st.2.1,(IntKind.wrap .i64 (st.2.2.1+(1:Int)),(y3.2,()))))))) else some (.inr (st.2.2.2.1,()))
def F_r8_PutSigned (x:(((List Int)×Unit)×((List Int)×Int))):Option ((List Int)×Unit):= (iter F_r8_PutSigned_l0 (x.2.1,(x.2.2,((0:Int),(x.1,()))))).bind fun w4=> some w4.1
def S_r8_PutSigned:FSem:=⟨[.r Q1,.v (.list false (.int .i64)),.v (.int .i64)],[],F_r8_PutSigned⟩
def H64:Hints:=⟨[(6,[.sv 1 (.list false (.int .i64)),.sv 2 (.int .i64),.sv 6 (.int .i64),.box 1000000 Q1,.ptr 0 1000000 []],[(.exit 0,[.box 1000000 Q1])])],[],[]⟩
def F_r19_putLinear (x:(((List Int)×Unit)×Z170)):Option ((List Int)×Unit):= (F_r2_Writer_Put (x.1,(IntKind.wrap .u64 (IntKind.wrap .i64 (((List.length x.2.2.2.2.2.2.1:Nat):Int)-(1:Int))),(5:Int)))).bind fun y1=> (F_r2_Writer_Put (y1.2,(IntKind.wrap .u64 x.2.2.2.2.1,(4:Int)))).bind fun y2=> (F_r2_Width x.2.2.2.2.2.2.1).bind fun y3=> (F_r2_Writer_Put (y2.2,(IntKind.wrap .u64 y3,(5:Int)))).bind fun y4=> (F_r8_PutSigned (y4.2,(x.2.2.2.2.2.2.1,y3))).bind fun y5=> some y5
def S_r19_putLinear:FSem:=⟨[.r Q1,.v Q18],[],F_r19_putLinear⟩
def H63:Hints:=⟨[],[],[]⟩
def F_r2_Zig (x:Int):Option Int:= (show Option (Int×Unit) from bif decide (x<(0:Int)) then some (bits .u64 .xor (IntKind.max .u64) (gshl .u64 (IntKind.wrap .u64 x) (1:Int)),()) else some (gshl .u64 (IntKind.wrap .u64 x) (1:Int),())).bind fun z1=> some z1.1
def S_r2_Zig:FSem:=⟨[.v (.int .i64)],[.v (.int .u64)],F_r2_Zig⟩
def H196:Hints:=⟨[],[(7,[(.normal,[.sv 3 (.int .u64)])])],[]⟩
def F_r8_Fold (x:Int):Option Int:= (F_r2_Wide x).bind fun y1=> bif !y1 then some (0:Int) else ((F_r2_Zig x).bind fun y2=> some y2)
def S_r8_Fold:FSem:=⟨[.v (.int .i64)],[.v (.int .u64)],F_r8_Fold⟩
def H175:Hints:=⟨[],[],[]⟩
def F_r8_RiceCost (x:(Int×Int)):Option Int:= (show Option Z10 from (F_r8_parameter x.1).bind fun y1=> bif !y1 then some (x.1,(x.2,(true,()))) else ((F_r2_Wide x.2).bind fun y2=> some (x.1,(x.2,(!y2,()))))).bind fun z3=> bif z3.2.2.1 then some (0:Int) else ((F_r8_Fold z3.2.1).bind fun y4=> bif decide ((IntKind.wrap .u64 z3.1)<0) then none else (bif decide ((IntKind.wrap .i64 (gshr .u64 y4 (IntKind.wrap .u64 z3.1)))<(32:Int)) then some (IntKind.wrap .i64 ((IntKind.wrap .i64 ((IntKind.wrap .i64 (gshr .u64 y4 (IntKind.wrap .u64 z3.1)))+(1:Int)))+z3.1)) else some (65:Int)))
def S_r8_RiceCost:FSem:=⟨[.v (.int .i64),.v (.int .i64)],[.v (.int .i64)],F_r8_RiceCost⟩
def H201:Hints:=⟨[],[(6,[(.normal,[.sv 0 (.int .i64),.sv 1 (.int .i64),.sv 13 .bool])])],[]⟩
def F_r8_RiceSum_l0 (st:Z29):Option Z71:= bif decide (st.2.2.2.1<((List.length st.2.1:Nat):Int)) then ((gidx st.2.1 st.2.2.2.1).bind fun x1=> (F_r8_RiceCost (st.1,x1)).bind fun y2=> some (.inl (st.1,(st.2.1,(IntKind.wrap .i64 (st.2.2.1+y2),(IntKind.wrap .i64 (st.2.2.2.1+(1:Int)),())))))) else some (.inr (st.2.2.1,()))
def F_r8_RiceSum (x:(Int×(List Int))):Option Int:= (iter F_r8_RiceSum_l0 (x.1,(x.2,((0:Int),((0:Int),()))))).bind fun w3=> some w3.1
def S_r8_RiceSum:FSem:=⟨[.v (.int .i64),.v (.list false (.int .i64))],[.v (.int .i64)],F_r8_RiceSum⟩
def H194:Hints:=⟨[(58,[.sv 0 (.int .i64),.sv 1 (.list false (.int .i64)),.sv 5 (.int .i64),.sv 6 (.int .i64)],[(.exit 0,[.sv 5 (.int .i64)])])],[],[]⟩
def F_r8_partCost (x:(Int×(List Int))):Option Int:= bif x.1==(31:Int) then ((F_r2_Width x.2).bind fun y1=> some (IntKind.wrap .i64 ((5:Int)+(IntKind.wrap .i64 (((List.length x.2:Nat):Int)*y1))))) else ((F_r8_RiceSum (x.1,x.2)).bind fun y2=> some y2)
def S_r8_partCost:FSem:=⟨[.v (.int .i64),.v (.list false (.int .i64))],[.v (.int .i64)],F_r8_partCost⟩
def H174:Hints:=⟨[],[],[]⟩
def F_r8_PartsCost_l0 (st:Z122):Option (Z122 ⊕ (Int×Unit)):= bif decide (st.2.2.2.1<((List.length st.2.2.2.2.1:Nat):Int)) then ((gidx st.2.2.2.2.2.1.2.1 st.2.2.2.1).bind fun x5=> bif (decide ((0:Int)≤st.2.2.2.1))&&(decide (st.2.2.2.1<((List.length st.2.2.2.2.1:Nat):Int))) then (bif (decide ((0:Int)≤(IntKind.wrap .i64 (st.2.2.1+(List.getD st.2.2.2.2.1 (Int.toNat st.2.2.2.1) (0:Int))))))&&(decide ((IntKind.wrap .i64 (st.2.2.1+(List.getD st.2.2.2.2.1 (Int.toNat st.2.2.2.1) (0:Int))))≤((List.length st.1:Nat):Int))) then (bif (decide ((0:Int)≤st.2.2.1))&&(decide (st.2.2.1≤((Int.toNat (IntKind.wrap .i64 (st.2.2.1+(List.getD st.2.2.2.2.1 (Int.toNat st.2.2.2.1) (0:Int)))):Nat):Int))) then ((F_r8_partCost (x5,List.drop (Int.toNat st.2.2.1) (List.take (Int.toNat (IntKind.wrap .i64 (st.2.2.1+(List.getD st.2.2.2.2.1 (Int.toNat st.2.2.2.1) (0:Int))))) st.1))).bind fun y6=> bif (decide ((0:Int)≤st.2.2.2.1))&&(decide (st.2.2.2.1<((List.length st.2.2.2.2.1:Nat):Int))) then some (.inl (st.1,(IntKind.wrap .i64 ((IntKind.wrap .i64 (st.2.1+(5:Int)))+y6),(IntKind.wrap .i64 (st.2.2.1+(List.getD st.2.2.2.2.1 (Int.toNat st.2.2.2.1) (0:Int))),(IntKind.wrap .i64 (st.2.2.2.1+(1:Int)),(st.2.2.2.2.1,(st.2.2.2.2.2.1,()))))))) else none) else none) else none) else none) else some (.inr (st.2.1,()))
def F_r8_PartsCost (x:Z62):Option Int:= (show Option (Int×(Int×((List Int)×Z40))) from (F_r8_PartsMay (x.1,(x.2.1,x.2.2.1))).bind fun y1=> bif !y1 then some (x.2.1,(x.2.2.1,(x.2.2.2,(true,(x.1,()))))) else (bif ((List.length x.2.2.2:Nat):Int) != (IntKind.wrap .i64 (x.2.1-x.2.2.1)) then some (x.2.1,(x.2.2.1,(x.2.2.2,(true,(x.1,()))))) else ((F_r2_AllWide x.2.2.2).bind fun y2=> some (x.2.1,(x.2.2.1,(x.2.2.2,(!y2,(x.1,())))))))).bind fun z3=> bif z3.2.2.2.1 then some (0:Int) else ((F_r8_PartsSizes (z3.2.2.2.2.1.1,(z3.1,z3.2.1))).bind fun y4=> (iter F_r8_PartsCost_l0 (z3.2.2.1,((4:Int),((0:Int),((0:Int),(y4,(z3.2.2.2.2.1,()))))))).bind fun w7=> some w7.1)
def S_r8_PartsCost:FSem:=⟨[.v Q6,.v (.int .i64),.v (.int .i64),.v (.list false (.int .i64))],[.v (.int .i64)],F_r8_PartsCost⟩
def H111:Hints:=⟨[(250,[.sv 3 (.list false (.int .i64)),.sv 9 (.int .i64),.sv 10 (.int .i64),.sv 12 (.int .i64),.own 11 11 (.int .i64),.vp 4 Q6],[(.exit 0,[.sv 9 (.int .i64)])])],[(6,[(.normal,[.sv 1 (.int .i64),.sv 2 (.int .i64),.sv 3 (.list false (.int .i64)),.sv 30 .bool,.vp 4 Q6])])],[(8,[.v,.v,.v,.v,.v,.v,.v,.v,.v,.v,.q,.v,.q,.q,.v,.v,.v,.x,.x])]⟩
def F_r2_Writer_Unary_l0 (st:Z38):Option (Z38 ⊕ Z9):= bif decide (st.2.1<st.1) then (bif lim ((List.length st.2.2.1.1)+1) then some (.inl (st.1,(IntKind.wrap .i64 (st.2.1+(1:Int)),((List.append st.2.2.1.1 ([(0:Int)]:List Int),st.2.2.1.2),())))) else none) else some (.inr (st.2.2.1,()))
def F_r2_Writer_Unary (x:(((List Int)×Unit)×Int)):Option Z5:= (show Option (Int×(Bool×Z9)) from bif decide (x.2<(0:Int)) then some (x.2,(true,(x.1,()))) else some (x.2,(decide (x.2 > (4096:Int)),(x.1,())))).bind fun z1=> bif z1.2.1 then some ((1:Int),z1.2.2.1) else ((iter F_r2_Writer_Unary_l0 (z1.1,((0:Int),(z1.2.2.1,())))).bind fun w2=> bif lim ((List.length w2.1.1)+1) then some ((0:Int),(List.append w2.1.1 ([(1:Int)]:List Int),w2.1.2)) else none)
def S_r2_Writer_Unary:FSem:=⟨[.r Q1,.v (.int .i64)],[.v (.int .i64)],F_r2_Writer_Unary⟩
def H176:Hints:=⟨[(58,[.sv 1 (.int .i64),.sv 5 (.int .i64),.box 1000000 Q1,.ptr 0 1000000 []],[(.exit 0,[.box 1000000 Q1,.ptr 0 1000000 []])])],[(6,[(.normal,[.sv 1 (.int .i64),.sv 11 .bool,.box 1000000 Q1,.ptr 0 1000000 []])])],[]⟩
def F_r8_RicePut_l0 (st:(Int×((List Int)×Z23))):Option ((Int×((List Int)×Z23)) ⊕ Z9):= bif decide (st.2.2.1<((List.length st.2.1:Nat):Int)) then ((gidx st.2.1 st.2.2.1).bind fun x4=> (F_r8_Fold x4).bind fun y5=> bif decide ((IntKind.wrap .u64 st.1)<0) then none else (bif decide ((IntKind.wrap .i64 (gshr .u64 y5 (IntKind.wrap .u64 st.1)))<(32:Int)) then ((F_r2_Writer_Unary (st.2.2.2.1,IntKind.wrap .i64 (gshr .u64 y5 (IntKind.wrap .u64 st.1)))).bind fun y6=> bif decide ((IntKind.wrap .u64 st.1)<0) then none else ((F_r2_Writer_Put (y6.2,(bits .u64 .and y5 (IntKind.wrap .u64 ((gshl .u64 (1:Int) (IntKind.wrap .u64 st.1))-(1:Int))),st.1))).bind fun y7=> some (.inl (st.1,(st.2.1,(IntKind.wrap .i64 (st.2.2.1+(1:Int)),(y7.2,()))))))) else ((F_r2_Writer_Unary (st.2.2.2.1,(32:Int))).bind fun y8=> (F_r2_Writer_Put (y8.2,(y5,(32:Int)))).bind fun y9=> some (.inl (st.1,(st.2.1,(IntKind.wrap .i64 (st.2.2.1+(1:Int)),(y9.2,())))))))) else some (.inr (st.2.2.2.1,()))
def F_r8_RicePut (x:(((List Int)×Unit)×(Int×(List Int)))):Option Z5:= (show Option (Int×((List Int)×(Bool×Z9))) from (F_r8_parameter x.2.1).bind fun y1=> bif !y1 then some (x.2.1,(x.2.2,(true,(x.1,())))) else ((F_r2_AllWide x.2.2).bind fun y2=> some (x.2.1,(x.2.2,(!y2,(x.1,())))))).bind fun z3=> bif z3.2.2.1 then some ((1:Int),z3.2.2.2.1) else ((iter F_r8_RicePut_l0 (z3.1,(z3.2.1,((0:Int),(z3.2.2.2.1,()))))).bind fun w10=> some ((0:Int),w10.1))
def S_r8_RicePut:FSem:=⟨[.r Q1,.v (.int .i64),.v (.list false (.int .i64))],[.v (.int .i64)],F_r8_RicePut⟩
def H112:Hints:=⟨[(58,[.sv 1 (.int .i64),.sv 2 (.list false (.int .i64)),.sv 7 (.int .i64),.box 1000000 Q1,.ptr 0 1000000 []],[(.exit 0,[.box 1000000 Q1])])],[(6,[(.normal,[.sv 1 (.int .i64),.sv 2 (.list false (.int .i64)),.sv 17 .bool,.box 1000000 Q1,.ptr 0 1000000 []])])],[]⟩
def F_r8_PartsPut_l0 (st:((List Int)×(Int×(Int×((List Int)×(((List Int)×Unit)×Z19)))))):Option (((List Int)×(Int×(Int×((List Int)×(((List Int)×Unit)×Z19))))) ⊕ Z9):= bif decide (st.2.2.1<((List.length st.2.2.2.1:Nat):Int)) then (bif (decide ((0:Int)≤st.2.2.1))&&(decide (st.2.2.1<((List.length st.2.2.2.1:Nat):Int))) then (bif (decide ((0:Int)≤(IntKind.wrap .i64 (st.2.1+(List.getD st.2.2.2.1 (Int.toNat st.2.2.1) (0:Int))))))&&(decide ((IntKind.wrap .i64 (st.2.1+(List.getD st.2.2.2.1 (Int.toNat st.2.2.1) (0:Int))))≤((List.length st.1:Nat):Int))) then (bif (decide ((0:Int)≤st.2.1))&&(decide (st.2.1≤((Int.toNat (IntKind.wrap .i64 (st.2.1+(List.getD st.2.2.2.1 (Int.toNat st.2.2.1) (0:Int)))):Nat):Int))) then ((gidx st.2.2.2.2.2.1.2.1 st.2.2.1).bind fun x4=> (F_r2_Writer_Put (st.2.2.2.2.1,(IntKind.wrap .u64 x4,(5:Int)))).bind fun y5=> (show Option ((List Int)×(Int×(Int×((List Int)×(((List Int)×Unit)×Z19))))) from (gidx st.2.2.2.2.2.1.2.1 st.2.2.1).bind fun x6=> bif x6==(31:Int) then ((F_r2_Width (List.drop (Int.toNat st.2.1) (List.take (Int.toNat (IntKind.wrap .i64 (st.2.1+(List.getD st.2.2.2.1 (Int.toNat st.2.2.1) (0:Int))))) st.1))).bind fun y7=> (F_r2_Writer_Put (y5.2,(IntKind.wrap .u64 y7,(5:Int)))).bind fun y8=> (F_r8_PutSigned (y8.2,(List.drop (Int.toNat st.2.1) (List.take (Int.toNat (IntKind.wrap .i64 (st.2.1+(List.getD st.2.2.2.1 (Int.toNat st.2.2.1) (0:Int))))) st.1),y7))).bind fun y9=> some (st.1,(st.2.1,(st.2.2.1,(st.2.2.2.1,(y9,(st.2.2.2.2.2.1,()))))))) else ((gidx st.2.2.2.2.2.1.2.1 st.2.2.1).bind fun x10=> (F_r8_RicePut (y5.2,(x10,List.drop (Int.toNat st.2.1) (List.take (Int.toNat (IntKind.wrap .i64 (st.2.1+(List.getD st.2.2.2.1 (Int.toNat st.2.2.1) (0:Int))))) st.1)))).bind fun y11=> some (st.1,(st.2.1,(st.2.2.1,(st.2.2.2.1,(y11.2,(st.2.2.2.2.2.1,())))))))).bind fun z12=> bif (decide ((0:Int)≤z12.2.2.1))&&(decide (z12.2.2.1<((List.length z12.2.2.2.1:Nat):Int))) then some (.inl (z12.1,(IntKind.wrap .i64 (z12.2.1+(List.getD z12.2.2.2.1 (Int.toNat z12.2.2.1) (0:Int))),(IntKind.wrap .i64 (z12.2.2.1+(1:Int)),(z12.2.2.2.1,(z12.2.2.2.2.1,(z12.2.2.2.2.2.1,()))))))) else none) else none) else none) else none) else some (.inr (st.2.2.2.2.1,()))
def F_r8_PartsPut (x:(((List Int)×Unit)×Z62)):Option Z5:= (F_r8_PartsCost (x.2.1,(x.2.2.1,(x.2.2.2.1,x.2.2.2.2)))).bind fun y1=> bif y1==(0:Int) then some ((1:Int),x.1) else ((F_r2_Writer_Put (x.1,(IntKind.wrap .u64 x.2.1.1,(4:Int)))).bind fun y2=> (F_r8_PartsSizes (x.2.1.1,(x.2.2.1,x.2.2.2.1))).bind fun y3=> (iter F_r8_PartsPut_l0 (x.2.2.2.2,((0:Int),((0:Int),(y3,(y2.2,(x.2.1,()))))))).bind fun w13=> some ((0:Int),w13.1))
def S_r8_PartsPut:FSem:=⟨[.r Q1,.v Q6,.v (.int .i64),.v (.int .i64),.v (.list false (.int .i64))],[.v (.int .i64)],F_r8_PartsPut⟩
def H65:Hints:=⟨[(250,[.sv 4 (.list false (.int .i64)),.sv 12 (.int .i64),.sv 13 (.int .i64),.own 11 11 (.int .i64),.box 1000000 Q1,.ptr 0 1000000 [],.vp 6 Q6],[(.exit 0,[.box 1000000 Q1])])],[(16019,[(.normal,[.sv 4 (.list false (.int .i64)),.sv 12 (.int .i64),.sv 13 (.int .i64),.own 11 11 (.int .i64),.box 1000000 Q1,.ptr 0 1000000 [],.vp 6 Q6])])],[]⟩
def F_r19_SubPut_l0 (st:(Int×Z195)):Option ((Int×Z195) ⊕ Z195):= bif decide (st.2.2.1<((List.length st.2.2.2.2.1.2.2.2.2.2.2.2.1:Nat):Int)) then ((gidx st.2.2.2.2.1.2.2.2.2.2.2.2.1 st.2.2.1).bind fun x12=> (F_r2_Writer_Put (st.2.2.2.1,(IntKind.wrap .u64 (IntKind.wrap .i64 (x12.1-(1:Int))),(5:Int)))).bind fun y13=> (gidx st.2.2.2.2.1.2.2.2.2.2.2.2.1 st.2.2.1).bind fun x14=> (F_r2_Writer_Put (y13.2,(IntKind.wrap .u64 x14.2.1,(4:Int)))).bind fun y15=> some (.inl (st.1,(st.2.1,(IntKind.wrap .i64 (st.2.2.1+(1:Int)),(y15.2,(st.2.2.2.2.1,()))))))) else some (.inr (st.1,(st.2.1,(st.2.2.2.1,(st.2.2.2.2.1,())))))
def F_r19_SubPut (x:(((List Int)×Unit)×Z172)):Option Z5:= (F_r19_SubMay (x.2.1,x.2.2)).bind fun y1=> bif !y1 then some ((1:Int),x.1) else ((F_r2_Width x.2.1.2.2.2.2.2.2.2.2.1).bind fun y2=> (F_r2_Writer_Put (x.1,(IntKind.wrap .u64 x.2.1.1,(3:Int)))).bind fun y3=> (F_r2_Writer_Put (y3.2,(IntKind.wrap .u64 x.2.1.2.1,(5:Int)))).bind fun y4=> (F_r2_Writer_Put (y4.2,(IntKind.wrap .u64 y2,(5:Int)))).bind fun y5=> (show Option Z195 from bif x.2.1.1==(2:Int) then ((F_r2_Writer_Put (y5.2,(IntKind.wrap .u64 x.2.1.2.2.1,(3:Int)))).bind fun y6=> some (x.2.2,(y2,(y6.2,(x.2.1,()))))) else (bif x.2.1.1==(3:Int) then ((F_r19_putLinear (y5.2,x.2.1)).bind fun y7=> some (x.2.2,(y2,(y7,(x.2.1,()))))) else (bif x.2.1.1==(4:Int) then ((F_r2_Writer_Put (y5.2,(IntKind.wrap .u64 (IntKind.wrap .i64 (x.2.1.2.2.2.2.1-(1:Int))),(10:Int)))).bind fun y8=> (F_r8_PutSigned (y8.2,(List.take 3 x.2.1.2.2.2.2.2.2.1,(8:Int)))).bind fun y9=> (F_r19_putLinear (y9,x.2.1)).bind fun y10=> some (x.2.2,(y2,(y10,(x.2.1,()))))) else (bif x.2.1.1==(5:Int) then ((F_r2_Writer_Put (y5.2,(IntKind.wrap .u64 ((List.length x.2.1.2.2.2.2.2.2.2.1:Nat):Int),(2:Int)))).bind fun y11=> (iter F_r19_SubPut_l0 (x.2.2,(y2,((0:Int),(y11.2,(x.2.1,())))))).bind fun w16=> some (w16.1,(w16.2.1,(w16.2.2.1,(w16.2.2.2.1,()))))) else some (x.2.2,(y2,(y5.2,(x.2.1,())))))))).bind fun z17=> (F_r8_PutSigned (z17.2.2.1,(z17.2.2.2.1.2.2.2.2.2.2.2.2.1,z17.2.1))).bind fun y18=> (F_r19_guessed z17.2.2.2.1.1).bind fun y19=> bif y19 then ((F_r8_PartsPut (y18,(z17.2.2.2.1.2.2.2.2.2.2.2.2.2.1,(z17.1,(((List.length z17.2.2.2.1.2.2.2.2.2.2.2.2.1:Nat):Int),z17.2.2.2.1.2.2.2.2.2.2.2.2.2.2.1))))).bind fun y20=> some ((0:Int),y20.2)) else some ((0:Int),y18))
def S_r19_SubPut:FSem:=⟨[.r Q1,.v Q18,.v (.int .i64)],[.v (.int .i64)],F_r19_SubPut⟩
def H26:Hints:=⟨[(2086902,[.sv 2 (.int .i64),.sv 7 (.int .i64),.sv 8 (.int .i64),.box 1000000 Q1,.ptr 0 1000000 [],.vp 4 Q18],[(.exit 1,[.sv 2 (.int .i64),.sv 7 (.int .i64),.box 1000000 Q1,.ptr 0 1000000 [],.vp 4 Q18])])],[(127,[(.normal,[.sv 2 (.int .i64),.sv 7 (.int .i64),.box 1000000 Q1,.ptr 0 1000000 [],.vp 4 Q18])])],[]⟩
def F_r2_Writer_Len (x:((List Int)×Unit)):Option Z5:= some (((List.length x.1:Nat):Int),x)
def S_r2_Writer_Len:FSem:=⟨[.r Q1],[.v (.int .i64)],F_r2_Writer_Len⟩
def H28:Hints:=⟨[],[],[]⟩
def F_r2_Same (x:((List Int)×(List Int))):Option Bool:= some ((b2s x.1)==(b2s x.2))
def S_r2_Same:FSem:=⟨[.v (.list false (.int .u8)),.v (.list false (.int .u8))],[.v .bool],F_r2_Same⟩
def H29:Hints:=⟨[],[],[]⟩
def F_bits_Writer_Bytes (x:Z3):Option Z28:= bif lim (List.length x.1) then some (x.1,x) else none
def S_bits_Writer_Bytes:FSem:=⟨[.r Q5],[.o (.int .u8)],F_bits_Writer_Bytes⟩
def H30:Hints:=⟨[],[],[]⟩
def F_r2_Writer_Bytes_l0 (st:(Int×((List Int)×Z9))):Option ((Int×((List Int)×Z9)) ⊕ ((List Int)×Z9)):= bif decide (st.1<((List.length st.2.2.1.1:Nat):Int)) then (bif (decide ((0:Int)≤(IntKind.wrap .i64 (Int.tdiv st.1 (8:Int)))))&&(decide ((IntKind.wrap .i64 (Int.tdiv st.1 (8:Int)))<((List.length st.2.1:Nat):Int))) then (bif (decide ((0:Int)≤st.1))&&(decide (st.1<((List.length st.2.2.1.1:Nat):Int))) then (bif decide ((IntKind.wrap .u64 (IntKind.wrap .i64 ((7:Int)-(Int.tmod st.1 (8:Int)))))<0) then none else (bif (decide ((0:Int)≤(IntKind.wrap .i64 (Int.tdiv st.1 (8:Int)))))&&(decide ((IntKind.wrap .i64 (Int.tdiv st.1 (8:Int)))<((List.length st.2.1:Nat):Int))) then some (.inl (IntKind.wrap .i64 (st.1+(1:Int)),(List.set st.2.1 (Int.toNat (IntKind.wrap .i64 (Int.tdiv st.1 (8:Int)))) (bits .u8 .or (List.getD st.2.1 (Int.toNat (IntKind.wrap .i64 (Int.tdiv st.1 (8:Int)))) (0:Int)) (gshl .u8 (List.getD st.2.2.1.1 (Int.toNat st.1) (0:Int)) (IntKind.wrap .u64 (IntKind.wrap .i64 ((7:Int)-(Int.tmod st.1 (8:Int))))))),(st.2.2.1,())))) else none)) else none) else none) else some (.inr (st.2.1,(st.2.2.1,())))
def F_r2_Writer_Bytes (x:((List Int)×Unit)):Option Z13:= bif (decide ((0:Int)≤(IntKind.wrap .i64 (Int.tdiv (IntKind.wrap .i64 (((List.length x.1:Nat):Int)+(7:Int))) (8:Int)))))&&((decide ((IntKind.wrap .i64 (Int.tdiv (IntKind.wrap .i64 (((List.length x.1:Nat):Int)+(7:Int))) (8:Int)))≤(IntKind.wrap .i64 (Int.tdiv (IntKind.wrap .i64 (((List.length x.1:Nat):Int)+(7:Int))) (8:Int)))))&&(lim (Int.toNat (IntKind.wrap .i64 (Int.tdiv (IntKind.wrap .i64 (((List.length x.1:Nat):Int)+(7:Int))) (8:Int)))))) then ((iter F_r2_Writer_Bytes_l0 ((0:Int),(List.replicate (Int.toNat (IntKind.wrap .i64 (Int.tdiv (IntKind.wrap .i64 (((List.length x.1:Nat):Int)+(7:Int))) (8:Int)))) (0:Int),(x,())))).bind fun w1=> some (w1.1,w1.2.1)) else none
def S_r2_Writer_Bytes:FSem:=⟨[.r Q1],[.o (.int .u8)],F_r2_Writer_Bytes⟩
def H31:Hints:=⟨[(58,[.sv 4 (.int .i64),.own 3 3 (.int .u8),.box 1000000 Q1,.ptr 0 1000000 []],[(.exit 0,[.own 3 3 (.int .u8),.box 1000000 Q1])])],[],[(5,[.q,.v,.v,.q,.v,.v,.q,.q,.q,.q,.q,.q,.v,.q,.q,.v,.v,.v,.v,.v,.v,.x,.x])]⟩
def F_l15_SubPuts (x:(Z170×(Int×Int))):Option Bool:= (F_l15_known ()).bind fun y1=> bif !y1 then some false else ((show Option Z189 from (F_l15_Small (x.1,(200:Int))).bind fun y2=> bif !y2 then some (x.2.1,(x.2.2,(true,(x.1,())))) else (bif x.1.1==(0:Int) then (bif decide (x.2.1 > (500:Int)) then some (x.2.1,(x.2.2,(decide (x.2.1≤(4096:Int)),(x.1,())))) else some (x.2.1,(x.2.2,(false,(x.1,()))))) else some (x.2.1,(x.2.2,(false,(x.1,())))))).bind fun z3=> bif z3.2.2.1 then some true else ((F_bits_Writer_Put ((([]:(List Int)),((0:Int),())),((0:Int),bits .i64 .and z3.2.1 (7:Int)))).bind fun y4=> (F_r2_Writer_Put ((([]:(List Int)),()),((0:Int),bits .i64 .and z3.2.1 (7:Int)))).bind fun y5=> (F_sub_Put (y4.2,(z3.2.2.2.1,z3.1))).bind fun y6=> (F_r19_SubPut (y5.2,(z3.2.2.2.1,z3.1))).bind fun y7=> bif y6.1==y7.1 then ((F_bits_Writer_Len y6.2).bind fun y8=> (F_r2_Writer_Len y7.2).bind fun y9=> bif y8.1==y9.1 then ((F_bits_Writer_Bytes y8.2).bind fun y10=> (F_r2_Writer_Bytes y9.2).bind fun y11=> (F_r2_Same (y10.1,y11.1)).bind fun y12=> some y12) else some false) else some false))
def S_l15_SubPuts:FSem:=⟨[.v Q18,.v (.int .i64),.v (.int .i64)],[.v .bool],F_l15_SubPuts⟩
def H7:Hints:=⟨[],[(14,[(.normal,[.sv 1 (.int .i64),.sv 2 (.int .i64),.sv 28 .bool,.vp 3 Q18])])],[(8,[.q,.v,.v,.w [30,44,1044],.r [32,45],.v,.v,.x,.x,.x])]⟩
end Go.Ab
namespace Go.Ab
open Go.Proofs
set_option maxRecDepth 100000
theorem mixed:Tryz.prog.follows .mixedOrders=true:=by kernel_rfl
theorem tab1:tabOk Tryz.prog tyTab=true:=by kernel_rfl
theorem tab2:ptrOk Tryz.prog ptrTab=true:=by kernel_rfl
theorem tab3:eqsOk Tryz.prog tyTab eqTab=true:=by kernel_rfl
theorem laidOut:laidOutB Tryz.prog=true:=by kernel_rfl
@[reducible] def Ok0 (n:Nat) (s:FSem):Prop:=FSound Tryz.prog G0 n s∧Bodied Tryz.prog n
theorem cxo {a:List (Nat×FSem)} {b:List (Nat×Ty)} {c d:List Nat} (h:∀ p∈a,Ok0 p.1 p.2):CxOk Tryz.prog (cxOf a b c d):=
 CxOk.of (CxTy.of (tab:=tyTab) (l:=eqTab) (q:=ptrTab) (fun _=>rfl) (fun _=>rfl) (fun _=>rfl) tab1 tab2 tab3) (fun _=>rfl) h
theorem fo (a : List (Nat × FSem)) (b : List (Nat × Ty)) (c d : List Nat) (H : Hints) {n : Nat} {fn : Func} {e : Code} {s : FSem} (h : ∀ p ∈ a, Ok0 p.1 p.2) (hf : Tryz.prog.funcs[n]? = some fn) (hb : fn.body = some e) (hk : fnOk fn e H s = true) (hn : (fn.name == "runtime.NumGoroutine") = false) (hq : ∀ x, arun (cxOf a b c d) H fn s.ps s.rs x = s.F x) : Ok0 n s :=
 ⟨FSound.of (cxo h) mixed hf hb hk hq,⟨_,_,hf,hb,hn⟩⟩
theorem fs44:Ok0 44 S_sub_allWide:=
 fo [] [] [0,2,4] [] H44 a0 Tryz.func44 rfl (by kernel_rfl) (by kernel_rfl) (fun x=>by kernel_rfl)
theorem fs59:Ok0 59 S_sub_rested:=
 fo [] [] [0,2] [] H59 a0 Tryz.func59 rfl (by kernel_rfl) (by kernel_rfl) (fun x=>by kernel_rfl)
theorem fs113:Ok0 113 S_linear_May:=
 fo [] [] [0,1,4,6] [] H113 a0 Tryz.func113 rfl (by kernel_rfl) (by kernel_rfl) (fun x=>by kernel_rfl)
theorem fs114:Ok0 114 S_long_May:=
 fo [] [] [0,1,4,6] [3] H114 a0 Tryz.func114 rfl (by kernel_rfl) (by kernel_rfl) (fun x=>by kernel_rfl)
theorem fs177:Ok0 177 S_learn_valid:=
 fo [] [] [0,2] [1] H177 a0 Tryz.func177 rfl (by kernel_rfl) (by kernel_rfl) (fun x=>by kernel_rfl)
theorem fs115:Ok0 115 S_learn_May:=
 fo [(177,S_learn_valid)] [] [0,2] [] H115 (a1 fs177 a0) Tryz.func115 rfl (by kernel_rfl) (by kernel_rfl) (fun x=>by kernel_rfl)
theorem fs66:Ok0 66 S_sub_fit:=
 fo [(113,S_linear_May),(114,S_long_May),(115,S_learn_May)] [] [0,1,2,6,8,11,27,41,62] [4] H66 (a1 fs113 (a1 fs114 (a1 fs115 a0))) Tryz.func66 rfl (by kernel_rfl) (by kernel_rfl) (fun x=>by kernel_rfl)
theorem fs72:Ok0 72 S_sub_warmth:=
 fo [] [] [0,1,4,7,9,12,16] [2] H72 a0 Tryz.func72 rfl (by kernel_rfl) (by kernel_rfl) (fun x=>by kernel_rfl)
theorem fs116:Ok0 116 S_slices_Clone___int_int_:=
 fo [] [] [0,2] [] H116 a0 Tryz.func116 rfl (by kernel_rfl) (by kernel_rfl) (fun x=>by kernel_rfl)
theorem fs116v:Ok0 116 S_slices_Clone___int_int_v:=
 fo [] [] [0,2] [] H116v a0 Tryz.func116 rfl (by kernel_rfl) (by kernel_rfl) (fun x=>by kernel_rfl)
theorem fs117v:Ok0 117 S_slices_Clone___api_Stage_api_Stage_v:=
 fo [] [] [0,2] [] H117v a0 Tryz.func117 rfl (by kernel_rfl) (by kernel_rfl) (fun x=>by kernel_rfl)
theorem fs67:Ok0 67 S_sub_chosen:=
 fo [(116,S_slices_Clone___int_int_v),(117,S_slices_Clone___api_Stage_api_Stage_v)] [] [0,1,9,11,13,15] [3] H67 (a1 fs116v (a1 fs117v a0)) Tryz.func67 rfl (by kernel_rfl) (by kernel_rfl) (fun x=>by kernel_rfl)
theorem fs77:Ok0 77 S_sub_alone:=
 fo [(67,S_sub_chosen)] [] [0,2] [1] H77 (a1 fs67 a0) Tryz.func77 rfl (by kernel_rfl) (by kernel_rfl) (fun x=>by kernel_rfl)
theorem fs125:Ok0 125 S_parts_row:=
 fo [] [] [0,1,4] [] H125 a0 Tryz.func125 rfl (by kernel_rfl) (by kernel_rfl) (fun x=>by kernel_rfl)
theorem fs108:Ok0 108 S_parts_Sizes:=
 fo [(125,S_parts_row)] [] [0,1,2,6,7,8] [] H108 (a1 fs125 a0) Tryz.func108 rfl (by kernel_rfl) (by kernel_rfl) (fun x=>by kernel_rfl)
theorem fs78:Ok0 78 S_parts_May:=
 fo [(108,S_parts_Sizes)] [] [0,1,2,6,7,9] [3] H78 (a1 fs108 a0) Tryz.func78 rfl (by kernel_rfl) (by kernel_rfl) (fun x=>by kernel_rfl)
theorem fs37:Ok0 37 S_sub_stated:=
 fo [(44,S_sub_allWide),(59,S_sub_rested),(66,S_sub_fit),(72,S_sub_warmth),(77,S_sub_alone),(78,S_parts_May)] [] [0,1,4,5] [2] H37 (a1 fs44 (a1 fs59 (a1 fs66 (a1 fs72 (a1 fs77 (a1 fs78 a0)))))) Tryz.func37 rfl (by kernel_rfl) (by kernel_rfl) (fun x=>by kernel_rfl)
theorem fs127:Ok0 127 S_fixed_wide:=
 fo [] [] [0,2,4] [] H127 a0 Tryz.func127 rfl (by kernel_rfl) (by kernel_rfl) (fun x=>by kernel_rfl)
theorem fs180:Ok0 180 S_fixed_guess_1:=
 fo [] [] [0,1,3] [] H180 a0 Tryz.func180 rfl (by kernel_rfl) (by kernel_rfl) (fun x=>by kernel_rfl)
theorem fs128:Ok0 128 S_fixed_guess:=
 fo [(180,S_fixed_guess_1)] [] [0,1,4,5,8,12,20,32] [] H128 (a1 fs180 a0) Tryz.func128 rfl (by kernel_rfl) (by kernel_rfl) (fun x=>by kernel_rfl)
theorem fs79:Ok0 79 S_fixed_Back:=
 fo [(127,S_fixed_wide),(128,S_fixed_guess)] [] [0,1,2,6,7,8,10,11] [] H79 (a1 fs127 (a1 fs128 a0)) Tryz.func79 rfl (by kernel_rfl) (by kernel_rfl) (fun x=>by kernel_rfl)
theorem fs131:Ok0 131 S_linear_wide:=
 fo [] [] [0,2] [] H131 a0 Tryz.func131 rfl (by kernel_rfl) (by kernel_rfl) (fun x=>by kernel_rfl)
theorem fs129:Ok0 129 S_linear_allWide:=
 fo [(131,S_linear_wide)] [] [0,2,4] [] H129 (a1 fs131 a0) Tryz.func129 rfl (by kernel_rfl) (by kernel_rfl) (fun x=>by kernel_rfl)
theorem fs130:Ok0 130 S_linear_predict:=
 fo [] [] [0,1,2,6,7,8,9,10] [] H130 a0 Tryz.func130 rfl (by kernel_rfl) (by kernel_rfl) (fun x=>by kernel_rfl)
theorem fs80:Ok0 80 S_linear_Back:=
 fo [(113,S_linear_May),(129,S_linear_allWide),(130,S_linear_predict),(131,S_linear_wide)] [] [0,1,2,3,8,9,10,12,13] [] H80 (a1 fs113 (a1 fs129 (a1 fs130 (a1 fs131 a0)))) Tryz.func80 rfl (by kernel_rfl) (by kernel_rfl) (fun x=>by kernel_rfl)
theorem fs134:Ok0 134 S_long_wide:=
 fo [] [] [0,2] [] H134 a0 Tryz.func134 rfl (by kernel_rfl) (by kernel_rfl) (fun x=>by kernel_rfl)
theorem fs132:Ok0 132 S_long_allWide:=
 fo [(134,S_long_wide)] [] [0,2,4] [] H132 (a1 fs134 a0) Tryz.func132 rfl (by kernel_rfl) (by kernel_rfl) (fun x=>by kernel_rfl)
theorem fs133:Ok0 133 S_long_predict:=
 fo [] [] [0,1,2,3,8,9,10,11,12] [7] H133 a0 Tryz.func133 rfl (by kernel_rfl) (by kernel_rfl) (fun x=>by kernel_rfl)
theorem fs81:Ok0 81 S_long_Back:=
 fo [(114,S_long_May),(132,S_long_allWide),(133,S_long_predict),(134,S_long_wide)] [] [0,1,2,6,7,8,9,10,11] [5] H81 (a1 fs114 (a1 fs132 (a1 fs133 (a1 fs134 a0)))) Tryz.func81 rfl (by kernel_rfl) (by kernel_rfl) (fun x=>by kernel_rfl)
theorem fs139:Ok0 139 S_learn_wide:=
 fo [] [] [0,2] [] H139 a0 Tryz.func139 rfl (by kernel_rfl) (by kernel_rfl) (fun x=>by kernel_rfl)
theorem fs135:Ok0 135 S_learn_allWide:=
 fo [(139,S_learn_wide)] [] [0,2,4] [] H135 (a1 fs139 a0) Tryz.func135 rfl (by kernel_rfl) (by kernel_rfl) (fun x=>by kernel_rfl)
theorem fs137:Ok0 137 S_learn_New:=
 fo [(177,S_learn_valid)] [(15,.pair (.int .i64) Q7),(16,.pair (.int .i64) Q7)] [0,2,3] [1] H137 (a1 fs177 a0) Tryz.func137 rfl (by kernel_rfl) (by kernel_rfl) (fun x=>by kernel_rfl)
theorem fs182:Ok0 182 S_learn_nearest:=
 fo [] [] [0,2] [] H182 a0 Tryz.func182 rfl (by kernel_rfl) (by kernel_rfl) (fun x=>by kernel_rfl)
theorem fs138:Ok0 138 S_learn_Filter_Guess:=
 fo [(182,S_learn_nearest)] [] [0,2,3,4,5] [] H138 (a1 fs182 a0) Tryz.func138 rfl (by kernel_rfl) (by kernel_rfl) (fun x=>by kernel_rfl)
theorem fs140:Ok0 140 S_learn_Filter_Tell:=
 fo [(138,S_learn_Filter_Guess),(182,S_learn_nearest)] [] [0,1,4,5,6,7,8,13,22] [] H140 (a1 fs138 (a1 fs182 a0)) Tryz.func140 rfl (by kernel_rfl) (by kernel_rfl) (fun x=>by kernel_rfl)
theorem fs82:Ok0 82 S_learn_Back:=
 ⟨FSound.ofR (cx:=cx82) (cxo (a1 fs115 (a1 fs116 (a1 fs135 (a1 fs137 (a1 fs138 (a1 fs139 (a1 fs140 a0)))))))) mixed (r:=R82) ⟨mkOk136,itOk181⟩ Tryz.func82 rfl (by kernel_rfl) eq82,⟨_,_,Tryz.func82,rfl,by kernel_rfl⟩⟩
theorem fs93:Ok0 93 S_sample_wide:=
 fo [] [] [0,2] [] H93 a0 Tryz.func93 rfl (by kernel_rfl) (by kernel_rfl) (fun x=>by kernel_rfl)
theorem fs83:Ok0 83 S_sample_Up:=
 fo [(93,S_sample_wide)] [] [0,1,4,5,6,8] [] H83 (a1 fs93 a0) Tryz.func83 rfl (by kernel_rfl) (by kernel_rfl) (fun x=>by kernel_rfl)
theorem fs38:Ok0 38 S_sub_back:=
 fo [(79,S_fixed_Back),(80,S_linear_Back),(81,S_long_Back),(82,S_learn_Back),(83,S_sample_Up)] [] [0,1,4,5,6,7,10,24,28,40,54,79] [2] H38 (a1 fs79 (a1 fs80 (a1 fs81 (a1 fs82 (a1 fs83 a0))))) Tryz.func38 rfl (by kernel_rfl) (by kernel_rfl) (fun x=>by kernel_rfl)
theorem fs12:Ok0 12 S_sub_Row:=
 fo [(37,S_sub_stated),(38,S_sub_back)] [] [0,1,4,5,6,7] [2] H12 (a1 fs37 (a1 fs38 a0)) Tryz.func12 rfl (by kernel_rfl) (by kernel_rfl) (fun x=>by kernel_rfl)
theorem fs14:Ok0 14 S_sub_May:=
 fo [(12,S_sub_Row)] [] [0,1,4,5,6] [2] H14 (a1 fs12 a0) Tryz.func14 rfl (by kernel_rfl) (by kernel_rfl) (fun x=>by kernel_rfl)
theorem fs55:Ok0 55 S_bits_Writer_bit:=
 fo [] [] [0,1] [] H55 a0 Tryz.func55 rfl (by kernel_rfl) (by kernel_rfl) (fun x=>by kernel_rfl)
theorem fs23:Ok0 23 S_bits_Writer_Put:=
 fo [(55,S_bits_Writer_bit)] [] [0,1,2,6,7] [] H23 (a1 fs55 a0) Tryz.func23 rfl (by kernel_rfl) (by kernel_rfl) (fun x=>by kernel_rfl)
theorem fs164:Ok0 164 S_sample_Low:=
 fo [] [] [0,2] [] H164 a0 Tryz.func164 rfl (by kernel_rfl) (by kernel_rfl) (fun x=>by kernel_rfl)
theorem fs165:Ok0 165 S_sample_High:=
 fo [] [] [0,2] [] H165 a0 Tryz.func165 rfl (by kernel_rfl) (by kernel_rfl) (fun x=>by kernel_rfl)
theorem fs106:Ok0 106 S_sample_Fits:=
 fo [(164,S_sample_Low),(165,S_sample_High)] [] [0,1,4] [] H106 (a1 fs164 (a1 fs165 a0)) Tryz.func106 rfl (by kernel_rfl) (by kernel_rfl) (fun x=>by kernel_rfl)
theorem fs56:Ok0 56 S_sample_Width:=
 fo [(106,S_sample_Fits)] [] [0,2,3,5] [] H56 (a1 fs106 a0) Tryz.func56 rfl (by kernel_rfl) (by kernel_rfl) (fun x=>by kernel_rfl)
theorem fs57:Ok0 57 S_sub_putSigned:=
 fo [(23,S_bits_Writer_Put)] [] [0,1,2] [] H57 (a1 fs23 a0) Tryz.func57 rfl (by kernel_rfl) (by kernel_rfl) (fun x=>by kernel_rfl)
theorem fs58:Ok0 58 S_sub_putCoefs:=
 fo [(23,S_bits_Writer_Put),(56,S_sample_Width),(57,S_sub_putSigned)] [] [0,1,4,6] [3] H58 (a1 fs23 (a1 fs56 (a1 fs57 a0))) Tryz.func58 rfl (by kernel_rfl) (by kernel_rfl) (fun x=>by kernel_rfl)
theorem fs122:Ok0 122 S_parts_right:=
 fo [(125,S_parts_row)] [] [0,1,2,6,8] [] H122 (a1 fs125 a0) Tryz.func122 rfl (by kernel_rfl) (by kernel_rfl) (fun x=>by kernel_rfl)
theorem fs166:Ok0 166 S_parts_raw:=
 fo [(56,S_sample_Width)] [] [0,2] [] H166 (a1 fs56 a0) Tryz.func166 rfl (by kernel_rfl) (by kernel_rfl) (fun x=>by kernel_rfl)
theorem fs168:Ok0 168 S_rice_parameter:=
 fo [] [] [0,2] [] H168 a0 Tryz.func168 rfl (by kernel_rfl) (by kernel_rfl) (fun x=>by kernel_rfl)
theorem fs169:Ok0 169 S_rice_wide:=
 fo [] [] [0,2] [] H169 a0 Tryz.func169 rfl (by kernel_rfl) (by kernel_rfl) (fun x=>by kernel_rfl)
theorem fs170:Ok0 170 S_rice_Fold:=
 fo [(169,S_rice_wide)] [] [0,2,3,7] [] H170 (a1 fs169 a0) Tryz.func170 rfl (by kernel_rfl) (by kernel_rfl) (fun x=>by kernel_rfl)
theorem fs195:Ok0 195 S_rice_Cost:=
 fo [(168,S_rice_parameter),(169,S_rice_wide),(170,S_rice_Fold)] [] [0,1,4,5] [] H195 (a1 fs168 (a1 fs169 (a1 fs170 a0))) Tryz.func195 rfl (by kernel_rfl) (by kernel_rfl) (fun x=>by kernel_rfl)
theorem fs167:Ok0 167 S_rice_Sum:=
 fo [(195,S_rice_Cost)] [] [0,1,4,5,7] [] H167 (a1 fs195 a0) Tryz.func167 rfl (by kernel_rfl) (by kernel_rfl) (fun x=>by kernel_rfl)
theorem fs107:Ok0 107 S_parts_Cost:=
 fo [(78,S_parts_May),(108,S_parts_Sizes),(122,S_parts_right),(166,S_parts_raw),(167,S_rice_Sum)] [] [0,1,2,3,8,9,10,11,12] [4] H107 (a1 fs78 (a1 fs108 (a1 fs122 (a1 fs166 (a1 fs167 a0))))) Tryz.func107 rfl (by kernel_rfl) (by kernel_rfl) (fun x=>by kernel_rfl)
theorem fs171:Ok0 171 S_bits_Writer_Unary:=
 fo [(55,S_bits_Writer_bit)] [] [0,1,4] [] H171 (a1 fs55 a0) Tryz.func171 rfl (by kernel_rfl) (by kernel_rfl) (fun x=>by kernel_rfl)
theorem fs109:Ok0 109 S_rice_Put:=
 fo [(23,S_bits_Writer_Put),(168,S_rice_parameter),(169,S_rice_wide),(170,S_rice_Fold),(171,S_bits_Writer_Unary)] [] [0,1,2,6,8,10,11,12] [] H109 (a1 fs23 (a1 fs168 (a1 fs169 (a1 fs170 (a1 fs171 a0))))) Tryz.func109 rfl (by kernel_rfl) (by kernel_rfl) (fun x=>by kernel_rfl)
theorem fs60:Ok0 60 S_parts_Put:=
 fo [(23,S_bits_Writer_Put),(56,S_sample_Width),(107,S_parts_Cost),(108,S_parts_Sizes),(109,S_rice_Put)] [] [0,1,2,3,4,10,11,12,13,14,16] [6] H60 (a1 fs23 (a1 fs56 (a1 fs107 (a1 fs108 (a1 fs109 a0))))) Tryz.func60 rfl (by kernel_rfl) (by kernel_rfl) (fun x=>by kernel_rfl)
theorem fs25:Ok0 25 S_sub_Put:=
 fo [(14,S_sub_May),(23,S_bits_Writer_Put),(56,S_sample_Width),(57,S_sub_putSigned),(58,S_sub_putCoefs),(59,S_sub_rested),(60,S_parts_Put)] [] [0,1,2,6,7,9,13,37,39,41,43] [4] H25 (a1 fs14 (a1 fs23 (a1 fs56 (a1 fs57 (a1 fs58 (a1 fs59 (a1 fs60 a0))))))) Tryz.func25 rfl (by kernel_rfl) (by kernel_rfl) (fun x=>by kernel_rfl)
theorem fs27:Ok0 27 S_bits_Writer_Len:=
 fo [] [] [0,2] [] H27 a0 Tryz.func27 rfl (by kernel_rfl) (by kernel_rfl) (fun x=>by kernel_rfl)
theorem fs15:Ok0 15 S_sub_Cost:=
 fo [(25,S_sub_Put),(27,S_bits_Writer_Len)] [(5,.pair (.list true (.int .u8)) Q0)] [0,1,4] [2] H15 (a1 fs25 (a1 fs27 a0)) Tryz.func15 rfl (by kernel_rfl) (by kernel_rfl) (fun x=>by kernel_rfl)
theorem fs17:Ok0 17 S_r2_SameInts:=
 fo [] [] [0,1,4,5] [] H17 a0 Tryz.func17 rfl (by kernel_rfl) (by kernel_rfl) (fun x=>by kernel_rfl)
theorem fs45:Ok0 45 S_sample_Down:=
 fo [(93,S_sample_wide)] [] [0,1,4,5,6,8] [] H45 (a1 fs93 a0) Tryz.func45 rfl (by kernel_rfl) (by kernel_rfl) (fun x=>by kernel_rfl)
theorem fs94:Ok0 94 S_math_bits_TrailingZeros64:=
 ⟨FSound.of (cx:=cx94) (cxo a0) mixed Tryz.func94 rfl (by kernel_rfl) eq94,⟨_,_,Tryz.func94,rfl,by kernel_rfl⟩⟩
theorem fs46:Ok0 46 S_sample_Wasted:=
 fo [(94,S_math_bits_TrailingZeros64)] [] [0,2,3,5] [] H46 (a1 fs94 a0) Tryz.func46 rfl (by kernel_rfl) (by kernel_rfl) (fun x=>by kernel_rfl)
theorem fs118:Ok0 118 S_fixed_Rest:=
 fo [(127,S_fixed_wide)] [] [0,1,4,5,6,7] [] H118 (a1 fs127 a0) Tryz.func118 rfl (by kernel_rfl) (by kernel_rfl) (fun x=>by kernel_rfl)
theorem fs119:Ok0 119 S_linear_Rest:=
 fo [(113,S_linear_May),(129,S_linear_allWide),(130,S_linear_predict),(131,S_linear_wide)] [] [0,1,2,6,7,8,9,10] [] H119 (a1 fs113 (a1 fs129 (a1 fs130 (a1 fs131 a0)))) Tryz.func119 rfl (by kernel_rfl) (by kernel_rfl) (fun x=>by kernel_rfl)
theorem fs120:Ok0 120 S_long_Rest:=
 fo [(114,S_long_May),(132,S_long_allWide),(133,S_long_predict),(134,S_long_wide)] [] [0,1,2,6,7,8,9,10,11] [5] H120 (a1 fs114 (a1 fs132 (a1 fs133 (a1 fs134 a0)))) Tryz.func120 rfl (by kernel_rfl) (by kernel_rfl) (fun x=>by kernel_rfl)
theorem fs121:Ok0 121 S_learn_Rest:=
 fo [(115,S_learn_May),(116,S_slices_Clone___int_int_),(135,S_learn_allWide),(137,S_learn_New),(138,S_learn_Filter_Guess),(139,S_learn_wide),(140,S_learn_Filter_Tell)] [] [0,1,4,5,6,9,10,11,12,13] [] H121 (a1 fs115 (a1 fs116 (a1 fs135 (a1 fs137 (a1 fs138 (a1 fs139 (a1 fs140 a0))))))) Tryz.func121 rfl (by kernel_rfl) (by kernel_rfl) (fun x=>by kernel_rfl)
theorem fs68:Ok0 68 S_sub_split:=
 fo [(72,S_sub_warmth),(116,S_slices_Clone___int_int_),(118,S_fixed_Rest),(119,S_linear_Rest),(120,S_long_Rest),(121,S_learn_Rest)] [] [0,1,4,5,6,11,22,37,67] [] H68 (a1 fs72 (a1 fs116 (a1 fs118 (a1 fs119 (a1 fs120 (a1 fs121 a0)))))) Tryz.func68 rfl (by kernel_rfl) (by kernel_rfl) (fun x=>by kernel_rfl)
theorem fs178:Ok0 178 S_rice_Best:=
 fo [(167,S_rice_Sum)] [] [0,2,3,4,5,6] [] H178 (a1 fs167 a0) Tryz.func178 rfl (by kernel_rfl) (by kernel_rfl) (fun x=>by kernel_rfl)
theorem fs123:Ok0 123 S_parts_choose:=
 fo [(166,S_parts_raw),(167,S_rice_Sum),(178,S_rice_Best)] [] [0,2,3] [] H123 (a1 fs166 (a1 fs167 (a1 fs178 a0))) Tryz.func123 rfl (by kernel_rfl) (by kernel_rfl) (fun x=>by kernel_rfl)
theorem fs69:Ok0 69 S_parts_Best:=
 fo [(107,S_parts_Cost),(108,S_parts_Sizes),(122,S_parts_right),(123,S_parts_choose)] [(14,.pair (.int .i64) Q2),(40,.pair (.int .i64) Q2)] [0,1,2,3,9,11,12,13,15,17,18] [] H69 (a1 fs107 (a1 fs108 (a1 fs122 (a1 fs123 a0)))) Tryz.func69 rfl (by kernel_rfl) (by kernel_rfl) (fun x=>by kernel_rfl)
theorem fs32:Ok0 32 S_sub_Make:=
 fo [(44,S_sub_allWide),(45,S_sample_Down),(46,S_sample_Wasted),(66,S_sub_fit),(67,S_sub_chosen),(68,S_sub_split),(69,S_parts_Best)] [] [0,1,2,7,8,11,12,13] [5] H32 (a1 fs44 (a1 fs45 (a1 fs46 (a1 fs66 (a1 fs67 (a1 fs68 (a1 fs69 a0))))))) Tryz.func32 rfl (by kernel_rfl) (by kernel_rfl) (fun x=>by kernel_rfl)
theorem fs149:Ok0 149 S_fixed_weigh:=
 fo [] [] [0,1,4,5,6,7] [] H149 a0 Tryz.func149 rfl (by kernel_rfl) (by kernel_rfl) (fun x=>by kernel_rfl)
theorem fs95:Ok0 95 S_fixed_Best:=
 fo [(118,S_fixed_Rest),(149,S_fixed_weigh)] [] [0,2,3,4,5,6,7,8] [] H95 (a1 fs118 (a1 fs149 a0)) Tryz.func95 rfl (by kernel_rfl) (by kernel_rfl) (fun x=>by kernel_rfl)
theorem fs187:Ok0 187 S_linear_clamp:=
 fo [] [] [0,2] [] H187 a0 Tryz.func187 rfl (by kernel_rfl) (by kernel_rfl) (fun x=>by kernel_rfl)
theorem fs185:Ok0 185 S_linear_scaled:=
 fo [(187,S_linear_clamp)] [] [0,2,3,5,6,7,8] [] H185 (a1 fs187 a0) Tryz.func185 rfl (by kernel_rfl) (by kernel_rfl) (fun x=>by kernel_rfl)
theorem fs186:Ok0 186 S_linear_reflection:=
 fo [] [] [0,1,2,6,7,8,9,10] [] H186 a0 Tryz.func186 rfl (by kernel_rfl) (by kernel_rfl) (fun x=>by kernel_rfl)
theorem fs150:Ok0 150 S_linear_Reflect:=
 fo [(116,S_slices_Clone___int_int_),(129,S_linear_allWide),(185,S_linear_scaled),(186,S_linear_reflection),(187,S_linear_clamp)] [] [0,1,4,5,6,7,8,9,10,11,12,13] [] H150 (a1 fs116 (a1 fs129 (a1 fs185 (a1 fs186 (a1 fs187 a0))))) Tryz.func150 rfl (by kernel_rfl) (by kernel_rfl) (fun x=>by kernel_rfl)
theorem fs151:Ok0 151 S_linear_Climb:=
 fo [] [] [0,2,3,5,6,7,8,9,10,11] [] H151 a0 Tryz.func151 rfl (by kernel_rfl) (by kernel_rfl) (fun x=>by kernel_rfl)
theorem fs152:Ok0 152 S_linear_Round:=
 fo [(106,S_sample_Fits)] [] [0,1,4,5,6,8,9,10,11,13,14] [] H152 (a1 fs106 a0) Tryz.func152 rfl (by kernel_rfl) (by kernel_rfl) (fun x=>by kernel_rfl)
theorem fs97:Ok0 97 S_linear_Find:=
 fo [(150,S_linear_Reflect),(151,S_linear_Climb),(152,S_linear_Round)] [] [0,1,2,6,7,8,9,10,11] [] H97 (a1 fs150 (a1 fs151 (a1 fs152 a0))) Tryz.func97 rfl (by kernel_rfl) (by kernel_rfl) (fun x=>by kernel_rfl)
theorem fs153:Ok0 153 S_long_Find:=
 fo [(132,S_long_allWide)] [] [0,1,2,6,7,8,9,10,11,12,13] [] H153 (a1 fs132 a0) Tryz.func153 rfl (by kernel_rfl) (by kernel_rfl) (fun x=>by kernel_rfl)
theorem fs188:Ok0 188 S_long_Table:=
 fo [] [] [0] [] H188 a0 Tryz.func188 rfl (by kernel_rfl) (by kernel_rfl) (fun x=>by kernel_rfl)
theorem fs154:Ok0 154 S_long_Tune:=
 fo [(120,S_long_Rest),(188,S_long_Table)] [] [0,1,5,7,8,11,12,13,15] [] H154 (a1 fs120 (a1 fs188 a0)) Tryz.func154 rfl (by kernel_rfl) (by kernel_rfl) (fun x=>by kernel_rfl)
theorem fs98:Ok0 98 S_sub_lagged:=
 fo [(97,S_linear_Find),(120,S_long_Rest),(153,S_long_Find),(154,S_long_Tune)] [] [0,3,4,5,7,8,9] [] H98 (a1 fs97 (a1 fs120 (a1 fs153 (a1 fs154 a0)))) Tryz.func98 rfl (by kernel_rfl) (by kernel_rfl) (fun x=>by kernel_rfl)
theorem fs96:Ok0 96 S_sub_candidates_1:=
 fo [(97,S_linear_Find)] [] [0,1,2,3,6,7,8] [] H96 (a1 fs97 a0) Tryz.func96 rfl (by kernel_rfl) (by kernel_rfl) (fun x=>by kernel_rfl)
theorem fs47:Ok0 47 S_sub_candidates:=
 fo [(95,S_fixed_Best),(96,S_sub_candidates_1),(98,S_sub_lagged)] [(5,.list true Q18)] [0,1,4,6,8,9] [67] H47 (a1 fs95 (a1 fs96 (a1 fs98 a0))) Tryz.func47 rfl (by kernel_rfl) (by kernel_rfl) (fun x=>by kernel_rfl)
theorem fs18:Ok0 18 S_sub_Best:=
 fo [(15,S_sub_Cost),(32,S_sub_Make),(44,S_sub_allWide),(45,S_sample_Down),(46,S_sample_Wasted),(47,S_sub_candidates)] [] [0,1,5,6,7,9,10,14,15] [] H18 (a1 fs15 (a1 fs32 (a1 fs44 (a1 fs45 (a1 fs46 (a1 fs47 a0)))))) Tryz.func18 rfl (by kernel_rfl) (by kernel_rfl) (fun x=>by kernel_rfl)
theorem fs10:Ok0 10 S_l15_known:=
 fo [(12,S_sub_Row),(15,S_sub_Cost),(17,S_r2_SameInts),(18,S_sub_Best),(32,S_sub_Make)] [] [0,2,3,4,6] [] H10 (a1 fs12 (a1 fs15 (a1 fs17 (a1 fs18 (a1 fs32 a0))))) Tryz.func10 rfl (by kernel_rfl) (by kernel_rfl) (fun x=>by kernel_rfl)
theorem fs11:Ok0 11 S_l15_Small:=
 fo [] [] [0,1,4] [2] H11 a0 Tryz.func11 rfl (by kernel_rfl) (by kernel_rfl) (fun x=>by kernel_rfl)
theorem fs24:Ok0 24 S_r2_Writer_Put:=
 fo [] [] [0,1,2,6,7] [] H24 a0 Tryz.func24 rfl (by kernel_rfl) (by kernel_rfl) (fun x=>by kernel_rfl)
theorem fs41:Ok0 41 S_r19_guessed:=
 fo [] [] [0,2] [] H41 a0 Tryz.func41 rfl (by kernel_rfl) (by kernel_rfl) (fun x=>by kernel_rfl)
theorem fs52:Ok0 52 S_r14_SameStages:=
 fo [] [] [0,1,4,5] [] H52 a0 Tryz.func52 rfl (by kernel_rfl) (by kernel_rfl) (fun x=>by kernel_rfl)
theorem fs53:Ok0 53 S_r8_SameParts:=
 fo [(17,S_r2_SameInts)] [] [0,1,4] [2,3] H53 (a1 fs17 a0) Tryz.func53 rfl (by kernel_rfl) (by kernel_rfl) (fun x=>by kernel_rfl)
theorem fs20:Ok0 20 S_r19_SameSub:=
 fo [(17,S_r2_SameInts),(52,S_r14_SameStages),(53,S_r8_SameParts)] [] [0,1,4] [2,3] H20 (a1 fs17 (a1 fs52 (a1 fs53 a0))) Tryz.func20 rfl (by kernel_rfl) (by kernel_rfl) (fun x=>by kernel_rfl)
theorem fs54:Ok0 54 S_r2_Wide:=
 fo [] [] [0,2] [] H54 a0 Tryz.func54 rfl (by kernel_rfl) (by kernel_rfl) (fun x=>by kernel_rfl)
theorem fs21:Ok0 21 S_r2_AllWide:=
 fo [(54,S_r2_Wide)] [] [0,2,3] [] H21 (a1 fs54 a0) Tryz.func21 rfl (by kernel_rfl) (by kernel_rfl) (fun x=>by kernel_rfl)
theorem fs22:Ok0 22 S_r2_Up:=
 fo [(54,S_r2_Wide)] [] [0,1,4,5,6,7] [] H22 (a1 fs54 a0) Tryz.func22 rfl (by kernel_rfl) (by kernel_rfl) (fun x=>by kernel_rfl)
theorem fs39:Ok0 39 S_r19_named:=
 fo [] [] [0,28,33,41,55] [1] H39 a0 Tryz.func39 rfl (by kernel_rfl) (by kernel_rfl) (fun x=>by kernel_rfl)
theorem fs84:Ok0 84 S_r14_LinearMay:=
 fo [] [] [0,1,4,5] [] H84 a0 Tryz.func84 rfl (by kernel_rfl) (by kernel_rfl) (fun x=>by kernel_rfl)
theorem fs85:Ok0 85 S_r14_LongMay:=
 fo [] [] [0,1,4,5] [3] H85 a0 Tryz.func85 rfl (by kernel_rfl) (by kernel_rfl) (fun x=>by kernel_rfl)
theorem fs141:Ok0 141 S_r14_StageMay:=
 fo [] [] [0,2] [1] H141 a0 Tryz.func141 rfl (by kernel_rfl) (by kernel_rfl) (fun x=>by kernel_rfl)
theorem fs86:Ok0 86 S_r14_LearnMay:=
 fo [(141,S_r14_StageMay)] [] [0,2,3] [] H86 (a1 fs141 a0) Tryz.func86 rfl (by kernel_rfl) (by kernel_rfl) (fun x=>by kernel_rfl)
theorem fs40:Ok0 40 S_r19_warms:=
 fo [(84,S_r14_LinearMay),(85,S_r14_LongMay),(86,S_r14_LearnMay)] [] [0,1,4,7,9,12,30,60] [2] H40 (a1 fs84 (a1 fs85 (a1 fs86 a0))) Tryz.func40 rfl (by kernel_rfl) (by kernel_rfl) (fun x=>by kernel_rfl)
theorem fs142:Ok0 142 S_r8_row:=
 fo [] [] [0,1,4] [] H142 a0 Tryz.func142 rfl (by kernel_rfl) (by kernel_rfl) (fun x=>by kernel_rfl)
theorem fs87:Ok0 87 S_r8_PartsSizes:=
 fo [(142,S_r8_row)] [] [0,1,2,6,7,8] [] H87 (a1 fs142 a0) Tryz.func87 rfl (by kernel_rfl) (by kernel_rfl) (fun x=>by kernel_rfl)
theorem fs88:Ok0 88 S_r8_parameter:=
 fo [] [] [0,2] [] H88 a0 Tryz.func88 rfl (by kernel_rfl) (by kernel_rfl) (fun x=>by kernel_rfl)
theorem fs42:Ok0 42 S_r8_PartsMay:=
 fo [(87,S_r8_PartsSizes),(88,S_r8_parameter)] [] [0,1,2,6,7,8] [3] H42 (a1 fs87 (a1 fs88 a0)) Tryz.func42 rfl (by kernel_rfl) (by kernel_rfl) (fun x=>by kernel_rfl)
theorem fs143:Ok0 143 S_r14_pascal:=
 fo [] [] [0,2] [] H143 a0 Tryz.func143 rfl (by kernel_rfl) (by kernel_rfl) (fun x=>by kernel_rfl)
theorem fs89:Ok0 89 S_r14_FixedBack:=
 fo [(21,S_r2_AllWide),(54,S_r2_Wide),(143,S_r14_pascal)] [] [0,1,2,6,7,8,9,10,11,12] [] H89 (a1 fs21 (a1 fs54 (a1 fs143 a0))) Tryz.func89 rfl (by kernel_rfl) (by kernel_rfl) (fun x=>by kernel_rfl)
theorem fs144:Ok0 144 S_r14_LinearGuess:=
 fo [(54,S_r2_Wide),(84,S_r14_LinearMay)] [] [0,1,2,6,7,8,9] [] H144 (a1 fs54 (a1 fs84 a0)) Tryz.func144 rfl (by kernel_rfl) (by kernel_rfl) (fun x=>by kernel_rfl)
theorem fs90:Ok0 90 S_r14_LinearBack:=
 fo [(21,S_r2_AllWide),(54,S_r2_Wide),(84,S_r14_LinearMay),(144,S_r14_LinearGuess)] [] [0,1,2,3,8,9,10,11,12] [] H90 (a1 fs21 (a1 fs54 (a1 fs84 (a1 fs144 a0)))) Tryz.func90 rfl (by kernel_rfl) (by kernel_rfl) (fun x=>by kernel_rfl)
theorem fs145:Ok0 145 S_r14_longGuess:=
 fo [] [] [0,1,2,6,7,8,9] [5] H145 a0 Tryz.func145 rfl (by kernel_rfl) (by kernel_rfl) (fun x=>by kernel_rfl)
theorem fs91:Ok0 91 S_r14_LongBack:=
 fo [(21,S_r2_AllWide),(54,S_r2_Wide),(85,S_r14_LongMay),(145,S_r14_longGuess)] [] [0,1,2,6,7,8,9,10] [5] H91 (a1 fs21 (a1 fs54 (a1 fs85 (a1 fs145 a0)))) Tryz.func91 rfl (by kernel_rfl) (by kernel_rfl) (fun x=>by kernel_rfl)
theorem fs146:Ok0 146 S_r14_NewFilter:=
 fo [(141,S_r14_StageMay)] [(15,.pair (.int .i64) Q7),(16,.pair (.int .i64) Q7)] [0,2,3] [1] H146 (a1 fs141 a0) Tryz.func146 rfl (by kernel_rfl) (by kernel_rfl) (fun x=>by kernel_rfl)
theorem fs183:Ok0 183 S_r14_wide:=
 fo [] [] [0,2] [] H183 a0 Tryz.func183 rfl (by kernel_rfl) (by kernel_rfl) (fun x=>by kernel_rfl)
theorem fs147:Ok0 147 S_r14_Filter_Guess:=
 fo [(183,S_r14_wide)] [] [0,2,3,4] [] H147 (a1 fs183 a0) Tryz.func147 rfl (by kernel_rfl) (by kernel_rfl) (fun x=>by kernel_rfl)
theorem fs184:Ok0 184 S_r14_sign:=
 fo [] [] [0,2,3,6] [] H184 a0 Tryz.func184 rfl (by kernel_rfl) (by kernel_rfl) (fun x=>by kernel_rfl)
theorem fs148:Ok0 148 S_r14_Filter_Tell:=
 fo [(147,S_r14_Filter_Guess),(183,S_r14_wide),(184,S_r14_sign)] [] [0,1,4,5,6,7] [] H148 (a1 fs147 (a1 fs183 (a1 fs184 a0))) Tryz.func148 rfl (by kernel_rfl) (by kernel_rfl) (fun x=>by kernel_rfl)
theorem fs92:Ok0 92 S_r14_LearnBack:=
 fo [(21,S_r2_AllWide),(54,S_r2_Wide),(86,S_r14_LearnMay),(146,S_r14_NewFilter),(147,S_r14_Filter_Guess),(148,S_r14_Filter_Tell)] [] [0,1,4,5,6,7,8,9,10,11] [] H92 (a1 fs21 (a1 fs54 (a1 fs86 (a1 fs146 (a1 fs147 (a1 fs148 a0)))))) Tryz.func92 rfl (by kernel_rfl) (by kernel_rfl) (fun x=>by kernel_rfl)
theorem fs43:Ok0 43 S_r19_back:=
 fo [(89,S_r14_FixedBack),(90,S_r14_LinearBack),(91,S_r14_LongBack),(92,S_r14_LearnBack)] [] [0,2,3,4,5,8,19,32,57] [1] H43 (a1 fs89 (a1 fs90 (a1 fs91 (a1 fs92 a0)))) Tryz.func43 rfl (by kernel_rfl) (by kernel_rfl) (fun x=>by kernel_rfl)
theorem fs13:Ok0 13 S_r19_SubRow:=
 fo [(20,S_r19_SameSub),(21,S_r2_AllWide),(22,S_r2_Up),(39,S_r19_named),(40,S_r19_warms),(41,S_r19_guessed),(42,S_r8_PartsMay),(43,S_r19_back)] [] [0,1,4,5,6,7,8,9,10,11,12] [2] H13 (a1 fs20 (a1 fs21 (a1 fs22 (a1 fs39 (a1 fs40 (a1 fs41 (a1 fs42 (a1 fs43 a0)))))))) Tryz.func13 rfl (by kernel_rfl) (by kernel_rfl) (fun x=>by kernel_rfl)
theorem fs61:Ok0 61 S_r19_SubMay:=
 fo [(13,S_r19_SubRow)] [] [0,1,4,5,6] [2] H61 (a1 fs13 a0) Tryz.func61 rfl (by kernel_rfl) (by kernel_rfl) (fun x=>by kernel_rfl)
theorem fs172:Ok0 172 S_r2_Low:=
 fo [] [] [0,2] [] H172 a0 Tryz.func172 rfl (by kernel_rfl) (by kernel_rfl) (fun x=>by kernel_rfl)
theorem fs173:Ok0 173 S_r2_High:=
 fo [] [] [0,2] [] H173 a0 Tryz.func173 rfl (by kernel_rfl) (by kernel_rfl) (fun x=>by kernel_rfl)
theorem fs110:Ok0 110 S_r2_Fits:=
 fo [(172,S_r2_Low),(173,S_r2_High)] [] [0,1,4] [] H110 (a1 fs172 (a1 fs173 a0)) Tryz.func110 rfl (by kernel_rfl) (by kernel_rfl) (fun x=>by kernel_rfl)
theorem fs62:Ok0 62 S_r2_Width:=
 fo [(110,S_r2_Fits)] [] [0,2,3,4] [] H62 (a1 fs110 a0) Tryz.func62 rfl (by kernel_rfl) (by kernel_rfl) (fun x=>by kernel_rfl)
theorem fs64:Ok0 64 S_r8_PutSigned:=
 fo [(24,S_r2_Writer_Put)] [] [0,1,2,6] [] H64 (a1 fs24 a0) Tryz.func64 rfl (by kernel_rfl) (by kernel_rfl) (fun x=>by kernel_rfl)
theorem fs63:Ok0 63 S_r19_putLinear:=
 fo [(24,S_r2_Writer_Put),(62,S_r2_Width),(64,S_r8_PutSigned)] [] [0,1,4] [3] H63 (a1 fs24 (a1 fs62 (a1 fs64 a0))) Tryz.func63 rfl (by kernel_rfl) (by kernel_rfl) (fun x=>by kernel_rfl)
theorem fs196:Ok0 196 S_r2_Zig:=
 fo [] [] [0,2,3] [] H196 a0 Tryz.func196 rfl (by kernel_rfl) (by kernel_rfl) (fun x=>by kernel_rfl)
theorem fs175:Ok0 175 S_r8_Fold:=
 fo [(54,S_r2_Wide),(196,S_r2_Zig)] [] [0,2] [] H175 (a1 fs54 (a1 fs196 a0)) Tryz.func175 rfl (by kernel_rfl) (by kernel_rfl) (fun x=>by kernel_rfl)
theorem fs201:Ok0 201 S_r8_RiceCost:=
 fo [(54,S_r2_Wide),(88,S_r8_parameter),(175,S_r8_Fold)] [] [0,1,4,5] [] H201 (a1 fs54 (a1 fs88 (a1 fs175 a0))) Tryz.func201 rfl (by kernel_rfl) (by kernel_rfl) (fun x=>by kernel_rfl)
theorem fs194:Ok0 194 S_r8_RiceSum:=
 fo [(201,S_r8_RiceCost)] [] [0,1,4,5,6] [] H194 (a1 fs201 a0) Tryz.func194 rfl (by kernel_rfl) (by kernel_rfl) (fun x=>by kernel_rfl)
theorem fs174:Ok0 174 S_r8_partCost:=
 fo [(62,S_r2_Width),(194,S_r8_RiceSum)] [] [0,1,4] [] H174 (a1 fs62 (a1 fs194 a0)) Tryz.func174 rfl (by kernel_rfl) (by kernel_rfl) (fun x=>by kernel_rfl)
theorem fs111:Ok0 111 S_r8_PartsCost:=
 fo [(21,S_r2_AllWide),(42,S_r8_PartsMay),(87,S_r8_PartsSizes),(174,S_r8_partCost)] [] [0,1,2,3,8,9,10,11,12] [4] H111 (a1 fs21 (a1 fs42 (a1 fs87 (a1 fs174 a0)))) Tryz.func111 rfl (by kernel_rfl) (by kernel_rfl) (fun x=>by kernel_rfl)
theorem fs176:Ok0 176 S_r2_Writer_Unary:=
 fo [] [] [0,1,4,5] [] H176 a0 Tryz.func176 rfl (by kernel_rfl) (by kernel_rfl) (fun x=>by kernel_rfl)
theorem fs112:Ok0 112 S_r8_RicePut:=
 fo [(21,S_r2_AllWide),(24,S_r2_Writer_Put),(88,S_r8_parameter),(175,S_r8_Fold),(176,S_r2_Writer_Unary)] [] [0,1,2,6,7,8,9] [] H112 (a1 fs21 (a1 fs24 (a1 fs88 (a1 fs175 (a1 fs176 a0))))) Tryz.func112 rfl (by kernel_rfl) (by kernel_rfl) (fun x=>by kernel_rfl)
theorem fs65:Ok0 65 S_r8_PartsPut:=
 fo [(24,S_r2_Writer_Put),(62,S_r2_Width),(64,S_r8_PutSigned),(87,S_r8_PartsSizes),(111,S_r8_PartsCost),(112,S_r8_RicePut)] [] [0,1,2,3,4,10,11,12,13,14,15] [6] H65 (a1 fs24 (a1 fs62 (a1 fs64 (a1 fs87 (a1 fs111 (a1 fs112 a0)))))) Tryz.func65 rfl (by kernel_rfl) (by kernel_rfl) (fun x=>by kernel_rfl)
theorem fs26:Ok0 26 S_r19_SubPut:=
 fo [(24,S_r2_Writer_Put),(41,S_r19_guessed),(61,S_r19_SubMay),(62,S_r2_Width),(63,S_r19_putLinear),(64,S_r8_PutSigned),(65,S_r8_PartsPut)] [] [0,1,2,6,7,8,32,39,44,59] [4] H26 (a1 fs24 (a1 fs41 (a1 fs61 (a1 fs62 (a1 fs63 (a1 fs64 (a1 fs65 a0))))))) Tryz.func26 rfl (by kernel_rfl) (by kernel_rfl) (fun x=>by kernel_rfl)
theorem fs28:Ok0 28 S_r2_Writer_Len:=
 fo [] [] [0,2] [] H28 a0 Tryz.func28 rfl (by kernel_rfl) (by kernel_rfl) (fun x=>by kernel_rfl)
theorem fs29:Ok0 29 S_r2_Same:=
 fo [] [] [0,1,4] [] H29 a0 Tryz.func29 rfl (by kernel_rfl) (by kernel_rfl) (fun x=>by kernel_rfl)
theorem fs30:Ok0 30 S_bits_Writer_Bytes:=
 fo [] [] [0,2] [] H30 a0 Tryz.func30 rfl (by kernel_rfl) (by kernel_rfl) (fun x=>by kernel_rfl)
theorem fs31:Ok0 31 S_r2_Writer_Bytes:=
 fo [] [] [0,2,3,4] [] H31 a0 Tryz.func31 rfl (by kernel_rfl) (by kernel_rfl) (fun x=>by kernel_rfl)
theorem fs7:Ok0 7 S_l15_SubPuts:=
 fo [(10,S_l15_known),(11,S_l15_Small),(23,S_bits_Writer_Put),(24,S_r2_Writer_Put),(25,S_sub_Put),(26,S_r19_SubPut),(27,S_bits_Writer_Len),(28,S_r2_Writer_Len),(29,S_r2_Same),(30,S_bits_Writer_Bytes),(31,S_r2_Writer_Bytes)] [(29,.pair (.list true (.int .u8)) Q0),(30,.pair (.list true (.int .u8)) Q0),(31,.pair (.list true (.int .u8)) .unit),(32,.pair (.list true (.int .u8)) .unit)] [0,1,2,6,7,8,9,10] [3] H7 (a1 fs10 (a1 fs11 (a1 fs23 (a1 fs24 (a1 fs25 (a1 fs26 (a1 fs27 (a1 fs28 (a1 fs29 (a1 fs30 (a1 fs31 a0))))))))))) Tryz.func7 rfl (by kernel_rfl) (by kernel_rfl) (fun x=>by kernel_rfl)
end Go.Ab
namespace Go.Ab
section
variable {σ β:Type} {f:σ→Option (σ ⊕ β)}
theorem iterN_more:∀ (n m:Nat) (s:σ) {b:β},iterN f n s=some b→iterN f (n+m) s=some b
 |0,_,s,b,h=>by simp [iterN] at h
 |n+1,m,s,b,h=>by
  rw [show n+1+m=n+m+1 from by omega]
  simp only [iterN] at h ⊢
  split at h
  ·cases h
  ·rename_i s' hs
   exact iterN_more n m s' h
  ·exact h
theorem iterN_det {n m:Nat} {s:σ} {b b':β} (h:iterN f n s=some b) (h':iterN f m s=some b'):b=b':=by
 have h1:=iterN_more n m s h
 have h2:=iterN_more m n s h'
 rw [Nat.add_comm,h1] at h2
 exact Option.some.inj h2
theorem iter_of {n:Nat} {s:σ} {b:β} (h:iterN f n s=some b):iter f s=some b:=by
 unfold iter
 have hx:∃ n b,iterN f n s=some b:=⟨n,b,h⟩
 rw [dif_pos hx]
 exact congrArg some (iterN_det hx.choose_spec.choose_spec h)
theorem iter_none {s:σ} (h:∀ n,iterN f n s=none):iter f s=none:=by
 unfold iter
 rw [dif_neg]
 rintro ⟨n,b,hn⟩
 rw [h n] at hn;cases hn
theorem iter_done {s:σ} {b:β} (h:f s=some (.inr b)):iter f s=some b:=iter_of (n:=1) (by simp [iterN,h])
theorem iter_step {s s':σ} (h:f s=some (.inl s')):iter f s=iter f s':=by
 by_cases hx:∃ n b,iterN f n s'=some b
 ·obtain ⟨n,b,hb⟩:=hx
  rw [iter_of hb]
  exact iter_of (n:=n+1) (by simp [iterN,h,hb])
 ·have h':∀ n,iterN f n s'=none:=fun n=>by
   cases hn:iterN f n s' with
   |none=>rfl
   |some b=>exact absurd ⟨n,b,hn⟩ hx
  rw [iter_none h']
  refine iter_none fun n=>?_
  cases n with
  |zero=>rfl
  |succ n=>simp [iterN,h,h' n]
theorem iter_up (S:Nat→σ) (n:Nat) {b:β} (hstep:∀ i,i<n→f (S i)=some (.inl (S (i+1)))) (hexit:f (S n)=some (.inr b)):∀ (k:Nat),k≤n→iter f (S (n-k))=some b
 |0,_=>iter_done hexit
 |k+1,hk=>by
  rw [iter_step (hstep (n-(k+1)) (by omega)),show n-(k+1)+1=n-k from by omega]
  exact iter_up S n hstep hexit k (by omega)
theorem iter_count (S:Nat→σ) (n:Nat) {b:β} (hstep:∀ i,i<n→f (S i)=some (.inl (S (i+1)))) (hexit:f (S n)=some (.inr b)):iter f (S 0)=some b:=by
 have:=iter_up S n hstep hexit n (Nat.le_refl _)
 rwa [Nat.sub_self] at this
end
theorem wrap64 {n:Int} (h:-9223372036854775808≤n∧n≤9223372036854775807):IntKind.wrap .i64 n=n:=by
 simp only [IntKind.wrap,IntKind.bits,IntKind.signed]
 simp
 split<;>omega
theorem wrapu64 {n:Int} (h:0≤n∧n<18446744073709551616):IntKind.wrap .u64 n=n:=by
 simp only [IntKind.wrap,IntKind.bits,IntKind.signed]
 simp
 omega
theorem imin_eq (x y:Int):imin x y=min x y:=by
 simp only [imin,cond_eq_ite,decide_eq_true_eq]
 split<;>omega
theorem imax_eq (x y:Int):imax x y=max x y:=by
 simp only [imax,cond_eq_ite,decide_eq_true_eq]
 split<;>omega
theorem lim_of {n:Nat} (h:n<2147483648):lim n=true:=by simp [lim,h]
end Go.Ab
namespace Go.Ab
section
variable {α A σ β:Type}
def foldE (g:A→α→A ⊕ β):List α→A→A ⊕ β
 | [],a=>.inl a
 |x::r,a=>match g a x with
  |.inl a'=>foldE g r a'
  |.inr b=>.inr b
def endE (fin:A→β):A ⊕ β→β
 |.inl a=>fin a
 |.inr b=>b
theorem iter_list_from {f:σ→Option (σ ⊕ β)} (l:List α) (S:Nat→A→σ) (g:A→α→A ⊕ β) (I:Nat→A→Prop) (fin:A→β)
  (hstep:∀ i (h:i<l.length) a,I i a→(∀ a',g a l[i]=.inl a'→f (S i a)=some (.inl (S (i+1) a'))∧I (i+1) a')∧(∀ b,g a l[i]=.inr b→f (S i a)=some (.inr b)))
  (hexit:∀ a,I l.length a→f (S l.length a)=some (.inr (fin a))):∀ (k i:Nat) (a:A),i+k=l.length→I i a→iter f (S i a)=some (endE fin (foldE g (l.drop i) a))
 |0,i,a,hi,ha=>by
  obtain rfl:i=l.length:=by omega
  rw [List.drop_length]
  exact iter_done (hexit a ha)
 |k+1,i,a,hi,ha=>by
  have hlt:i<l.length:=by omega
  rw [List.drop_eq_getElem_cons hlt]
  obtain ⟨h1,h2⟩:=hstep i hlt a ha
  simp only [foldE]
  cases hg:g a l[i] with
  |inl a'=>
   obtain ⟨h3,h4⟩:=h1 a' hg
   rw [iter_step h3]
   exact iter_list_from l S g I fin hstep hexit k (i+1) a' (by omega) h4
  |inr b=>exact iter_done (h2 b hg)
theorem iter_list {f:σ→Option (σ ⊕ β)} (l:List α) (S:Nat→A→σ) (g:A→α→A ⊕ β) (I:Nat→A→Prop) (fin:A→β)
  (hstep:∀ i (h:i<l.length) a,I i a→(∀ a',g a l[i]=.inl a'→f (S i a)=some (.inl (S (i+1) a'))∧I (i+1) a')∧(∀ b,g a l[i]=.inr b→f (S i a)=some (.inr b)))
  (hexit:∀ a,I l.length a→f (S l.length a)=some (.inr (fin a))) {a:A} (ha:I 0 a):iter f (S 0 a)=some (endE fin (foldE g l a)):=by
 have:=iter_list_from l S g I fin hstep hexit l.length 0 a (by omega) ha
 rwa [List.drop_zero] at this
theorem iter_all {f:σ→Option (σ ⊕ β)} (l:List α) (S:Nat→σ) (p:α→Bool) {bt bf:β}
  (hgood:∀ i (h:i<l.length),p l[i]=true→f (S i)=some (.inl (S (i+1)))) (hbad:∀ i (h:i<l.length),p l[i]=false→f (S i)=some (.inr bf))
  (hexit:f (S l.length)=some (.inr bt)):iter f (S 0)=some (bif l.all p then bt else bf):=by
 have h:=iter_list (A:=Unit) l (fun i _=>S i) (fun _ x=>bif p x then .inl () else .inr bf) (fun _ _=>True) (fun _=>bt) (fun i h a _=>?_) (fun _ _=>hexit) (a:=()) trivial
 ·rw [h]
  congr 1
  clear h hgood hbad hexit
  induction l with
  |nil=>rfl
  |cons x l ih=>
   simp only [foldE,List.all_cons]
   cases p x with
   |true=>simpa using ih
   |false=>rfl
 ·cases hp:p l[i] with
  |true=>exact ⟨fun a' _=>⟨hgood i h hp,trivial⟩,fun b hb=>by simp [hp] at hb⟩
  |false=>exact ⟨fun a' ha=>by simp [hp] at ha,fun b hb=>by simp [hp] at hb;rw [←hb];exact hbad i h hp⟩
end
theorem gidx_get {α:Type} {l:List α} {i:Nat} (h:i<l.length):gidx l (i:Int)=some l[i]:=by
 unfold gidx
 rw [if_pos (Int.natCast_nonneg i),Int.toNat_natCast,List.getElem?_eq_getElem h]
def wideB (x:Int):Bool:=decide (-1073741824≤x)&&decide (x<1073741824)
theorem wideB_iff {x:Int}:wideB x=true↔-1073741824≤x∧x<1073741824:=by simp [wideB]
def short {α:Type} (l:List α):Prop:=l.length<1000000
theorem wrap_succ {i:Nat} (h:i<1000000):IntKind.wrap .i64 ((i:Int)+1)=((i+1:Nat):Int):=by
 rw [wrap64 (by omega)];omega
theorem dlt {i n:Nat} (h:i<n):decide ((i:Int)<(n:Int))=true:=by simp;omega
theorem sub_allWide_eq {l:List Int} (hl:short l):F_sub_allWide l=some (l.all wideB):=by
 unfold F_sub_allWide
 have:=iter_all (f:=F_sub_allWide_l0) l (fun i=>(l,((l.length:Int),((i:Int),())))) wideB (bt:=Sum.inl ()) (bf:=Sum.inr (false,()))
  (fun i h hp=>by
   have hp:=wideB_iff.1 hp
   have h1:decide (l[i] < -1073741824)=false:=by simp;omega
   have h2:decide (l[i]≥1073741824)=false:=by simp;omega
   simp only [F_sub_allWide_l0,dlt h,cond_true,gidx_get h,Option.bind_some,h1,h2,cond_false,wrap_succ (Nat.lt_trans h hl)])
  (fun i h hp=>by
   simp only [F_sub_allWide_l0,dlt h,cond_true,gidx_get h,Option.bind_some]
   by_cases h1:l[i] < -1073741824
   ·simp [h1]
   ·have h2:l[i]≥1073741824:=by
     simp only [wideB,Bool.and_eq_false_iff,decide_eq_false_iff_not] at hp;omega
    simp [h1,h2])
  (by simp [F_sub_allWide_l0])
 simp only [Int.natCast_zero] at this
 rw [this]
 cases l.all wideB<;>rfl
end Go.Ab
namespace Go.Ab
theorem linear_wide_eq (x:Int):F_linear_wide x=some (wideB x):=by
 unfold F_linear_wide wideB
 by_cases h:-1073741824≤x<;>simp [h]
theorem long_wide_eq (x:Int):F_long_wide x=some (wideB x):=by
 unfold F_long_wide wideB
 by_cases h:-1073741824≤x<;>simp [h]
theorem learn_wide_eq (x:Int):F_learn_wide x=some (wideB x):=by
 unfold F_learn_wide wideB
 by_cases h:-1073741824≤x<;>simp [h]
theorem ref_Wide_eq (x:Int):F_r2_Wide x=some (wideB x):=by
 unfold F_r2_Wide wideB
 by_cases h:-1073741824≤x<;>simp [h]
theorem sample_wide_eq (x:Int):F_sample_wide x=some (wideB x):=by
 unfold F_sample_wide wideB
 by_cases h:-1073741824≤x<;>simp [h]
theorem linear_allWide_eq {l:List Int} (hl:short l):F_linear_allWide l=some (l.all wideB):=by
 unfold F_linear_allWide
 have:=iter_all (f:=F_linear_allWide_l0) l (fun i=>(l,((l.length:Int),((i:Int),())))) wideB (bt:=Sum.inl ()) (bf:=Sum.inr (false,()))
  (fun i h hp=>by simp [F_linear_allWide_l0,gidx_get h,linear_wide_eq,hp,wrap_succ (Nat.lt_trans h hl),h])
  (fun i h hp=>by simp [F_linear_allWide_l0,gidx_get h,linear_wide_eq,hp,h])
  (by simp [F_linear_allWide_l0])
 simp only [Int.natCast_zero] at this
 rw [this]
 cases l.all wideB<;>rfl
theorem long_allWide_eq {l:List Int} (hl:short l):F_long_allWide l=some (l.all wideB):=by
 unfold F_long_allWide
 have:=iter_all (f:=F_long_allWide_l0) l (fun i=>(l,((l.length:Int),((i:Int),())))) wideB (bt:=Sum.inl ()) (bf:=Sum.inr (false,()))
  (fun i h hp=>by simp [F_long_allWide_l0,gidx_get h,long_wide_eq,hp,wrap_succ (Nat.lt_trans h hl),h])
  (fun i h hp=>by simp [F_long_allWide_l0,gidx_get h,long_wide_eq,hp,h])
  (by simp [F_long_allWide_l0])
 simp only [Int.natCast_zero] at this
 rw [this]
 cases l.all wideB<;>rfl
theorem learn_allWide_eq {l:List Int} (hl:short l):F_learn_allWide l=some (l.all wideB):=by
 unfold F_learn_allWide
 have:=iter_all (f:=F_learn_allWide_l0) l (fun i=>(l,((l.length:Int),((i:Int),())))) wideB (bt:=Sum.inl ()) (bf:=Sum.inr (false,()))
  (fun i h hp=>by simp [F_learn_allWide_l0,gidx_get h,learn_wide_eq,hp,wrap_succ (Nat.lt_trans h hl),h])
  (fun i h hp=>by simp [F_learn_allWide_l0,gidx_get h,learn_wide_eq,hp,h])
  (by simp [F_learn_allWide_l0])
 simp only [Int.natCast_zero] at this
 rw [this]
 cases l.all wideB<;>rfl
theorem ref_AllWide_eq {l:List Int} (hl:short l):F_r2_AllWide l=some (l.all wideB):=by
 unfold F_r2_AllWide
 have:=iter_all (f:=F_r2_AllWide_l0) l (fun i=>(l,((i:Int),()))) wideB (bt:=Sum.inl ()) (bf:=Sum.inr (false,()))
  (fun i h hp=>by simp [F_r2_AllWide_l0,gidx_get h,ref_Wide_eq,hp,wrap_succ (Nat.lt_trans h hl),h])
  (fun i h hp=>by simp [F_r2_AllWide_l0,gidx_get h,ref_Wide_eq,hp,h])
  (by simp [F_r2_AllWide_l0])
 simp only [Int.natCast_zero] at this
 rw [this]
 cases l.all wideB<;>rfl
theorem fixed_wide_eq {l:List Int} (hl:short l):F_fixed_wide l=some (l.all wideB):=by
 have e:F_fixed_wide_l0=F_sub_allWide_l0:=rfl
 have:F_fixed_wide l=F_sub_allWide l:=by unfold F_fixed_wide F_sub_allWide;rw [e]
 rw [this,sub_allWide_eq hl]
def coefB (x:Int):Bool:=decide (-32768≤x)&&decide (x<32768)
def linB (c:List Int) (s:Int):Bool:=decide (1≤c.length)&&(decide (c.length≤32)&&(decide (0≤s)&&(decide (s≤15)&&c.all coefB)))
theorem linear_May_eq {c:List Int} {s:Int} (hl:short c):F_linear_May (c,s)=some (linB c s):=by
 have:=iter_all (f:=F_linear_May_l0) c (fun i=>(c,((c.length:Int),((i:Int),())))) coefB (bt:=Sum.inl ()) (bf:=Sum.inr (false,()))
  (fun i h hp=>by
   simp only [coefB,Bool.and_eq_true,decide_eq_true_eq] at hp
   have h1:¬ c[i] < -32768:=by omega
   have h2:¬ c[i]≥32768:=by omega
   simp [F_linear_May_l0,gidx_get h,wrap_succ (Nat.lt_trans h hl),h,h1,h2])
  (fun i h hp=>by
   simp only [coefB,Bool.and_eq_false_iff,decide_eq_false_iff_not] at hp
   by_cases h1:c[i] < -32768
   ·simp [F_linear_May_l0,gidx_get h,h,h1]
   ·have h2:c[i]≥32768:=by omega
    simp [F_linear_May_l0,gidx_get h,h,h1,h2])
  (by simp [F_linear_May_l0])
 simp only [Int.natCast_zero] at this
 unfold F_linear_May linB
 by_cases h1:c.length<1
 ·have:((c.length:Nat):Int)<1:=by omega
  have:¬ 1≤c.length:=by omega
  simp [*]
 ·by_cases h2:c.length > 32
  ·have:((c.length:Nat):Int) > 32:=by omega
   have:¬ ((c.length:Nat):Int)<1:=by omega
   have:¬ c.length≤32:=by omega
   simp [*]
  ·by_cases h3:s<0
   ·have:¬ ((c.length:Nat):Int) > 32:=by omega
    have:¬ ((c.length:Nat):Int)<1:=by omega
    have:¬ 0≤s:=by omega
    simp [*]
   ·by_cases h4:s > 15
    ·have:¬ ((c.length:Nat):Int) > 32:=by omega
     have:¬ ((c.length:Nat):Int)<1:=by omega
     have:¬ s≤15:=by omega
     simp [*]
    ·have g1:¬ ((c.length:Nat):Int) > 32:=by omega
     have g2:¬ ((c.length:Nat):Int)<1:=by omega
     simp only [g1,g2,h3,h4,decide_false,cond_false,Option.bind_some,this]
     have g3:1≤c.length:=by omega
     have g4:c.length≤32:=by omega
     have g5:0≤s:=by omega
     have g6:s≤15:=by omega
     simp only [g3,g4,g5,g6,decide_true,Bool.true_and]
     cases c.all coefB<;>rfl
theorem ref_LinearMay_eq {c:List Int} {s:Int} (hl:short c):F_r14_LinearMay (c,s)=some (linB c s):=by
 have:=iter_all (f:=F_r14_LinearMay_l0) c (fun i=>(c,(s,((i:Int),())))) coefB (bt:=Sum.inl (c,(s,()))) (bf:=Sum.inr (false,()))
  (fun i h hp=>by
   simp only [coefB,Bool.and_eq_true,decide_eq_true_eq] at hp
   have h1:¬ c[i] < -32768:=by omega
   have h2:¬ c[i]≥32768:=by omega
   simp [F_r14_LinearMay_l0,gidx_get h,wrap_succ (Nat.lt_trans h hl),h,h1,h2])
  (fun i h hp=>by
   simp only [coefB,Bool.and_eq_false_iff,decide_eq_false_iff_not] at hp
   by_cases h1:c[i] < -32768
   ·simp [F_r14_LinearMay_l0,gidx_get h,h,h1]
   ·have h2:c[i]≥32768:=by omega
    simp [F_r14_LinearMay_l0,gidx_get h,h,h1,h2])
  (by simp [F_r14_LinearMay_l0])
 simp only [Int.natCast_zero] at this
 unfold F_r14_LinearMay linB
 rw [this]
 cases hc:c.all coefB with
 |false=>simp
 |true=>
  simp only [cond_true,Option.bind_some,Bool.and_true]
  by_cases h1:1≤c.length
  ·by_cases h2:c.length≤32
   ·by_cases h3:0≤s
    ·have g1:((c.length:Nat):Int)≥1:=by omega
     have g2:((c.length:Nat):Int)≤32:=by omega
     simp [*]
    ·have g1:((c.length:Nat):Int)≥1:=by omega
     have g2:((c.length:Nat):Int)≤32:=by omega
     have g3:¬ s≥0:=by omega
     simp [*]
   ·have g1:((c.length:Nat):Int)≥1:=by omega
    have g2:¬ ((c.length:Nat):Int)≤32:=by omega
    simp [*]
  ·have g1:¬ ((c.length:Nat):Int)≥1:=by omega
   simp only [g1,h1,decide_false,cond_false,Bool.false_and]
def tapB (x:Int):Bool:=decide (-64≤x)&&decide (x≤64)
def longB (lag:Int) (t:List Int):Bool:=decide (2≤lag)&&(decide (lag≤1024)&&t.all tapB)
theorem long_May_eq {t:List Int} {lag:Int} (ht:t.length=3):F_long_May (lag,t)=some (longB lag t):=by
 have:=iter_all (f:=F_long_May_l0) t (fun i=>(t,((i:Int),()))) tapB (bt:=Sum.inl ()) (bf:=Sum.inr (false,()))
  (fun i h hp=>by
   simp only [tapB,Bool.and_eq_true,decide_eq_true_eq] at hp
   have h0:(i:Int)<3:=by omega
   have h1:¬ t[i] < -64:=by omega
   have h2:¬ t[i] > 64:=by omega
   simp [F_long_May_l0,gidx_get h,wrap_succ (show i<1000000 by omega),h0,h1,h2])
  (fun i h hp=>by
   simp only [tapB,Bool.and_eq_false_iff,decide_eq_false_iff_not] at hp
   have h0:(i:Int)<3:=by omega
   by_cases h1:t[i] < -64
   ·simp [F_long_May_l0,gidx_get h,h0,h1]
   ·have h2:t[i] > 64:=by omega
    simp [F_long_May_l0,gidx_get h,h0,h1,h2])
  (by rw [ht];simp [F_long_May_l0])
 simp only [Int.natCast_zero] at this
 unfold F_long_May longB
 by_cases h1:lag<2
 ·have:¬ 2≤lag:=by omega
  simp [*]
 ·by_cases h2:lag > 1024
  ·have:¬ lag≤1024:=by omega
   simp [*]
  ·have g1:2≤lag:=by omega
   have g2:lag≤1024:=by omega
   simp only [h1,h2,g1,g2,decide_false,decide_true,cond_false,Option.bind_some,this,Bool.true_and]
   cases t.all tapB<;>rfl
theorem ref_LongMay_eq {t:List Int} {lag:Int} (ht:t.length=3):F_r14_LongMay (lag,t)=some (longB lag t):=by
 have:=iter_all (f:=F_r14_LongMay_l0) t (fun i=>(lag,((i:Int),(t,())))) tapB (bt:=Sum.inl (lag,())) (bf:=Sum.inr (false,()))
  (fun i h hp=>by
   simp only [tapB,Bool.and_eq_true,decide_eq_true_eq] at hp
   have h0:(i:Int)<3:=by omega
   have h1:¬ t[i] < -64:=by omega
   have h2:¬ t[i] > 64:=by omega
   simp [F_r14_LongMay_l0,gidx_get h,wrap_succ (show i<1000000 by omega),h0,h1,h2])
  (fun i h hp=>by
   simp only [tapB,Bool.and_eq_false_iff,decide_eq_false_iff_not] at hp
   have h0:(i:Int)<3:=by omega
   by_cases h1:t[i] < -64
   ·simp [F_r14_LongMay_l0,gidx_get h,h0,h1]
   ·have h2:t[i] > 64:=by omega
    simp [F_r14_LongMay_l0,gidx_get h,h0,h1,h2])
  (by rw [ht];simp [F_r14_LongMay_l0])
 simp only [Int.natCast_zero] at this
 unfold F_r14_LongMay longB
 rw [this]
 cases hc:t.all tapB with
 |false=>simp
 |true=>
  simp only [cond_true,Option.bind_some,Bool.and_true]
  by_cases h1:2≤lag<;>simp [h1]
def stageB (s:Int×(Int×Unit)):Bool:=decide (1≤s.1)&&(decide (s.1≤32)&&(decide (0≤s.2.1)&&decide (s.2.1≤8)))
def learnB (l:List (Int×(Int×Unit))):Bool:=decide (l.length≤3)&&l.all stageB
theorem learn_valid_eq (s:Int×(Int×Unit)):F_learn_valid s=some (stageB s):=by
 unfold F_learn_valid stageB
 by_cases h1:1≤s.1<;>by_cases h2:s.1≤32<;>by_cases h3:0≤s.2.1<;>simp [h1,h2,h3]
theorem ref_StageMay_eq (s:Int×(Int×Unit)):F_r14_StageMay s=some (stageB s):=by
 unfold F_r14_StageMay stageB
 by_cases h1:1≤s.1<;>by_cases h2:s.1≤32<;>by_cases h3:0≤s.2.1<;>simp [h1,h2,h3]
theorem learn_May_eq {l:List (Int×(Int×Unit))} (hl:short l):F_learn_May l=some (learnB l):=by
 have:=iter_all (f:=F_learn_May_l0) l (fun i=>(l,((l.length:Int),((i:Int),())))) stageB (bt:=Sum.inl ()) (bf:=Sum.inr (false,()))
  (fun i h hp=>by simp [F_learn_May_l0,gidx_get h,learn_valid_eq,hp,wrap_succ (Nat.lt_trans h hl),h])
  (fun i h hp=>by simp [F_learn_May_l0,gidx_get h,learn_valid_eq,hp,h])
  (by simp [F_learn_May_l0])
 simp only [Int.natCast_zero] at this
 unfold F_learn_May learnB
 by_cases h:l.length≤3
 ·have g:¬ ((l.length:Nat):Int) > 3:=by omega
  simp only [g,h,decide_false,decide_true,cond_false,this,Option.bind_some,Bool.true_and]
  cases l.all stageB<;>rfl
 ·have g:((l.length:Nat):Int) > 3:=by omega
  simp [g,h]
theorem ref_LearnMay_eq {l:List (Int×(Int×Unit))} (hl:short l):F_r14_LearnMay l=some (learnB l):=by
 have:=iter_all (f:=F_r14_LearnMay_l0) l (fun i=>(l,((i:Int),()))) stageB (bt:=Sum.inl (l,())) (bf:=Sum.inr (false,()))
  (fun i h hp=>by simp [F_r14_LearnMay_l0,gidx_get h,ref_StageMay_eq,hp,wrap_succ (Nat.lt_trans h hl),h])
  (fun i h hp=>by simp [F_r14_LearnMay_l0,gidx_get h,ref_StageMay_eq,hp,h])
  (by simp [F_r14_LearnMay_l0])
 simp only [Int.natCast_zero] at this
 unfold F_r14_LearnMay learnB
 rw [this]
 cases l.all stageB with
 |false=>simp
 |true=>
  by_cases h:l.length≤3
  ·have g:((l.length:Nat):Int)≤3:=by omega
   simp [g,h]
  ·have g:¬ ((l.length:Nat):Int)≤3:=by omega
   simp only [cond_true,Option.bind_some,g,h,decide_false,Bool.false_and]
end Go.Ab
namespace Go.Ab
@[reducible] def W (n:Int):Int:=IntKind.wrap .i64 n
theorem wrap_bmod (n:Int):IntKind.wrap .i64 n=Int.bmod n 18446744073709551616:=by
 simp only [IntKind.wrap,IntKind.bits,IntKind.signed,Int.bmod]
 simp
 split<;>split<;>omega
theorem W_of_wide {n:Int} (h:wideB n=true):W n=n:=by
 have:=wideB_iff.1 h
 exact wrap64 (by omega)
def backO (guess:List Int→Int):List Int→List Int→Option (List Int)
 | [],out=>some out
 |x::r,out=>bif wideB (W (x+guess out)) then backO guess r (out++[W (x+guess out)]) else none
def stepB {β:Type} (guess:List Int→Int) (bad:β) (out:List Int) (x:Int):List Int ⊕ β:=bif wideB (W (x+guess out)) then .inl (out++[W (x+guess out)]) else .inr bad
theorem endE_stepB {β:Type} (guess:List Int→Int) (bad:β) (fin:List Int→β):∀ (l out:List Int),endE fin (foldE (stepB guess bad) l out)=match backO guess l out with|some r=>fin r|none=>bad
 | [],out=>rfl
 |x::l,out=>by
  simp only [foldE,stepB,backO]
  cases wideB (W (x+guess out)) with
  |true=>exact endE_stepB guess bad fin l _
  |false=>rfl
theorem backO_wide (guess:List Int→Int):∀ (l out r:List Int),out.all wideB=true→backO guess l out=some r→r.all wideB=true∧r.length=out.length+l.length
 | [],out,r,h,e=>by simp only [backO,sj] at e;subst e;exact ⟨h,by simp⟩
 |x::l,out,r,h,e=>by
  simp only [backO] at e
  cases hw:wideB (W (x+guess out)) with
  |true=>
   rw [hw] at e
   obtain ⟨h1,h2⟩:=backO_wide guess l _ r (by simp [h,hw]) e
   exact ⟨h1,by rw [h2];simp;omega⟩
  |false=>rw [hw] at e;cases e
def resB:Option (List Int)→List Int×Int
 |some r=>(r,0)
 |none=>([],6)
def atB (out:List Int) (i:Nat):Int:=out.getD (out.length-i) 0
def fixG (o:Nat) (out:List Int):Int:=match o with
 | 1=>atB out 1
 | 2=>2*atB out 1-atB out 2
 | 3=>3*atB out 1-3*atB out 2+atB out 3
 | 4=>4*atB out 1-6*atB out 2+4*atB out 3-atB out 4
 |_=>0
theorem guess_1_eq {out:List Int} {i:Nat} (hi:1≤i) (h:i≤out.length) (hs:short out):F_fixed_guess_1 ((i:Int),out)=some (atB out i,out):=by
 unfold F_fixed_guess_1
 have hs:out.length<1000000:=hs
 have e:IntKind.wrap .i64 (((out.length:Nat):Int)-(i:Int))=((out.length-i:Nat):Int):=by rw [wrap64 (by omega)];omega
 simp only [e,gidx_get (show out.length-i<out.length by omega),Option.bind_some,atB]
 rw [List.getD_eq_getElem?_getD,List.getElem?_eq_getElem (by omega)]
 rfl
theorem fixed_guess_eq {out:List Int} {o:Nat} (ho:o≤4) (h:o≤out.length) (hs:short out):∃ g,F_fixed_guess (out,(o:Int))=some g∧∀ x,W (x+g)=W (x+fixG o out):=by
 have g1:=fun (h':1≤out.length)=>guess_1_eq (i:=1) (by omega) h' hs
 have g2:=fun (h':2≤out.length)=>guess_1_eq (i:=2) (by omega) h' hs
 have g3:=fun (h':3≤out.length)=>guess_1_eq (i:=3) (by omega) h' hs
 have g4:=fun (h':4≤out.length)=>guess_1_eq (i:=4) (by omega) h' hs
 simp only [Int.natCast_one,Int.cast_ofNat_Int] at g1 g2 g3 g4
 unfold F_fixed_guess
 have h5:o=0∨o=1∨o=2∨o=3∨o=4:=by omega
 rcases h5 with rfl|rfl|rfl|rfl|rfl
 ·exact ⟨0,rfl,fun x=>rfl⟩
 ·exact ⟨_,by simp [g1 (by omega)];rfl,fun x=>rfl⟩
 ·refine ⟨_,by simp [g1 (by omega),g2 (by omega)];rfl,fun x=>?_⟩
  simp only [W,wrap_bmod,fixG,Int.add_bmod_bmod,Int.sub_bmod_bmod,Int.bmod_sub_bmod]
 ·refine ⟨_,by simp [g1 (by omega),g2 (by omega),g3 (by omega)];rfl,fun x=>?_⟩
  simp only [W,wrap_bmod,fixG,Int.add_bmod_bmod,Int.sub_bmod_bmod,Int.bmod_sub_bmod,Int.bmod_add_bmod]
 ·refine ⟨_,by simp [g1 (by omega),g2 (by omega),g3 (by omega),g4 (by omega)];rfl,fun x=>?_⟩
  simp only [W,wrap_bmod,fixG,Int.add_bmod_bmod,Int.sub_bmod_bmod,Int.bmod_sub_bmod,Int.bmod_add_bmod]
theorem lim_short {n:Nat} (h:n<1000000):lim n=true:=lim_of (by omega)
theorem fixed_Back_eq {warm rest:List Int} {o:Nat} (ho:o≤4) (hw:warm.length=o) (hr:rest.length<100000):
  F_fixed_Back (warm,(rest,(o:Int)))=some (resB (bif warm.all wideB&&rest.all wideB then backO (fixG o) rest warm else none)):=by
 have hsw:short warm:=by unfold short;omega
 have hsr:short rest:=by unfold short;omega
 unfold F_fixed_Back
 have h1:¬ (o:Int)<0:=by omega
 have h2:¬ (o:Int) > 4:=by omega
 have h3:(((warm.length:Nat):Int) != (o:Int))=false:=by simp;omega
 simp only [h1,h2,h3,decide_false,cond_false,Option.bind_some,fixed_wide_eq hsw,fixed_wide_eq hsr]
 cases hw1:warm.all wideB with
 |false=>rfl
 |true=>
  simp only [Bool.not_true,cond_false,Option.bind_some,Bool.true_and]
  cases hw2:rest.all wideB with
  |false=>rfl
  |true=>
   simp only [Bool.not_true,cond_false,cond_true,lim_short hsw]
   have:=iter_list (f:=F_fixed_Back_l0) rest (fun i out=>((o:Int),(rest,((rest.length:Int),((i:Int),(out,())))))) (stepB (fixG o) (Sum.inr ((6:Int),(([]:List Int),()))))
    (fun i out=>o≤out.length∧out.length≤o+i) (fun out=>Sum.inl (out,()))
    (fun i h out hI=>by
     have hlt:i<1000000:=by omega
     have hso:short out:=by unfold short;omega
     obtain ⟨g,hg,hgw⟩:=fixed_guess_eq ho hI.1 hso
     have e:IntKind.wrap .i64 (rest[i]+g)=W (rest[i]+fixG o out):=hgw _
     have hone:F_fixed_wide [W (rest[i]+fixG o out)]=some (wideB (W (rest[i]+fixG o out))):=by rw [fixed_wide_eq (by simp [short])];simp
     simp only [F_fixed_Back_l0,dlt h,cond_true,gidx_get h,Option.bind_some,hg,e,hone,stepB]
     cases hb:wideB (W (rest[i]+fixG o out)) with
     |true=>
      simp only [cond_true,Bool.not_true,cond_false,lim_short (show out.length+1<1000000 by omega),wrap_succ hlt]
      refine ⟨fun a' ha=>?_,fun b hb=>(by cases hb)⟩
      simp only [Sum.inl.injEq] at ha
      subst ha
      exact ⟨rfl,by simp;omega,by simp;omega⟩
     |false=>
      refine ⟨fun a' ha=>(by cases ha),fun b hb=>?_⟩
      simp only [cond_false,Sum.inr.injEq] at hb
      subst hb
      rfl)
    (fun out _=>by simp [F_fixed_Back_l0]) (a:=warm) ⟨by omega,by omega⟩
   simp only [Int.natCast_zero,endE_stepB] at this
   rw [this]
   cases backO (fixG o) rest warm<;>rfl
def pasc (o:Nat):List Int:=match o with
 | 1=>[1]
 | 2=>[2,-1]
 | 3=>[3,-3,1]
 | 4=>[4,-6,4,-1]
 |_=>[]
theorem pascal_eq {o:Nat} (ho:o≤4):F_r14_pascal (o:Int)=some (pasc o):=by
 have h5:o=0∨o=1∨o=2∨o=3∨o=4:=by omega
 rcases h5 with rfl|rfl|rfl|rfl|rfl<;>rfl
theorem pasc_length {o:Nat} (ho:o≤4):(pasc o).length=o:=by
 have h5:o=0∨o=1∨o=2∨o=3∨o=4:=by omega
 rcases h5 with rfl|rfl|rfl|rfl|rfl<;>rfl
def accF (o:Nat) (out:List Int) (x:Int):Nat→Int
 |0=>x
 |k+1=>W (accF o out x k+W ((pasc o).getD k 0*atB out (k+1)))
theorem ref_fixed_inner {rest out:List Int} {o:Nat} {i x:Int} (ho:o≤4) (h:o≤out.length) (hs:short out) (hx:wideB x=true):
  iter F_r14_FixedBack_l0 (rest,((o:Int),(pasc o,(i,(x,((0:Int),(out,())))))))=some (rest,((o:Int),(pasc o,(i,(W (x+fixG o out),(out,())))))):=by
 have hs:out.length<1000000:=hs
 have:=iter_count (f:=F_r14_FixedBack_l0) (fun k=>(rest,((o:Int),(pasc o,(i,(accF o out x k,((k:Int),(out,()))))))))
  o (b:=(rest,((o:Int),(pasc o,(i,(accF o out x o,(out,()))))))) (fun k hk=>by
   have e1:IntKind.wrap .i64 (((out.length:Nat):Int)-1)=((out.length-1:Nat):Int):=by rw [wrap64 (by omega)];omega
   have e2:IntKind.wrap .i64 (((out.length-1:Nat):Int)-(k:Int))=((out.length-(k+1):Nat):Int):=by rw [wrap64 (by omega)];omega
   have h1:(0:Int)≤((out.length-(k+1):Nat):Int):=by omega
   have h2:((out.length-(k+1):Nat):Int)<((out.length:Nat):Int):=by omega
   have h3:k<(pasc o).length:=by rw [pasc_length ho];exact hk
   have h4:(pasc o)[k]=(pasc o).getD k 0:=by rw [List.getD_eq_getElem?_getD,List.getElem?_eq_getElem h3];rfl
   simp only [F_r14_FixedBack_l0,dlt hk,cond_true,gidx_get h3,Option.bind_some,e1,e2,h1,h2,decide_true,Bool.and_self,Int.toNat_natCast,wrap_succ (show k<1000000 by omega),accF,atB,h4])
  (by simp [F_r14_FixedBack_l0])
 simp only [Int.natCast_zero,accF] at this
 rw [this]
 have key:accF o out x o=W (x+fixG o out):=by
  have h5:o=0∨o=1∨o=2∨o=3∨o=4:=by omega
  rcases h5 with rfl|rfl|rfl|rfl|rfl
  ·simp only [accF,fixG,Int.add_zero];exact (W_of_wide hx).symm
  all_goals
   simp only [accF,pasc,fixG,List.getD_cons_zero,List.getD_cons_succ,Nat.zero_add,Nat.reduceAdd,W,wrap_bmod,Int.add_bmod_bmod,Int.bmod_add_bmod]
   congr 1
   omega
 rw [key]
theorem ref_FixedBack_eq {warm rest:List Int} {o:Nat} (ho:o≤4) (hw:warm.length=o) (hr:rest.length<100000):
  F_r14_FixedBack (warm,(rest,(o:Int)))=some (resB (bif warm.all wideB&&rest.all wideB then backO (fixG o) rest warm else none)):=by
 have hsw:short warm:=by unfold short;omega
 have hsr:short rest:=by unfold short;omega
 unfold F_r14_FixedBack
 have h1:¬ (o:Int)<0:=by omega
 have h2:¬ (o:Int) > 4:=by omega
 have h3:(((warm.length:Nat):Int) != (o:Int))=false:=by simp;omega
 simp only [h1,h2,h3,decide_false,cond_false,Option.bind_some,ref_AllWide_eq hsw,ref_AllWide_eq hsr]
 cases hw1:warm.all wideB with
 |false=>rfl
 |true=>
  simp only [Bool.not_true,cond_false,Option.bind_some,Bool.true_and]
  cases hw2:rest.all wideB with
  |false=>rfl
  |true=>
   have hlw:lim (0+warm.length)=true:=lim_short (by omega)
   simp only [Bool.not_true,cond_false,cond_true,hlw,pascal_eq ho,Option.bind_some,List.append_eq,List.nil_append]
   have:=iter_list (f:=F_r14_FixedBack_l1) rest (fun i out=>(rest,((o:Int),(pasc o,((i:Int),(out,())))))) (stepB (fixG o) (Sum.inr ((6:Int),(([]:List Int),()))))
    (fun i out=>o≤out.length∧out.length≤o+i) (fun out=>Sum.inl (out,()))
    (fun i h out hI=>by
     have hlt:i<1000000:=by omega
     have hso:short out:=by unfold short;omega
     have hwx:wideB rest[i]=true:=List.all_eq_true.1 hw2 _ (List.getElem_mem h)
     simp only [F_r14_FixedBack_l1,dlt h,cond_true,gidx_get h,Option.bind_some,ref_fixed_inner ho hI.1 hso hwx,ref_Wide_eq,stepB]
     cases hb:wideB (W (rest[i]+fixG o out)) with
     |true=>
      simp only [cond_true,Bool.not_true,cond_false,lim_short (show out.length+1<1000000 by omega),wrap_succ hlt]
      refine ⟨fun a' ha=>?_,fun b hb=>(by cases hb)⟩
      simp only [Sum.inl.injEq] at ha
      subst ha
      exact ⟨rfl,by simp;omega,by simp;omega⟩
     |false=>
      refine ⟨fun a' ha=>(by cases ha),fun b hb=>?_⟩
      simp only [cond_false,Sum.inr.injEq] at hb
      subst hb
      rfl)
    (fun out _=>by simp [F_r14_FixedBack_l1]) (a:=warm) ⟨by omega,by omega⟩
   simp only [Int.natCast_zero,endE_stepB] at this
   rw [this]
   cases backO (fixG o) rest warm<;>rfl
end Go.Ab
