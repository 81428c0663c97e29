/- Part of the proof: QK, QR, QS, R. Conditions: as each statement tells. -/
import Derived.KernelRfl
import Derived.Test.YtoklkmdhpjocgaaGreatDoorRows
import Derived.ProofKit
import Derived.LaidMore
import Derived.LaidLaws
import Derived.LaidHandle
import Derived.LaidByTextLater
import Derived.OpenShut
import Derived.Handed
import Derived.Test.YtoklkmdhpjocgaaGreatDoorME
noncomputable section
namespace Go.Ab
set_option linter.unusedVariables false
def C_fixed_Rest (x:((List Int)×Int)):Option ((List Int)×Int):= (show Option Z18 from bif decide (x.2<(0:Int)) then some (x.1,(x.2,(true,()))) else (bif decide (x.2 > (4:Int)) then some (x.1,(x.2,(true,()))) else some (x.1,(x.2,(decide (((List.length x.1:Nat):Int)<x.2),()))))).bind fun z1=> bif z1.2.2.1 then some (([]:(List Int)),(1:Int)) else ((C_fixed_wide z1.1).bind fun y2=> bif !y2 then some (([]:(List Int)),(6:Int)) else (bif lim (List.length z1.1) then ((iterN C_fixed_Rest_l1 400 (z1.2.1,((0:Int),(z1.1,())))).bind fun w4=> (C_fixed_wide w4.1).bind fun y5=> bif !y5 then some (([]:(List Int)),(6:Int)) else some (w4.1,(0:Int))) else none))
theorem le_fixed_Rest (x):Le (C_fixed_Rest x) (F_fixed_Rest x):=by
 unfold C_fixed_Rest F_fixed_Rest
 try dsimp only
 repeat' (first|exact Lr _|exact le_fixed_wide _|exact Li le_fixed_Rest_l1|apply Lf|refine Lb ?_ fun _=>?_|(rename_i w;cases w)|(rename_i w _;cases w))
def C_linear_Rest_l0 (st:Z78):Option (Z78 ⊕ Z49):= bif decide (st.2.2.2.1<((List.length st.1:Nat):Int)) then ((gidx st.1 st.2.2.2.1).bind fun x4=> bif (decide ((0:Int)≤st.2.2.2.1))&&(decide (st.2.2.2.1≤((List.length st.1:Nat):Int))) then ((C_linear_predict (List.take (Int.toNat st.2.2.2.1) st.1,(st.2.1,st.2.2.1))).bind fun y5=> (C_linear_wide (IntKind.wrap .i64 (x4-y5))).bind fun y6=> bif !y6 then some (.inr (Sum.inr (((6:Int),(([]:(List Int)),()))))) else (bif lim ((List.length st.2.2.2.2.1)+1) then some (.inl (st.1,(st.2.1,(st.2.2.1,(IntKind.wrap .i64 (st.2.2.2.1+(1:Int)),(List.append st.2.2.2.2.1 ([IntKind.wrap .i64 (x4-y5)]:List Int),())))))) else none)) else none) else some (.inr (Sum.inl (st.2.2.2.2.1,())))
theorem le_linear_Rest_l0 (st):Le (C_linear_Rest_l0 st) (F_linear_Rest_l0 st):=by
 unfold C_linear_Rest_l0 F_linear_Rest_l0
 try dsimp only
 repeat' (first|exact Lr _|exact le_linear_predict _|exact le_linear_wide _|apply Lf|refine Lb ?_ fun _=>?_|(rename_i w;cases w)|(rename_i w _;cases w))
def C_linear_Rest (x:Z11):Option ((List Int)×Int):= (show Option Z50 from (C_linear_May (x.2.1,x.2.2)).bind fun y1=> bif !y1 then some (x.1,(x.2.1,(x.2.2,(true,())))) else some (x.1,(x.2.1,(x.2.2,(decide (((List.length x.1:Nat):Int)<((List.length x.2.1:Nat):Int)),()))))).bind fun z2=> bif z2.2.2.2.1 then some (([]:(List Int)),(1:Int)) else ((C_linear_allWide z2.1).bind fun y3=> bif !y3 then some (([]:(List Int)),(6:Int)) else (bif (decide ((0:Int)≤(IntKind.wrap .i64 (((List.length z2.1:Nat):Int)-((List.length z2.2.1:Nat):Int)))))&&(lim (Int.toNat (IntKind.wrap .i64 (((List.length z2.1:Nat):Int)-((List.length z2.2.1:Nat):Int))))) then ((iterN C_linear_Rest_l0 400 (z2.1,(z2.2.1,(z2.2.2.1,(((List.length z2.2.1:Nat):Int),(([]:(List Int)),())))))).bind fun w7=> match w7 with |.inl a8=>some (a8.1,(0:Int)) |.inr b9=>some (b9.2.1,b9.1)) else none))
theorem le_linear_Rest (x):Le (C_linear_Rest x) (F_linear_Rest x):=by
 unfold C_linear_Rest F_linear_Rest
 try dsimp only
 repeat' (first|exact Lr _|exact le_linear_May _|exact le_linear_allWide _|exact Li le_linear_Rest_l0|apply Lf|refine Lb ?_ fun _=>?_|(rename_i w;cases w)|(rename_i w _;cases w))
def C_long_Rest_l0 (st:Z117):Option (Z117 ⊕ Z49):= bif decide (st.2.2.2.2.1<st.2.2.2.1) then ((gidx st.2.2.1 st.2.2.2.2.1).bind fun x3=> (C_long_predict (st.1,(st.2.2.2.2.1,(st.2.1,st.2.2.2.2.2.2.1)))).bind fun y4=> (C_long_wide (IntKind.wrap .i64 (x3-y4))).bind fun y5=> bif !y5 then some (.inr (Sum.inr (((6:Int),(([]:(List Int)),()))))) else (bif lim ((List.length st.2.2.2.2.2.1)+1) then some (.inl (st.1,(st.2.1,(st.2.2.1,(st.2.2.2.1,(IntKind.wrap .i64 (st.2.2.2.2.1+(1:Int)),(List.append st.2.2.2.2.2.1 ([IntKind.wrap .i64 (x3-y4)]:List Int),(st.2.2.2.2.2.2.1,())))))))) else none)) else some (.inr (Sum.inl (st.2.2.2.2.2.1,())))
theorem le_long_Rest_l0 (st):Le (C_long_Rest_l0 st) (F_long_Rest_l0 st):=by
 unfold C_long_Rest_l0 F_long_Rest_l0
 try dsimp only
 repeat' (first|exact Lr _|exact le_long_predict _|exact le_long_wide _|apply Lf|refine Lb ?_ fun _=>?_|(rename_i w;cases w)|(rename_i w _;cases w))
def C_long_Rest (x:Z12):Option ((List Int)×Int):= (C_long_May (x.2.1,x.2.2)).bind fun y1=> bif !y1 then some (([]:(List Int)),(1:Int)) else ((C_long_allWide x.1).bind fun y2=> bif !y2 then some (([]:(List Int)),(6:Int)) else (bif (decide ((0:Int)≤((List.length x.1:Nat):Int)))&&(lim (Int.toNat ((List.length x.1:Nat):Int))) then ((iterN C_long_Rest_l0 400 (x.1,(x.2.1,(x.1,(((List.length x.1:Nat):Int),((0:Int),(([]:(List Int)),(x.2.2,())))))))).bind fun w6=> match w6 with |.inl a7=>some (a7.1,(0:Int)) |.inr b8=>some (b8.2.1,b8.1)) else none))
theorem le_long_Rest (x):Le (C_long_Rest x) (F_long_Rest x):=by
 unfold C_long_Rest F_long_Rest
 try dsimp only
 repeat' (first|exact Lr _|exact le_long_May _|exact le_long_allWide _|exact Li le_long_Rest_l0|apply Lf|refine Lb ?_ fun _=>?_|(rename_i w;cases w)|(rename_i w _;cases w))
def C_learn_Rest_l0 (st:Z155):Option (Z155 ⊕ (Z90 ⊕ Z5)):= bif decide (st.2.2.2.2.1<st.2.2.2.1) then (bif (decide ((0:Int)≤st.2.2.2.2.1))&&(decide (st.2.2.2.2.1<((List.length st.2.2.2.2.2.1:Nat):Int))) then ((C_learn_Filter_Guess st.2.2.2.2.2.2.1).bind fun y6=> (C_learn_wide (IntKind.wrap .i64 ((List.getD st.2.2.2.2.2.1 (Int.toNat st.2.2.2.2.1) (0:Int))-y6.1))).bind fun y7=> bif !y7 then some (.inr (Sum.inr (((6:Int),(([]:(List Int)),()))))) else ((C_learn_Filter_Tell (y6.2,List.getD st.2.2.2.2.2.1 (Int.toNat st.2.2.2.2.1) (0:Int))).bind fun y8=> bif (decide ((0:Int)≤st.2.2.2.2.1))&&(decide (st.2.2.2.2.1<((List.length st.2.2.2.2.2.1:Nat):Int))) then some (.inl (st.1,(st.2.1,(st.2.2.1,(st.2.2.2.1,(IntKind.wrap .i64 (st.2.2.2.2.1+(1:Int)),(List.set st.2.2.2.2.2.1 (Int.toNat st.2.2.2.2.1) (IntKind.wrap .i64 ((List.getD st.2.2.2.2.2.1 (Int.toNat st.2.2.2.2.1) (0:Int))-y6.1)),(y8,())))))))) else none)) else none) else some (.inr (Sum.inl (st.1,(st.2.1,(st.2.2.1,(st.2.2.2.2.2.1,()))))))
theorem le_learn_Rest_l0 (st):Le (C_learn_Rest_l0 st) (F_learn_Rest_l0 st):=by
 unfold C_learn_Rest_l0 F_learn_Rest_l0
 try dsimp only
 repeat' (first|exact Lr _|exact le_learn_Filter_Guess _|exact le_learn_wide _|exact le_learn_Filter_Tell _|apply Lf|refine Lb ?_ fun _=>?_|(rename_i w;cases w)|(rename_i w _;cases w))
def C_learn_Rest_l1 (st:Z90):Option (Z90 ⊕ Z49):= bif decide (st.2.2.1<st.2.1) then ((gidx st.1 st.2.2.1).bind fun x4=> (C_learn_New x4).bind fun y5=> bif y5.2 != (0:Int) then some (.inr (Sum.inr ((y5.2,(([]:(List Int)),()))))) else ((iterN C_learn_Rest_l0 400 (st.1,(st.2.1,(st.2.2.1,(((List.length st.2.2.2.1:Nat):Int),((0:Int),(st.2.2.2.1,(y5.1,())))))))).bind fun w9=> match w9 with |.inl a10=>some (.inl (a10.1,(a10.2.1,(IntKind.wrap .i64 (a10.2.2.1+(1:Int)),(a10.2.2.2.1,()))))) |.inr b11=>some (.inr (Sum.inr ((b11.1,(b11.2.1,()))))))) else some (.inr (Sum.inl (st.2.2.2.1,())))
theorem le_learn_Rest_l1 (st):Le (C_learn_Rest_l1 st) (F_learn_Rest_l1 st):=by
 unfold C_learn_Rest_l1 F_learn_Rest_l1
 try dsimp only
 repeat' (first|exact Lr _|exact le_learn_New _|exact Li le_learn_Rest_l0|apply Lf|refine Lb ?_ fun _=>?_|(rename_i w;cases w)|(rename_i w _;cases w))
def C_learn_Rest (x:Z27):Option ((List Int)×Int):= (C_learn_May x.2).bind fun y1=> bif !y1 then some (([]:(List Int)),(1:Int)) else ((C_learn_allWide x.1).bind fun y2=> bif !y2 then some (([]:(List Int)),(6:Int)) else ((C_slices_Clone___int_int_ x.1).bind fun y3=> (iterN C_learn_Rest_l1 400 (x.2,(((List.length x.2:Nat):Int),((0:Int),(y3,()))))).bind fun w12=> match w12 with |.inl a13=>some (a13.1,(0:Int)) |.inr b14=>some (b14.2.1,b14.1)))
theorem le_learn_Rest (x):Le (C_learn_Rest x) (F_learn_Rest x):=by
 unfold C_learn_Rest F_learn_Rest
 try dsimp only
 repeat' (first|exact Lr _|exact le_learn_May _|exact le_learn_allWide _|exact le_slices_Clone___int_int_ _|exact Li le_learn_Rest_l1|apply Lf|refine Lb ?_ fun _=>?_|(rename_i w;cases w)|(rename_i w _;cases w))
def C_sub_split (x:(Z170×(List Int))):Option Z173:= (show Option ((List Int)×Z186) from bif x.1.1==(2:Int) then ((C_fixed_Rest (x.2,x.1.2.2.1)).bind fun y1=> some (x.2,(y1.1,(y1.2,(x.1,()))))) else (bif x.1.1==(3:Int) then ((C_linear_Rest (x.2,(x.1.2.2.2.2.2.1,x.1.2.2.2.1))).bind fun y2=> some (x.2,(y2.1,(y2.2,(x.1,()))))) else (bif x.1.1==(4:Int) then ((C_long_Rest (x.2,(x.1.2.2.2.2.1,x.1.2.2.2.2.2.2.1))).bind fun y3=> bif y3.2==(0:Int) then ((C_linear_Rest (y3.1,(x.1.2.2.2.2.2.1,x.1.2.2.2.1))).bind fun y4=> some (y3.1,(y4.1,(y4.2,(x.1,()))))) else some (y3.1,(([]:(List Int)),(y3.2,(x.1,()))))) else (bif x.1.1==(5:Int) then ((C_learn_Rest (x.2,x.1.2.2.2.2.2.2.2.1)).bind fun y5=> some (x.2,(y5.1,(y5.2,(x.1,()))))) else some (x.2,(([]:(List Int)),((0:Int),(x.1,())))))))).bind fun z6=> bif z6.2.2.1 != (0:Int) then some (z6.2.2.1,z6.2.2.2.1) else ((C_sub_warmth (z6.2.2.2.1,((List.length z6.1:Nat):Int))).bind fun y7=> bif (decide ((0:Int)≤y7))&&(decide (y7≤((List.length z6.1:Nat):Int))) then ((C_slices_Clone___int_int_ (List.take (Int.toNat y7) z6.1)).bind fun y8=> some ((0:Int),(z6.2.2.2.1.1,(z6.2.2.2.1.2.1,(z6.2.2.2.1.2.2.1,(z6.2.2.2.1.2.2.2.1,(z6.2.2.2.1.2.2.2.2.1,(z6.2.2.2.1.2.2.2.2.2.1,(z6.2.2.2.1.2.2.2.2.2.2.1,(z6.2.2.2.1.2.2.2.2.2.2.2.1,(y8,(z6.2.2.2.1.2.2.2.2.2.2.2.2.2.1,(z6.2.1,z6.2.2.2.1.2.2.2.2.2.2.2.2.2.2.2))))))))))))) else none)
theorem le_sub_split (x):Le (C_sub_split x) (F_sub_split x):=by
 unfold C_sub_split F_sub_split
 try dsimp only
 repeat' (first|exact Lr _|exact le_fixed_Rest _|exact le_linear_Rest _|exact le_long_Rest _|exact le_learn_Rest _|exact le_sub_warmth _|exact le_slices_Clone___int_int_ _|apply Lf|refine Lb ?_ fun _=>?_|(rename_i w;cases w)|(rename_i w _;cases w))
def C_rice_Best_l0 (st:Z33):Option Z72:= bif decide (st.2.2.2.1≤(25:Int)) then ((C_rice_Sum (st.2.2.2.1,st.1)).bind fun y2=> bif decide (y2<st.2.2.1) then some (.inl (st.1,(st.2.2.2.1,(y2,(IntKind.wrap .i64 (st.2.2.2.1+(1:Int)),()))))) else some (.inl (st.1,(st.2.1,(st.2.2.1,(IntKind.wrap .i64 (st.2.2.2.1+(1:Int)),())))))) else some (.inr (st.2.1,()))
theorem le_rice_Best_l0 (st):Le (C_rice_Best_l0 st) (F_rice_Best_l0 st):=by
 unfold C_rice_Best_l0 F_rice_Best_l0
 try dsimp only
 repeat' (first|exact Lr _|exact le_rice_Sum _|apply Lf|refine Lb ?_ fun _=>?_|(rename_i w;cases w)|(rename_i w _;cases w))
def C_rice_Best (x:(List Int)):Option Int:= (C_rice_Sum ((0:Int),x)).bind fun y1=> (iterN C_rice_Best_l0 400 (x,((0:Int),(y1,((1:Int),()))))).bind fun w3=> some w3.1
theorem le_rice_Best (x):Le (C_rice_Best x) (F_rice_Best x):=by
 unfold C_rice_Best F_rice_Best
 try dsimp only
 repeat' (first|exact Lr _|exact le_rice_Sum _|exact Li le_rice_Best_l0|apply Lf|refine Lb ?_ fun _=>?_|(rename_i w;cases w)|(rename_i w _;cases w))
def C_parts_choose (x:(List Int)):Option Int:= (C_rice_Best x).bind fun y1=> (C_parts_raw x).bind fun y2=> (C_rice_Sum (y1,x)).bind fun y3=> bif decide (y2<y3) then some (31:Int) else some y1
theorem le_parts_choose (x):Le (C_parts_choose x) (F_parts_choose x):=by
 unfold C_parts_choose F_parts_choose
 try dsimp only
 repeat' (first|exact Lr _|exact le_rice_Best _|exact le_parts_raw _|exact le_rice_Sum _|apply Lf|refine Lb ?_ fun _=>?_|(rename_i w;cases w)|(rename_i w _;cases w))
def C_parts_Best_l0 (st:Z187):Option (Z187 ⊕ (Int×(Int×(Int×((List Int)×(Int×(Int×Z135))))))):= bif decide (st.2.2.2.2.2.2.2.2.1<st.2.2.2.2.2.2.2.1) then (bif (decide ((0:Int)≤st.2.2.2.2.2.2.2.2.1))&&(decide (st.2.2.2.2.2.2.2.2.1<((List.length st.2.2.2.2.2.2.2.2.2.1:Nat):Int))) then (bif (decide ((0:Int)≤(List.getD st.2.2.2.2.2.2.2.2.2.1 (Int.toNat st.2.2.2.2.2.2.2.2.1) (0:Int))))&&(decide ((List.getD st.2.2.2.2.2.2.2.2.2.1 (Int.toNat st.2.2.2.2.2.2.2.2.1) (0:Int))≤((List.length st.2.2.2.2.2.2.1:Nat):Int))) then ((C_parts_choose (List.take (Int.toNat (List.getD st.2.2.2.2.2.2.2.2.2.1 (Int.toNat st.2.2.2.2.2.2.2.2.1) (0:Int))) st.2.2.2.2.2.2.1)).bind fun y3=> bif lim ((List.length st.2.2.2.2.2.2.2.2.2.2.2.2.1.2.1)+1) then (bif (decide ((0:Int)≤(List.getD st.2.2.2.2.2.2.2.2.2.1 (Int.toNat st.2.2.2.2.2.2.2.2.1) (0:Int))))&&(decide ((List.getD st.2.2.2.2.2.2.2.2.2.1 (Int.toNat st.2.2.2.2.2.2.2.2.1) (0:Int))≤((List.length st.2.2.2.2.2.2.1:Nat):Int))) then some (.inl (st.1,(st.2.1,(st.2.2.1,(st.2.2.2.1,(st.2.2.2.2.1,(st.2.2.2.2.2.1,(List.drop (Int.toNat (List.getD st.2.2.2.2.2.2.2.2.2.1 (Int.toNat st.2.2.2.2.2.2.2.2.1) (0:Int))) (List.take (List.length st.2.2.2.2.2.2.1) st.2.2.2.2.2.2.1),(st.2.2.2.2.2.2.2.1,(IntKind.wrap .i64 (st.2.2.2.2.2.2.2.2.1+(1:Int)),(st.2.2.2.2.2.2.2.2.2.1,(st.2.2.2.2.2.2.2.2.2.2.1,(st.2.2.2.2.2.2.2.2.2.2.2.1,((st.2.2.2.2.2.2.2.2.2.2.2.2.1.1,(List.append st.2.2.2.2.2.2.2.2.2.2.2.2.1.2.1 ([y3]:List Int),st.2.2.2.2.2.2.2.2.2.2.2.2.1.2.2)),())))))))))))))) else none) else none) else none) else none) else some (.inr (st.1,(st.2.1,(st.2.2.1,(st.2.2.2.1,(st.2.2.2.2.1,(st.2.2.2.2.2.1,(st.2.2.2.2.2.2.2.2.2.2.1,(st.2.2.2.2.2.2.2.2.2.2.2.1,(st.2.2.2.2.2.2.2.2.2.2.2.2.1,()))))))))))
theorem le_parts_Best_l0 (st):Le (C_parts_Best_l0 st) (F_parts_Best_l0 st):=by
 unfold C_parts_Best_l0 F_parts_Best_l0
 try dsimp only
 repeat' (first|exact Lr _|exact le_parts_choose _|apply Lf|refine Lb ?_ fun _=>?_|(rename_i w;cases w)|(rename_i w _;cases w))
def C_parts_Best_l1 (st:Z151):Option (Z151 ⊕ Z93):= bif decide (st.2.2.2.2.2.1≤(imin (imax st.2.2.1 (0:Int)) (8:Int))) then ((C_parts_Sizes (st.2.2.2.2.2.1,(st.1,st.2.1))).bind fun y2=> bif ((List.length y2:Nat):Int)==(0:Int) then some (.inl (st.1,(st.2.1,(st.2.2.1,(st.2.2.2.1,(st.2.2.2.2.1,(IntKind.wrap .i64 (st.2.2.2.2.2.1+(1:Int)),(st.2.2.2.2.2.2.1,(st.2.2.2.2.2.2.2.1,()))))))))) else ((iterN C_parts_Best_l0 400 (st.1,(st.2.1,(st.2.2.1,(st.2.2.2.1,(st.2.2.2.2.1,(st.2.2.2.2.2.1,(st.2.2.2.1,(((List.length y2:Nat):Int),((0:Int),(y2,(st.2.2.2.2.2.2.1,(st.2.2.2.2.2.2.2.1,((st.2.2.2.2.2.1,(([]:(List Int)),())),())))))))))))))).bind fun w4=> (C_parts_Cost (w4.2.2.2.2.2.2.2.2.1,(w4.1,(w4.2.1,w4.2.2.2.1)))).bind fun y5=> (show Option (Int×(Int×(Int×((List Int)×(Int×(Int×(Int×(Bool×Z135)))))))) from bif w4.2.2.2.2.1==(0:Int) then some (w4.1,(w4.2.1,(w4.2.2.1,(w4.2.2.2.1,(w4.2.2.2.2.1,(w4.2.2.2.2.2.1,(y5,(true,(w4.2.2.2.2.2.2.1,(w4.2.2.2.2.2.2.2.1,(w4.2.2.2.2.2.2.2.2.1,()))))))))))) else some (w4.1,(w4.2.1,(w4.2.2.1,(w4.2.2.2.1,(w4.2.2.2.2.1,(w4.2.2.2.2.2.1,(y5,(decide (y5<w4.2.2.2.2.1),(w4.2.2.2.2.2.2.1,(w4.2.2.2.2.2.2.2.1,(w4.2.2.2.2.2.2.2.2.1,())))))))))))).bind fun z6=> bif z6.2.2.2.2.2.2.2.1 then some (.inl (z6.1,(z6.2.1,(z6.2.2.1,(z6.2.2.2.1,(z6.2.2.2.2.2.2.1,(IntKind.wrap .i64 (z6.2.2.2.2.2.1+(1:Int)),(z6.2.2.2.2.2.2.2.2.1,(z6.2.2.2.2.2.2.2.2.2.2.1,()))))))))) else some (.inl (z6.1,(z6.2.1,(z6.2.2.1,(z6.2.2.2.1,(z6.2.2.2.2.1,(IntKind.wrap .i64 (z6.2.2.2.2.2.1+(1:Int)),(z6.2.2.2.2.2.2.2.2.1,(z6.2.2.2.2.2.2.2.2.2.1,()))))))))))) else some (.inr (st.2.2.2.2.2.2.1,(st.2.2.2.2.2.2.2.1,())))
theorem le_parts_Best_l1 (st):Le (C_parts_Best_l1 st) (F_parts_Best_l1 st):=by
 unfold C_parts_Best_l1 F_parts_Best_l1
 try dsimp only
 repeat' (first|exact Lr _|exact le_parts_Sizes _|exact le_parts_Cost _|exact Li le_parts_Best_l0|apply Lf|refine Lb ?_ fun _=>?_|(rename_i w;cases w)|(rename_i w _;cases w))
def C_parts_Best (x:(Int×Z1)):Option (Z5×Int):= (C_parts_right (x.1,(x.2.1,x.2.2.2))).bind fun y1=> bif !y1 then some (((0:Int),(([]:(List Int)),())),(1:Int)) else ((iterN C_parts_Best_l1 400 (x.1,(x.2.1,(x.2.2.1,(x.2.2.2,((0:Int),((0:Int),(((0:Int),(([]:(List Int)),())),(((0:Int),(([]:(List Int)),())),()))))))))).bind fun w7=> some (w7.2.1,(0:Int)))
theorem le_parts_Best (x):Le (C_parts_Best x) (F_parts_Best x):=by
 unfold C_parts_Best F_parts_Best
 try dsimp only
 repeat' (first|exact Lr _|exact le_parts_right _|exact Li le_parts_Best_l1|apply Lf|refine Lb ?_ fun _=>?_|(rename_i w;cases w)|(rename_i w _;cases w))
def C_sub_Make_l0 (st:Z210):Option (Z210 ⊕ (((List Int)×Z206) ⊕ Z177)):= bif decide (st.2.2.2.1<st.2.2.1) then ((gidx st.2.1 st.2.2.2.1).bind fun x5=> (gidx st.1 (0:Int)).bind fun x6=> bif x5 != x6 then some (.inr (Sum.inr (((7:Int),(((0:Int),((0:Int),((0:Int),((0:Int),((0:Int),(([]:(List Int)),(List.replicate 3 (0:Int),(([]:Z4),(([]:(List Int)),(((0:Int),(([]:(List Int)),())),(([]:(List Int)),()))))))))))),()))))) else some (.inl (st.1,(st.2.1,(st.2.2.1,(IntKind.wrap .i64 (st.2.2.2.1+(1:Int)),(st.2.2.2.2.1,(st.2.2.2.2.2.1,())))))))) else some (.inr (Sum.inl (st.1,(st.2.2.2.2.1,(st.2.2.2.2.2.1,())))))
theorem le_sub_Make_l0 (st):Le (C_sub_Make_l0 st) (F_sub_Make_l0 st):=by
 unfold C_sub_Make_l0 F_sub_Make_l0
 try dsimp only
 repeat' (first|exact Lr _|apply Lf|refine Lb ?_ fun _=>?_|(rename_i w;cases w)|(rename_i w _;cases w))
def C_sub_Make (x:(Int×((List Int)×Z170))):Option Z172:= (show Option (Int×((List Int)×(Int×(Bool×Z206)))) from bif decide (((List.length x.2.1:Nat):Int)<(1:Int)) then some (x.1,(x.2.1,(((List.length x.2.1:Nat):Int),(true,(((0:Int),((0:Int),((0:Int),((0:Int),((0:Int),(([]:(List Int)),(List.replicate 3 (0:Int),(([]:Z4),(([]:(List Int)),(((0:Int),(([]:(List Int)),())),(([]:(List Int)),()))))))))))),(x.2.2,())))))) else (bif decide (((List.length x.2.1:Nat):Int) > (4096:Int)) then some (x.1,(x.2.1,(((List.length x.2.1:Nat):Int),(true,(((0:Int),((0:Int),((0:Int),((0:Int),((0:Int),(([]:(List Int)),(List.replicate 3 (0:Int),(([]:Z4),(([]:(List Int)),(((0:Int),(([]:(List Int)),())),(([]:(List Int)),()))))))))))),(x.2.2,())))))) else ((C_sub_fit (x.1,(x.2.2,((List.length x.2.1:Nat):Int)))).bind fun y1=> some (x.1,(x.2.1,(((List.length x.2.1:Nat):Int),(!y1,(((0:Int),((0:Int),((0:Int),((0:Int),((0:Int),(([]:(List Int)),(List.replicate 3 (0:Int),(([]:Z4),(([]:(List Int)),(((0:Int),(([]:(List Int)),())),(([]:(List Int)),()))))))))))),(x.2.2,()))))))))).bind fun z2=> bif z2.2.2.2.1 then some (((0:Int),((0:Int),((0:Int),((0:Int),((0:Int),(([]:(List Int)),(List.replicate 3 (0:Int),(([]:Z4),(([]:(List Int)),(((0:Int),(([]:(List Int)),())),(([]:(List Int)),()))))))))))),(1:Int)) else ((C_sub_allWide z2.2.1).bind fun y3=> bif !y3 then some (((0:Int),((0:Int),((0:Int),((0:Int),((0:Int),(([]:(List Int)),(List.replicate 3 (0:Int),(([]:Z4),(([]:(List Int)),(((0:Int),(([]:(List Int)),())),(([]:(List Int)),()))))))))))),(6:Int)) else ((C_sub_chosen (z2.1,z2.2.2.2.2.2.1)).bind fun y4=> bif z2.1==(0:Int) then ((iterN C_sub_Make_l0 400 (z2.2.1,(z2.2.1,(((List.length z2.2.1:Nat):Int),((0:Int),(z2.2.2.2.2.1,(y4,()))))))).bind fun w7=> match w7 with |.inl a8=>((gidx a8.1 (0:Int)).bind fun x10=> some ((a8.2.2.1.1,(a8.2.2.1.2.1,(a8.2.2.1.2.2.1,(a8.2.2.1.2.2.2.1,(a8.2.2.1.2.2.2.2.1,(a8.2.2.1.2.2.2.2.2.1,(a8.2.2.1.2.2.2.2.2.2.1,(a8.2.2.1.2.2.2.2.2.2.2.1,(([x10]:List Int),a8.2.2.1.2.2.2.2.2.2.2.2.2))))))))),(0:Int))) |.inr b9=>some (b9.2.1,b9.1)) else ((C_sample_Wasted z2.2.1).bind fun y11=> (C_sample_Down (z2.2.1,y11)).bind fun y12=> bif y12.2 != (0:Int) then some (((0:Int),((0:Int),((0:Int),((0:Int),((0:Int),(([]:(List Int)),(List.replicate 3 (0:Int),(([]:Z4),(([]:(List Int)),(((0:Int),(([]:(List Int)),())),(([]:(List Int)),()))))))))))),(6:Int)) else (bif z2.1==(1:Int) then some ((y4.1,(y11,(y4.2.2.1,(y4.2.2.2.1,(y4.2.2.2.2.1,(y4.2.2.2.2.2.1,(y4.2.2.2.2.2.2.1,(y4.2.2.2.2.2.2.2.1,(y12.1,y4.2.2.2.2.2.2.2.2.2))))))))),(0:Int)) else ((C_sub_split ((y4.1,(y11,y4.2.2)),y12.1)).bind fun y13=> bif y13.1 != (0:Int) then some (((0:Int),((0:Int),((0:Int),((0:Int),((0:Int),(([]:(List Int)),(List.replicate 3 (0:Int),(([]:Z4),(([]:(List Int)),(((0:Int),(([]:(List Int)),())),(([]:(List Int)),()))))))))))),(6:Int)) else ((C_parts_Best (z2.2.2.1,(((List.length y13.2.2.2.2.2.2.2.2.2.1:Nat):Int),((6:Int),y13.2.2.2.2.2.2.2.2.2.2.2.1)))).bind fun y14=> bif y14.2 != (0:Int) then some (((0:Int),((0:Int),((0:Int),((0:Int),((0:Int),(([]:(List Int)),(List.replicate 3 (0:Int),(([]:Z4),(([]:(List Int)),(((0:Int),(([]:(List Int)),())),(([]:(List Int)),()))))))))))),(6:Int)) else some ((y13.2.1,(y13.2.2.1,(y13.2.2.2.1,(y13.2.2.2.2.1,(y13.2.2.2.2.2.1,(y13.2.2.2.2.2.2.1,(y13.2.2.2.2.2.2.2.1,(y13.2.2.2.2.2.2.2.2.1,(y13.2.2.2.2.2.2.2.2.2.1,(y14.1,y13.2.2.2.2.2.2.2.2.2.2.2)))))))))),(0:Int))))))))
theorem le_sub_Make (x):Le (C_sub_Make x) (F_sub_Make x):=by
 unfold C_sub_Make F_sub_Make
 try dsimp only
 repeat' (first|exact Lr _|exact le_sub_fit _|exact le_sub_allWide _|exact le_sub_chosen _|exact le_sample_Wasted _|exact le_sample_Down _|exact le_sub_split _|exact le_parts_Best _|exact Li le_sub_Make_l0|apply Lf|refine Lb ?_ fun _=>?_|(rename_i w;cases w)|(rename_i w _;cases w))
def C_fixed_weigh_l0 (st:Z51):Option Z91:= bif decide (st.2.2.2.2.1<st.2.2.2.1) then ((gidx st.2.2.1 st.2.2.2.2.1).bind fun x1=> bif decide ((IntKind.wrap .i64 (st.2.2.2.2.1+st.1))≥(4:Int)) then some (.inl (st.1,(IntKind.wrap .i64 (st.2.1+(imax x1 (IntKind.wrap .i64 (0-x1)))),(st.2.2.1,(st.2.2.2.1,(IntKind.wrap .i64 (st.2.2.2.2.1+(1:Int)),())))))) else some (.inl (st.1,(st.2.1,(st.2.2.1,(st.2.2.2.1,(IntKind.wrap .i64 (st.2.2.2.2.1+(1:Int)),()))))))) else some (.inr (st.2.1,()))
theorem le_fixed_weigh_l0 (st):Le (C_fixed_weigh_l0 st) (F_fixed_weigh_l0 st):=by
 unfold C_fixed_weigh_l0 F_fixed_weigh_l0
 try dsimp only
 repeat' (first|exact Lr _|apply Lf|refine Lb ?_ fun _=>?_|(rename_i w;cases w)|(rename_i w _;cases w))
def C_fixed_weigh (x:((List Int)×Int)):Option Int:= (iterN C_fixed_weigh_l0 400 (x.2,((0:Int),(x.1,(((List.length x.1:Nat):Int),((0:Int),())))))).bind fun w2=> some w2.1
theorem le_fixed_weigh (x):Le (C_fixed_weigh x) (F_fixed_weigh x):=by
 unfold C_fixed_weigh F_fixed_weigh
 try dsimp only
 repeat' (first|exact Lr _|exact Li le_fixed_weigh_l0|apply Lf|refine Lb ?_ fun _=>?_|(rename_i w;cases w)|(rename_i w _;cases w))
def C_fixed_Best_l0 (st:Z33):Option Z72:= bif decide (st.2.2.2.1≤(4:Int)) then ((C_fixed_Rest (st.1,st.2.2.2.1)).bind fun y1=> bif y1.2 != (0:Int) then some (.inl (st.1,(st.2.1,(st.2.2.1,(IntKind.wrap .i64 (st.2.2.2.1+(1:Int)),()))))) else ((C_fixed_weigh (y1.1,st.2.2.2.1)).bind fun y2=> (show Option ((List Int)×Z42) from bif decide (st.2.2.1<(0:Int)) then some (st.1,(st.2.1,(st.2.2.1,(st.2.2.2.1,(y2,(true,())))))) else some (st.1,(st.2.1,(st.2.2.1,(st.2.2.2.1,(y2,(decide (y2<st.2.2.1),()))))))).bind fun z3=> bif z3.2.2.2.2.2.1 then some (.inl (z3.1,(z3.2.2.2.1,(z3.2.2.2.2.1,(IntKind.wrap .i64 (z3.2.2.2.1+(1:Int)),()))))) else some (.inl (z3.1,(z3.2.1,(z3.2.2.1,(IntKind.wrap .i64 (z3.2.2.2.1+(1:Int)),()))))))) else some (.inr (st.2.1,()))
theorem le_fixed_Best_l0 (st):Le (C_fixed_Best_l0 st) (F_fixed_Best_l0 st):=by
 unfold C_fixed_Best_l0 F_fixed_Best_l0
 try dsimp only
 repeat' (first|exact Lr _|exact le_fixed_Rest _|exact le_fixed_weigh _|apply Lf|refine Lb ?_ fun _=>?_|(rename_i w;cases w)|(rename_i w _;cases w))
def C_fixed_Best (x:(List Int)):Option Int:= (iterN C_fixed_Best_l0 400 (x,((0:Int),((-1:Int),((0:Int),()))))).bind fun w4=> some w4.1
theorem le_fixed_Best (x):Le (C_fixed_Best x) (F_fixed_Best x):=by
 unfold C_fixed_Best F_fixed_Best
 try dsimp only
 repeat' (first|exact Lr _|exact Li le_fixed_Best_l0|apply Lf|refine Lb ?_ fun _=>?_|(rename_i w;cases w)|(rename_i w _;cases w))
def C_linear_clamp (x:Int):Option Int:= some (imin (imax x (-1048576:Int)) (1048575:Int))
theorem le_linear_clamp (x):Le (C_linear_clamp x) (F_linear_clamp x):=by
 unfold C_linear_clamp F_linear_clamp
 try dsimp only
 repeat' (first|exact Lr _|apply Lf|refine Lb ?_ fun _=>?_|(rename_i w;cases w)|(rename_i w _;cases w))
def C_linear_scaled_l0 (st:Z81):Option (Z81 ⊕ Z63):= bif decide (st.2.1<0) then none else ((C_linear_clamp (gshr .i64 st.2.2.1 st.2.1)).bind fun y2=> bif decide (st.2.1<0) then none else (bif y2 != (gshr .i64 st.2.2.1 st.2.1) then some (.inl (st.1,(IntKind.wrap .i64 (st.2.1+(1:Int)),(st.2.2.1,(st.2.2.2.1,(st.2.2.2.2.1,(st.2.2.2.2.2.1,()))))))) else some (.inr (st.1,(st.2.1,(st.2.2.2.1,(st.2.2.2.2.1,(st.2.2.2.2.2.1,()))))))))
theorem le_linear_scaled_l0 (st):Le (C_linear_scaled_l0 st) (F_linear_scaled_l0 st):=by
 unfold C_linear_scaled_l0 F_linear_scaled_l0
 try dsimp only
 repeat' (first|exact Lr _|exact le_linear_clamp _|apply Lf|refine Lb ?_ fun _=>?_|(rename_i w;cases w)|(rename_i w _;cases w))
def C_linear_scaled_l1 (st:Z63):Option (Z63 ⊕ Z3):= bif decide (st.2.2.2.2.1<st.2.2.2.1) then ((gidx st.2.2.1 st.2.2.2.2.1).bind fun x1=> (iterN C_linear_scaled_l0 400 (st.1,(st.2.1,(x1,(st.2.2.1,(st.2.2.2.1,(st.2.2.2.2.1,()))))))).bind fun w3=> some (.inl (w3.1,(w3.2.1,(w3.2.2.1,(w3.2.2.2.1,(IntKind.wrap .i64 (w3.2.2.2.2.1+(1:Int)),()))))))) else some (.inr (st.1,(st.2.1,())))
theorem le_linear_scaled_l1 (st):Le (C_linear_scaled_l1 st) (F_linear_scaled_l1 st):=by
 unfold C_linear_scaled_l1 F_linear_scaled_l1
 try dsimp only
 repeat' (first|exact Lr _|exact Li le_linear_scaled_l0|apply Lf|refine Lb ?_ fun _=>?_|(rename_i w;cases w)|(rename_i w _;cases w))
def C_linear_scaled_l2 (st:Z61):Option (Z61 ⊕ ((List Int)×Unit)):= bif decide (st.2.2.2.1<st.2.2.1) then ((gidx st.2.1 st.2.2.2.1).bind fun x5=> bif decide (st.1<0) then none else (bif (decide ((0:Int)≤st.2.2.2.1))&&(decide (st.2.2.2.1<((List.length st.2.2.2.2.1:Nat):Int))) then some (.inl (st.1,(st.2.1,(st.2.2.1,(IntKind.wrap .i64 (st.2.2.2.1+(1:Int)),(List.set st.2.2.2.2.1 (Int.toNat st.2.2.2.1) (gshr .i64 x5 st.1),())))))) else none)) else some (.inr (st.2.2.2.2.1,()))
theorem le_linear_scaled_l2 (st):Le (C_linear_scaled_l2 st) (F_linear_scaled_l2 st):=by
 unfold C_linear_scaled_l2 F_linear_scaled_l2
 try dsimp only
 repeat' (first|exact Lr _|apply Lf|refine Lb ?_ fun _=>?_|(rename_i w;cases w)|(rename_i w _;cases w))
def C_linear_scaled (x:(List Int)):Option (List Int):= (iterN C_linear_scaled_l1 400 (x,((0:Int),(x,(((List.length x:Nat):Int),((0:Int),())))))).bind fun w4=> bif (decide ((0:Int)≤((List.length w4.1:Nat):Int)))&&((decide (((List.length w4.1:Nat):Int)≤((List.length w4.1:Nat):Int)))&&(lim (Int.toNat ((List.length w4.1:Nat):Int)))) then ((iterN C_linear_scaled_l2 400 (w4.2.1,(w4.1,(((List.length w4.1:Nat):Int),((0:Int),(List.replicate (Int.toNat ((List.length w4.1:Nat):Int)) (0:Int),())))))).bind fun w6=> some w6.1) else none
theorem le_linear_scaled (x):Le (C_linear_scaled x) (F_linear_scaled x):=by
 unfold C_linear_scaled F_linear_scaled
 try dsimp only
 repeat' (first|exact Lr _|exact Li le_linear_scaled_l1|exact Li le_linear_scaled_l2|apply Lf|refine Lb ?_ fun _=>?_|(rename_i w;cases w)|(rename_i w _;cases w))
def C_linear_reflection_l0 (st:Z64):Option (Z64 ⊕ (Int×(Int×Unit))):= bif decide (st.2.2.2.2.1<((List.length st.1:Nat):Int)) then ((gidx st.1 st.2.2.2.2.1).bind fun x1=> (gidx st.2.1 (IntKind.wrap .i64 (st.2.2.2.2.1-(1:Int)))).bind fun x2=> (gidx st.1 st.2.2.2.2.1).bind fun x3=> (gidx st.1 st.2.2.2.2.1).bind fun x4=> (gidx st.2.1 (IntKind.wrap .i64 (st.2.2.2.2.1-(1:Int)))).bind fun x5=> (gidx st.2.1 (IntKind.wrap .i64 (st.2.2.2.2.1-(1:Int)))).bind fun x6=> some (.inl (st.1,(st.2.1,(IntKind.wrap .i64 (st.2.2.1+(IntKind.wrap .i64 (x1*x2))),(IntKind.wrap .i64 (st.2.2.2.1+(IntKind.wrap .i64 ((IntKind.wrap .i64 (x3*x4))+(IntKind.wrap .i64 (x5*x6))))),(IntKind.wrap .i64 (st.2.2.2.2.1+(1:Int)),()))))))) else some (.inr (st.2.2.1,(st.2.2.2.1,())))
theorem le_linear_reflection_l0 (st):Le (C_linear_reflection_l0 st) (F_linear_reflection_l0 st):=by
 unfold C_linear_reflection_l0 F_linear_reflection_l0
 try dsimp only
 repeat' (first|exact Lr _|apply Lf|refine Lb ?_ fun _=>?_|(rename_i w;cases w)|(rename_i w _;cases w))
def C_linear_reflection_l1 (st:(Int×(Int×Unit))):Option ((Int×(Int×Unit)) ⊕ (Int×(Int×Unit))):= bif decide (st.2.1≥(1099511627776:Int)) then some (.inl (gshr .i64 st.1 (1:Int),(gshr .i64 st.2.1 (1:Int),()))) else some (.inr (st.1,(st.2.1,())))
theorem le_linear_reflection_l1 (st):Le (C_linear_reflection_l1 st) (F_linear_reflection_l1 st):=by
 unfold C_linear_reflection_l1 F_linear_reflection_l1
 try dsimp only
 repeat' (first|exact Lr _|apply Lf|refine Lb ?_ fun _=>?_|(rename_i w;cases w)|(rename_i w _;cases w))
def C_linear_reflection (x:Z11):Option Int:= (iterN C_linear_reflection_l0 400 (x.1,(x.2.1,((0:Int),((0:Int),(x.2.2,())))))).bind fun w7=> (iterN C_linear_reflection_l1 400 (w7.1,(w7.2.1,()))).bind fun w8=> bif w8.2.1==(0:Int) then some (0:Int) else (bif w8.2.1==0 then none else ((show Option (Int×Unit) from bif w8.2.1==0 then none else (bif decide ((Int.tmod (gshl .i64 w8.1 (15:Int)) w8.2.1)<(0:Int)) then some (IntKind.wrap .i64 ((IntKind.wrap .i64 (Int.tdiv (gshl .i64 w8.1 (15:Int)) w8.2.1))-(1:Int)),()) else some (IntKind.wrap .i64 (Int.tdiv (gshl .i64 w8.1 (15:Int)) w8.2.1),()))).bind fun z9=> some (imin (imax z9.1 (-16383:Int)) (16383:Int))))
theorem le_linear_reflection (x):Le (C_linear_reflection x) (F_linear_reflection x):=by
 unfold C_linear_reflection F_linear_reflection
 try dsimp only
 repeat' (first|exact Lr _|exact Li le_linear_reflection_l0|exact Li le_linear_reflection_l1|apply Lf|refine Lb ?_ fun _=>?_|(rename_i w;cases w)|(rename_i w _;cases w))
def C_linear_Reflect_l0 (st:Z108):Option (Z108 ⊕ Z79):= bif decide (st.2.2.2.1≥st.2.1) then (bif (decide ((0:Int)≤st.2.2.2.1))&&(decide (st.2.2.2.1<((List.length st.2.2.2.2.1:Nat):Int))) then (bif (decide ((0:Int)≤(IntKind.wrap .i64 (st.2.2.2.1-(1:Int)))))&&(decide ((IntKind.wrap .i64 (st.2.2.2.1-(1:Int)))<((List.length st.2.2.2.2.2.1:Nat):Int))) then ((C_linear_clamp (IntKind.wrap .i64 ((List.getD st.2.2.2.2.1 (Int.toNat st.2.2.2.1) (0:Int))-(gshr .i64 (IntKind.wrap .i64 (st.2.2.1*(List.getD st.2.2.2.2.2.1 (Int.toNat (IntKind.wrap .i64 (st.2.2.2.1-(1:Int)))) (0:Int)))) (14:Int))))).bind fun y6=> bif (decide ((0:Int)≤st.2.2.2.1))&&(decide (st.2.2.2.1<((List.length st.2.2.2.2.1:Nat):Int))) then ((C_linear_clamp (IntKind.wrap .i64 ((List.getD st.2.2.2.2.2.1 (Int.toNat (IntKind.wrap .i64 (st.2.2.2.1-(1:Int)))) (0:Int))-(gshr .i64 (IntKind.wrap .i64 (st.2.2.1*(List.getD st.2.2.2.2.1 (Int.toNat st.2.2.2.1) (0:Int)))) (14:Int))))).bind fun y7=> bif (decide ((0:Int)≤st.2.2.2.1))&&(decide (st.2.2.2.1<((List.length st.2.2.2.2.2.1:Nat):Int))) then some (.inl (st.1,(st.2.1,(st.2.2.1,(IntKind.wrap .i64 (st.2.2.2.1-(1:Int)),(List.set st.2.2.2.2.1 (Int.toNat st.2.2.2.1) y6,(List.set st.2.2.2.2.2.1 (Int.toNat st.2.2.2.1) y7,(st.2.2.2.2.2.2.1,())))))))) else none) else none) else none) else none) else some (.inr (st.1,(st.2.1,(st.2.2.2.2.1,(st.2.2.2.2.2.1,(st.2.2.2.2.2.2.1,()))))))
theorem le_linear_Reflect_l0 (st):Le (C_linear_Reflect_l0 st) (F_linear_Reflect_l0 st):=by
 unfold C_linear_Reflect_l0 F_linear_Reflect_l0
 try dsimp only
 repeat' (first|exact Lr _|exact le_linear_clamp _|apply Lf|refine Lb ?_ fun _=>?_|(rename_i w;cases w)|(rename_i w _;cases w))
def C_linear_Reflect_l1 (st:Z79):Option (Z79 ⊕ ((List Int)×Unit)):= bif decide (st.2.1≤st.1) then ((C_linear_reflection (st.2.2.1,(st.2.2.2.1,st.2.1))).bind fun y5=> bif lim ((List.length st.2.2.2.2.1)+1) then ((iterN C_linear_Reflect_l0 400 (st.1,(st.2.1,(y5,(IntKind.wrap .i64 (((List.length st.2.2.1:Nat):Int)-(1:Int)),(st.2.2.1,(st.2.2.2.1,(List.append st.2.2.2.2.1 ([y5]:List Int),())))))))).bind fun w8=> some (.inl (w8.1,(IntKind.wrap .i64 (w8.2.1+(1:Int)),(w8.2.2.1,(w8.2.2.2.1,(w8.2.2.2.2.1,()))))))) else none) else some (.inr (st.2.2.2.2.1,()))
theorem le_linear_Reflect_l1 (st):Le (C_linear_Reflect_l1 st) (F_linear_Reflect_l1 st):=by
 unfold C_linear_Reflect_l1 F_linear_Reflect_l1
 try dsimp only
 repeat' (first|exact Lr _|exact le_linear_reflection _|exact Li le_linear_Reflect_l0|apply Lf|refine Lb ?_ fun _=>?_|(rename_i w;cases w)|(rename_i w _;cases w))
def C_linear_Reflect (x:((List Int)×Int)):Option ((List Int)×Int):= (show Option Z18 from bif decide (x.2<(1:Int)) then some (x.1,(x.2,(true,()))) else (bif decide (x.2 > (32:Int)) then some (x.1,(x.2,(true,()))) else some (x.1,(x.2,(decide (((List.length x.1:Nat):Int) > (4096:Int)),()))))).bind fun z1=> bif z1.2.2.1 then some (([]:(List Int)),(1:Int)) else ((C_linear_allWide z1.1).bind fun y2=> bif !y2 then some (([]:(List Int)),(6:Int)) else ((C_linear_scaled z1.1).bind fun y3=> (C_slices_Clone___int_int_ y3).bind fun y4=> bif (decide ((0:Int)≤z1.2.1))&&(lim (Int.toNat z1.2.1)) then ((iterN C_linear_Reflect_l1 400 (z1.2.1,((1:Int),(y3,(y4,(([]:(List Int)),())))))).bind fun w9=> some (w9.1,(0:Int))) else none))
theorem le_linear_Reflect (x):Le (C_linear_Reflect x) (F_linear_Reflect x):=by
 unfold C_linear_Reflect F_linear_Reflect
 try dsimp only
 repeat' (first|exact Lr _|exact le_linear_allWide _|exact le_linear_scaled _|exact le_slices_Clone___int_int_ _|exact Li le_linear_Reflect_l1|apply Lf|refine Lb ?_ fun _=>?_|(rename_i w;cases w)|(rename_i w _;cases w))
def C_linear_Climb_l0 (st:Z47):Option (Z47 ⊕ (((List Int)×Unit) ⊕ Z3)):= bif decide (st.2.2.2.1<st.2.2.1) then ((gidx st.2.1 st.2.2.2.1).bind fun x2=> (show Option ((List Int)×Z34) from bif decide (x2<(-16383:Int)) then some (st.1,(st.2.1,(st.2.2.1,(st.2.2.2.1,(true,()))))) else some (st.1,(st.2.1,(st.2.2.1,(st.2.2.2.1,(decide (x2 > (16383:Int)),())))))).bind fun z3=> bif z3.2.2.2.2.1 then some (.inr (Sum.inr ((([]:(List Int)),((1:Int),()))))) else some (.inl (z3.1,(z3.2.1,(z3.2.2.1,(IntKind.wrap .i64 (z3.2.2.2.1+(1:Int)),())))))) else some (.inr (Sum.inl (st.1,())))
theorem le_linear_Climb_l0 (st):Le (C_linear_Climb_l0 st) (F_linear_Climb_l0 st):=by
 unfold C_linear_Climb_l0 F_linear_Climb_l0
 try dsimp only
 repeat' (first|exact Lr _|apply Lf|refine Lb ?_ fun _=>?_|(rename_i w;cases w)|(rename_i w _;cases w))
def C_linear_Climb_l1 (st:Z140):Option (Z140 ⊕ Z61):= bif decide (st.2.2.2.2.2.2.2.2.1<st.2.2.2.2.2.2.2.1) then ((gidx st.2.2.2.2.2.2.1 st.2.2.2.2.2.2.2.2.1).bind fun x8=> (gidx st.1 (IntKind.wrap .i64 ((IntKind.wrap .i64 (st.2.1-(1:Int)))-st.2.2.2.2.2.2.2.2.1))).bind fun x9=> bif lim ((List.length st.2.2.2.2.2.2.2.2.2.1)+1) then some (.inl (st.1,(st.2.1,(st.2.2.1,(st.2.2.2.1,(st.2.2.2.2.1,(st.2.2.2.2.2.1,(st.2.2.2.2.2.2.1,(st.2.2.2.2.2.2.2.1,(IntKind.wrap .i64 (st.2.2.2.2.2.2.2.2.1+(1:Int)),(List.append st.2.2.2.2.2.2.2.2.2.1 ([IntKind.wrap .i64 (x8-(gshr .i64 (IntKind.wrap .i64 (st.2.2.1*x9)) (14:Int)))]:List Int),()))))))))))) else none) else some (.inr (st.2.2.1,(st.2.2.2.1,(st.2.2.2.2.1,(st.2.2.2.2.2.1,(st.2.2.2.2.2.2.2.2.2.1,()))))))
theorem le_linear_Climb_l1 (st):Le (C_linear_Climb_l1 st) (F_linear_Climb_l1 st):=by
 unfold C_linear_Climb_l1 F_linear_Climb_l1
 try dsimp only
 repeat' (first|exact Lr _|apply Lf|refine Lb ?_ fun _=>?_|(rename_i w;cases w)|(rename_i w _;cases w))
def C_linear_Climb_l2 (st:Z47):Option (Z47 ⊕ ((List Int)×Unit)):= bif decide (st.2.2.2.1<st.2.2.1) then ((gidx st.2.1 st.2.2.2.1).bind fun x7=> bif (decide ((0:Int)≤(IntKind.wrap .i64 (st.2.2.2.1+(1:Int)))))&&(lim (Int.toNat (IntKind.wrap .i64 (st.2.2.2.1+(1:Int))))) then ((iterN C_linear_Climb_l1 400 (st.1,(st.2.2.2.1,(x7,(st.2.1,(st.2.2.1,(st.2.2.2.1,(st.1,(((List.length st.1:Nat):Int),((0:Int),(([]:(List Int)),()))))))))))).bind fun w10=> bif lim ((List.length w10.2.2.2.2.1)+1) then some (.inl (List.append w10.2.2.2.2.1 ([w10.1]:List Int),(w10.2.1,(w10.2.2.1,(IntKind.wrap .i64 (w10.2.2.2.1+(1:Int)),()))))) else none) else none) else some (.inr (st.1,()))
theorem le_linear_Climb_l2 (st):Le (C_linear_Climb_l2 st) (F_linear_Climb_l2 st):=by
 unfold C_linear_Climb_l2 F_linear_Climb_l2
 try dsimp only
 repeat' (first|exact Lr _|exact Li le_linear_Climb_l1|apply Lf|refine Lb ?_ fun _=>?_|(rename_i w;cases w)|(rename_i w _;cases w))
def C_linear_Climb (x:(List Int)):Option ((List Int)×Int):= (show Option Z6 from bif decide (((List.length x:Nat):Int)<(1:Int)) then some (x,(true,())) else some (x,(decide (((List.length x:Nat):Int) > (32:Int)),()))).bind fun z1=> bif z1.2.1 then some (([]:(List Int)),(1:Int)) else ((iterN C_linear_Climb_l0 400 (z1.1,(z1.1,(((List.length z1.1:Nat):Int),((0:Int),()))))).bind fun w4=> match w4 with |.inl a5=>((iterN C_linear_Climb_l2 400 (([]:List Int),(a5.1,(((List.length a5.1:Nat):Int),((0:Int),()))))).bind fun w11=> some (w11.1,(0:Int))) |.inr b6=>some (b6.1,b6.2.1))
theorem le_linear_Climb (x):Le (C_linear_Climb x) (F_linear_Climb x):=by
 unfold C_linear_Climb F_linear_Climb
 try dsimp only
 repeat' (first|exact Lr _|exact Li le_linear_Climb_l0|exact Li le_linear_Climb_l2|apply Lf|refine Lb ?_ fun _=>?_|(rename_i w;cases w)|(rename_i w _;cases w))
def C_linear_Round_l0 (st:Z63):Option (Z63 ⊕ (Z3 ⊕ Z15)):= bif decide (st.2.2.2.2.1<st.2.2.2.1) then ((gidx st.2.2.1 st.2.2.2.2.1).bind fun x2=> (show Option ((List Int)×(Int×Z34)) from bif decide (x2<(-35184372088832:Int)) then some (st.1,(st.2.1,(st.2.2.1,(st.2.2.2.1,(st.2.2.2.2.1,(true,())))))) else some (st.1,(st.2.1,(st.2.2.1,(st.2.2.2.1,(st.2.2.2.2.1,(decide (x2 > (35184372088832:Int)),()))))))).bind fun z3=> bif z3.2.2.2.2.2.1 then some (.inr (Sum.inr (((0:Int),((1:Int),(([]:(List Int)),())))))) else some (.inl (z3.1,(z3.2.1,(z3.2.2.1,(z3.2.2.2.1,(IntKind.wrap .i64 (z3.2.2.2.2.1+(1:Int)),()))))))) else some (.inr (Sum.inl (st.1,(st.2.1,()))))
theorem le_linear_Round_l0 (st):Le (C_linear_Round_l0 st) (F_linear_Round_l0 st):=by
 unfold C_linear_Round_l0 F_linear_Round_l0
 try dsimp only
 repeat' (first|exact Lr _|apply Lf|refine Lb ?_ fun _=>?_|(rename_i w;cases w)|(rename_i w _;cases w))
def C_linear_Round_l1 (st:Z120):Option (Z120 ⊕ Z44):= bif decide (st.2.2.2.2.2.2.1<st.2.2.2.2.2.1) then ((gidx st.2.2.2.2.1 st.2.2.2.2.2.2.1).bind fun x8=> bif decide (st.2.2.1<0) then none else ((C_sample_Fits (gshr .i64 (IntKind.wrap .i64 (x8+st.2.2.2.1)) st.2.2.1,st.2.1)).bind fun y9=> bif !y9 then some (.inr (st.1,(st.2.1,(st.2.2.1,(st.2.2.2.2.2.2.2.1,()))))) else (bif lim ((List.length st.2.2.2.2.2.2.2.1)+1) then some (.inl (st.1,(st.2.1,(st.2.2.1,(st.2.2.2.1,(st.2.2.2.2.1,(st.2.2.2.2.2.1,(IntKind.wrap .i64 (st.2.2.2.2.2.2.1+(1:Int)),(List.append st.2.2.2.2.2.2.2.1 ([gshr .i64 (IntKind.wrap .i64 (x8+st.2.2.2.1)) st.2.2.1]:List Int),()))))))))) else none))) else some (.inr (st.1,(st.2.1,(st.2.2.1,(st.2.2.2.2.2.2.2.1,())))))
theorem le_linear_Round_l1 (st):Le (C_linear_Round_l1 st) (F_linear_Round_l1 st):=by
 unfold C_linear_Round_l1 F_linear_Round_l1
 try dsimp only
 repeat' (first|exact Lr _|exact le_sample_Fits _|apply Lf|refine Lb ?_ fun _=>?_|(rename_i w;cases w)|(rename_i w _;cases w))
def C_linear_Round_l2 (st:Z14):Option (Z14 ⊕ (Unit ⊕ Z15)):= bif decide (st.2.2.1≤(14:Int)) then ((show Option Z33 from bif decide (st.2.2.1 > (0:Int)) then (bif decide ((IntKind.wrap .i64 (st.2.2.1-(1:Int)))<0) then none else some (st.1,(st.2.1,(st.2.2.1,(gshl .i64 (1:Int) (IntKind.wrap .i64 (st.2.2.1-(1:Int))),()))))) else some (st.1,(st.2.1,(st.2.2.1,((0:Int),()))))).bind fun z7=> bif (decide ((0:Int)≤((List.length z7.1:Nat):Int)))&&(lim (Int.toNat ((List.length z7.1:Nat):Int))) then ((iterN C_linear_Round_l1 400 (z7.1,(z7.2.1,(z7.2.2.1,(z7.2.2.2.1,(z7.1,(((List.length z7.1:Nat):Int),((0:Int),(([]:(List Int)),()))))))))).bind fun w10=> bif ((List.length w10.2.2.2.1:Nat):Int)==((List.length w10.1:Nat):Int) then some (.inr (Sum.inr ((IntKind.wrap .i64 ((14:Int)-w10.2.2.1),((0:Int),(w10.2.2.2.1,())))))) else some (.inl (w10.1,(w10.2.1,(IntKind.wrap .i64 (w10.2.2.1+(1:Int)),()))))) else none) else some (.inr (Sum.inl ()))
theorem le_linear_Round_l2 (st):Le (C_linear_Round_l2 st) (F_linear_Round_l2 st):=by
 unfold C_linear_Round_l2 F_linear_Round_l2
 try dsimp only
 repeat' (first|exact Lr _|exact Li le_linear_Round_l1|apply Lf|refine Lb ?_ fun _=>?_|(rename_i w;cases w)|(rename_i w _;cases w))
def C_linear_Round (x:((List Int)×Int)):Option Z2:= (show Option Z18 from bif decide (((List.length x.1:Nat):Int)<(1:Int)) then some (x.1,(x.2,(true,()))) else (bif decide (((List.length x.1:Nat):Int) > (32:Int)) then some (x.1,(x.2,(true,()))) else (bif decide (x.2<(2:Int)) then some (x.1,(x.2,(true,()))) else some (x.1,(x.2,(decide (x.2 > (16:Int)),())))))).bind fun z1=> bif z1.2.2.1 then some (([]:(List Int)),((0:Int),(1:Int))) else ((iterN C_linear_Round_l0 400 (z1.1,(z1.2.1,(z1.1,(((List.length z1.1:Nat):Int),((0:Int),())))))).bind fun w4=> match w4 with |.inl a5=>((iterN C_linear_Round_l2 400 (a5.1,(a5.2.1,((0:Int),())))).bind fun w11=> match w11 with |.inl a12=>some (([]:(List Int)),((0:Int),(6:Int))) |.inr b13=>some (b13.2.2.1,(b13.1,b13.2.1))) |.inr b6=>some (b6.2.2.1,(b6.1,b6.2.1)))
theorem le_linear_Round (x):Le (C_linear_Round x) (F_linear_Round x):=by
 unfold C_linear_Round F_linear_Round
 try dsimp only
 repeat' (first|exact Lr _|exact Li le_linear_Round_l0|exact Li le_linear_Round_l2|apply Lf|refine Lb ?_ fun _=>?_|(rename_i w;cases w)|(rename_i w _;cases w))
def C_linear_Find (x:Z2):Option Z2:= (C_linear_Reflect (x.1,x.2.1)).bind fun y1=> bif y1.2 != (0:Int) then some (([]:(List Int)),((0:Int),y1.2)) else ((C_linear_Climb y1.1).bind fun y2=> bif y2.2 != (0:Int) then some (([]:(List Int)),((0:Int),y2.2)) else ((C_linear_Round (y2.1,x.2.2)).bind fun y3=> some (y3.1,(y3.2.1,y3.2.2))))
theorem le_linear_Find (x):Le (C_linear_Find x) (F_linear_Find x):=by
 unfold C_linear_Find F_linear_Find
 try dsimp only
 repeat' (first|exact Lr _|exact le_linear_Reflect _|exact le_linear_Climb _|exact le_linear_Round _|apply Lf|refine Lb ?_ fun _=>?_|(rename_i w;cases w)|(rename_i w _;cases w))
def C_long_Find_l0 (st:Z106):Option (Z106 ⊕ ((List Int)×Z57)):= bif decide (st.2.2.2.2.2.2.2.1<((List.length st.1:Nat):Int)) then ((gidx st.1 st.2.2.2.2.2.2.2.1).bind fun x3=> (gidx st.1 (IntKind.wrap .i64 (st.2.2.2.2.2.2.2.1-st.2.2.2.2.2.1))).bind fun x4=> some (.inl (st.1,(st.2.1,(st.2.2.1,(st.2.2.2.1,(st.2.2.2.2.1,(st.2.2.2.2.2.1,(IntKind.wrap .i64 (st.2.2.2.2.2.2.1+(imax (IntKind.wrap .i64 (x3-x4)) (IntKind.wrap .i64 (0-(IntKind.wrap .i64 (x3-x4)))))),(IntKind.wrap .i64 (st.2.2.2.2.2.2.2.1+(1:Int)),())))))))))) else some (.inr (st.1,(st.2.1,(st.2.2.1,(st.2.2.2.1,(st.2.2.2.2.1,(st.2.2.2.2.2.1,(st.2.2.2.2.2.2.1,()))))))))
theorem le_long_Find_l0 (st):Le (C_long_Find_l0 st) (F_long_Find_l0 st):=by
 unfold C_long_Find_l0 F_long_Find_l0
 try dsimp only
 repeat' (first|exact Lr _|apply Lf|refine Lb ?_ fun _=>?_|(rename_i w;cases w)|(rename_i w _;cases w))
def C_long_Find_l1 (st:Z70):Option (Z70 ⊕ (Int×Unit)):= bif decide (st.2.2.2.2.2.1≤st.2.2.1) then ((iterN C_long_Find_l0 400 (st.1,(st.2.1,(st.2.2.1,(st.2.2.2.1,(st.2.2.2.2.1,(st.2.2.2.2.2.1,((0:Int),(st.2.2.1,()))))))))).bind fun w5=> (show Option ((List Int)×(Int×(Int×Z42))) from bif w5.2.2.2.2.2.1==w5.2.1 then some (w5.1,(w5.2.1,(w5.2.2.1,(w5.2.2.2.1,(w5.2.2.2.2.1,(w5.2.2.2.2.2.1,(w5.2.2.2.2.2.2.1,(true,())))))))) else some (w5.1,(w5.2.1,(w5.2.2.1,(w5.2.2.2.1,(w5.2.2.2.2.1,(w5.2.2.2.2.2.1,(w5.2.2.2.2.2.2.1,(decide (w5.2.2.2.2.2.2.1<w5.2.2.2.2.1),()))))))))).bind fun z6=> bif z6.2.2.2.2.2.2.2.1 then some (.inl (z6.1,(z6.2.1,(z6.2.2.1,(z6.2.2.2.2.2.1,(z6.2.2.2.2.2.2.1,(IntKind.wrap .i64 (z6.2.2.2.2.2.1+(1:Int)),()))))))) else some (.inl (z6.1,(z6.2.1,(z6.2.2.1,(z6.2.2.2.1,(z6.2.2.2.2.1,(IntKind.wrap .i64 (z6.2.2.2.2.2.1+(1:Int)),())))))))) else some (.inr (st.2.2.2.1,()))
theorem le_long_Find_l1 (st):Le (C_long_Find_l1 st) (F_long_Find_l1 st):=by
 unfold C_long_Find_l1 F_long_Find_l1
 try dsimp only
 repeat' (first|exact Lr _|exact Li le_long_Find_l0|apply Lf|refine Lb ?_ fun _=>?_|(rename_i w;cases w)|(rename_i w _;cases w))
def C_long_Find (x:Z2):Option (Int×Int):= (show Option Z34 from bif decide (x.2.1<(2:Int)) then some (x.1,(x.2.1,(x.2.2,(true,())))) else (bif decide (x.2.1 > x.2.2) then some (x.1,(x.2.1,(x.2.2,(true,())))) else (bif decide (x.2.2 > (1024:Int)) then some (x.1,(x.2.1,(x.2.2,(true,())))) else some (x.1,(x.2.1,(x.2.2,(decide (((List.length x.1:Nat):Int) > (4096:Int)),()))))))).bind fun z1=> bif z1.2.2.2.1 then some ((0:Int),(1:Int)) else (bif decide (((List.length z1.1:Nat):Int)≤z1.2.2.1) then some ((0:Int),(7:Int)) else ((C_long_allWide z1.1).bind fun y2=> bif !y2 then some ((0:Int),(6:Int)) else ((iterN C_long_Find_l1 400 (z1.1,(z1.2.1,(z1.2.2.1,((0:Int),((0:Int),(z1.2.1,()))))))).bind fun w7=> some (w7.1,(0:Int)))))
theorem le_long_Find (x):Le (C_long_Find x) (F_long_Find x):=by
 unfold C_long_Find F_long_Find
 try dsimp only
 repeat' (first|exact Lr _|exact le_long_allWide _|exact Li le_long_Find_l1|apply Lf|refine Lb ?_ fun _=>?_|(rename_i w;cases w)|(rename_i w _;cases w))
def C_long_Table (x:Unit):Option (List (List Int)):= some ([List.set (List.set (List.set (List.replicate 3 (0:Int)) 0 (0:Int)) 1 (0:Int)) 2 (0:Int),List.set (List.set (List.set (List.replicate 3 (0:Int)) 0 (0:Int)) 1 (64:Int)) 2 (0:Int),List.set (List.set (List.set (List.replicate 3 (0:Int)) 0 (0:Int)) 1 (32:Int)) 2 (0:Int),List.set (List.set (List.set (List.replicate 3 (0:Int)) 0 (16:Int)) 1 (32:Int)) 2 (16:Int),List.set (List.set (List.set (List.replicate 3 (0:Int)) 0 (21:Int)) 1 (22:Int)) 2 (21:Int),List.set (List.set (List.set (List.replicate 3 (0:Int)) 0 (0:Int)) 1 (48:Int)) 2 (0:Int),List.set (List.set (List.set (List.replicate 3 (0:Int)) 0 (-8:Int)) 1 (64:Int)) 2 (-8:Int),List.set (List.set (List.set (List.replicate 3 (0:Int)) 0 (32:Int)) 1 (32:Int)) 2 (0:Int),List.set (List.set (List.set (List.replicate 3 (0:Int)) 0 (0:Int)) 1 (32:Int)) 2 (32:Int)]:List (List Int))
theorem le_long_Table (x):Le (C_long_Table x) (F_long_Table x):=by
 unfold C_long_Table F_long_Table
 try dsimp only
 repeat' (first|exact Lr _|apply Lf|refine Lb ?_ fun _=>?_|(rename_i w;cases w)|(rename_i w _;cases w))
def C_long_Tune_l0 (st:Z169):Option (Z169 ⊕ ((List Int)×(Int×(Int×(Bool×(Int×(Int×(Int×Z94)))))))):= bif decide (st.2.2.2.2.2.2.2.2.1<st.2.2.2.2.2.2.2.1) then (bif (decide ((0:Int)≤st.2.2.2.2.2.2.2.2.1))&&(decide (st.2.2.2.2.2.2.2.2.1<((List.length st.2.2.2.2.2.2.2.2.2.2.1:Nat):Int))) then some (.inl (st.1,(st.2.1,(st.2.2.1,(st.2.2.2.1,(IntKind.wrap .i64 (st.2.2.2.2.1+(imax (List.getD st.2.2.2.2.2.2.2.2.2.2.1 (Int.toNat st.2.2.2.2.2.2.2.2.1) (0:Int)) (IntKind.wrap .i64 (0-(List.getD st.2.2.2.2.2.2.2.2.2.2.1 (Int.toNat st.2.2.2.2.2.2.2.2.1) (0:Int)))))),(st.2.2.2.2.2.1,(st.2.2.2.2.2.2.1,(st.2.2.2.2.2.2.2.1,(IntKind.wrap .i64 (st.2.2.2.2.2.2.2.2.1+(1:Int)),(st.2.2.2.2.2.2.2.2.2.1,(st.2.2.2.2.2.2.2.2.2.2.1,(st.2.2.2.2.2.2.2.2.2.2.2.1,(st.2.2.2.2.2.2.2.2.2.2.2.2.1,(st.2.2.2.2.2.2.2.2.2.2.2.2.2.1,()))))))))))))))) else none) else some (.inr (st.1,(st.2.1,(st.2.2.1,(st.2.2.2.1,(st.2.2.2.2.1,(st.2.2.2.2.2.1,(st.2.2.2.2.2.2.1,(st.2.2.2.2.2.2.2.2.2.1,(st.2.2.2.2.2.2.2.2.2.2.2.1,(st.2.2.2.2.2.2.2.2.2.2.2.2.1,(st.2.2.2.2.2.2.2.2.2.2.2.2.2.1,()))))))))))))
theorem le_long_Tune_l0 (st):Le (C_long_Tune_l0 st) (F_long_Tune_l0 st):=by
 unfold C_long_Tune_l0 F_long_Tune_l0
 try dsimp only
 repeat' (first|exact Lr _|apply Lf|refine Lb ?_ fun _=>?_|(rename_i w;cases w)|(rename_i w _;cases w))
def C_long_Tune_l1 (st:Z141):Option (Z141 ⊕ (Bool×Z13)):= bif decide (st.2.2.2.2.2.1<st.2.2.2.2.1) then (bif (decide ((0:Int)≤st.2.2.2.2.2.1))&&(decide (st.2.2.2.2.2.1<((List.length st.2.2.2.2.2.2.1:Nat):Int))) then ((C_long_Rest (st.1,(st.2.1,List.getD st.2.2.2.2.2.2.1 (Int.toNat st.2.2.2.2.2.1) (List.replicate 3 (0:Int))))).bind fun y3=> bif y3.2 != (0:Int) then some (.inl (st.1,(st.2.1,(st.2.2.1,(st.2.2.2.1,(st.2.2.2.2.1,(IntKind.wrap .i64 (st.2.2.2.2.2.1+(1:Int)),(st.2.2.2.2.2.2.1,(st.2.2.2.2.2.2.2.1,(st.2.2.2.2.2.2.2.2.1,())))))))))) else ((iterN C_long_Tune_l0 400 (st.1,(st.2.1,(st.2.2.1,(st.2.2.2.1,((0:Int),(st.2.2.2.2.1,(st.2.2.2.2.2.1,(((List.length y3.1:Nat):Int),((0:Int),(st.2.2.2.2.2.2.1,(y3.1,(st.2.2.2.2.2.2.2.1,(st.2.2.2.2.2.2.2.2.1,(List.getD st.2.2.2.2.2.2.1 (Int.toNat st.2.2.2.2.2.1) (List.replicate 3 (0:Int)),()))))))))))))))).bind fun w4=> (show Option ((List Int)×(Int×(Int×(Bool×(Int×(Int×(Int×(Bool×Z94)))))))) from bif !w4.2.2.2.1 then some (w4.1,(w4.2.1,(w4.2.2.1,(w4.2.2.2.1,(w4.2.2.2.2.1,(w4.2.2.2.2.2.1,(w4.2.2.2.2.2.2.1,(true,(w4.2.2.2.2.2.2.2.1,(w4.2.2.2.2.2.2.2.2.1,(w4.2.2.2.2.2.2.2.2.2.1,(w4.2.2.2.2.2.2.2.2.2.2.1,())))))))))))) else some (w4.1,(w4.2.1,(w4.2.2.1,(w4.2.2.2.1,(w4.2.2.2.2.1,(w4.2.2.2.2.2.1,(w4.2.2.2.2.2.2.1,(decide (w4.2.2.2.2.1<w4.2.2.1),(w4.2.2.2.2.2.2.2.1,(w4.2.2.2.2.2.2.2.2.1,(w4.2.2.2.2.2.2.2.2.2.1,(w4.2.2.2.2.2.2.2.2.2.2.1,()))))))))))))).bind fun z5=> bif z5.2.2.2.2.2.2.2.1 then some (.inl (z5.1,(z5.2.1,(z5.2.2.2.2.1,(true,(z5.2.2.2.2.2.1,(IntKind.wrap .i64 (z5.2.2.2.2.2.2.1+(1:Int)),(z5.2.2.2.2.2.2.2.2.1,(z5.2.2.2.2.2.2.2.2.2.1,(z5.2.2.2.2.2.2.2.2.2.2.2.1,())))))))))) else some (.inl (z5.1,(z5.2.1,(z5.2.2.1,(z5.2.2.2.1,(z5.2.2.2.2.2.1,(IntKind.wrap .i64 (z5.2.2.2.2.2.2.1+(1:Int)),(z5.2.2.2.2.2.2.2.2.1,(z5.2.2.2.2.2.2.2.2.2.1,(z5.2.2.2.2.2.2.2.2.2.2.1,())))))))))))) else none) else some (.inr (st.2.2.2.1,(st.2.2.2.2.2.2.2.1,(st.2.2.2.2.2.2.2.2.1,()))))
theorem le_long_Tune_l1 (st):Le (C_long_Tune_l1 st) (F_long_Tune_l1 st):=by
 unfold C_long_Tune_l1 F_long_Tune_l1
 try dsimp only
 repeat' (first|exact Lr _|exact le_long_Rest _|exact Li le_long_Tune_l0|apply Lf|refine Lb ?_ fun _=>?_|(rename_i w;cases w)|(rename_i w _;cases w))
def C_long_Tune (x:((List Int)×Int)):Option ((List Int)×Int):= (show Option ((List Int)×Z20) from bif decide (x.2<(2:Int)) then some (x.1,(x.2,(true,(List.replicate 3 (0:Int),())))) else some (x.1,(x.2,(decide (x.2 > (1024:Int)),(List.replicate 3 (0:Int),()))))).bind fun z1=> bif z1.2.2.1 then some (List.replicate 3 (0:Int),(1:Int)) else ((C_long_Table ()).bind fun y2=> (iterN C_long_Tune_l1 400 (z1.1,(z1.2.1,((0:Int),(false,(((List.length y2:Nat):Int),((0:Int),(y2,(z1.2.2.2.1,(List.replicate 3 (0:Int),())))))))))).bind fun w6=> bif !w6.1 then some (List.replicate 3 (0:Int),(6:Int)) else some (w6.2.2.1,(0:Int)))
theorem le_long_Tune (x):Le (C_long_Tune x) (F_long_Tune x):=by
 unfold C_long_Tune F_long_Tune
 try dsimp only
 repeat' (first|exact Lr _|exact le_long_Table _|exact Li le_long_Tune_l1|apply Lf|refine Lb ?_ fun _=>?_|(rename_i w;cases w)|(rename_i w _;cases w))
def C_sub_lagged (x:(List Int)):Option (Z170×Bool):= (C_long_Find (x,((16:Int),(256:Int)))).bind fun y1=> bif y1.2 != (0:Int) then some (((0:Int),((0:Int),((0:Int),((0:Int),((0:Int),(([]:(List Int)),(List.replicate 3 (0:Int),(([]:Z4),(([]:(List Int)),(((0:Int),(([]:(List Int)),())),(([]:(List Int)),()))))))))))),false) else ((C_long_Tune (x,y1.1)).bind fun y2=> bif y2.2 != (0:Int) then some (((0:Int),((0:Int),((0:Int),((0:Int),((0:Int),(([]:(List Int)),(List.replicate 3 (0:Int),(([]:Z4),(([]:(List Int)),(((0:Int),(([]:(List Int)),())),(([]:(List Int)),()))))))))))),false) else ((C_long_Rest (x,(y1.1,y2.1))).bind fun y3=> bif y3.2 != (0:Int) then some (((0:Int),((0:Int),((0:Int),((0:Int),((0:Int),(([]:(List Int)),(List.replicate 3 (0:Int),(([]:Z4),(([]:(List Int)),(((0:Int),(([]:(List Int)),())),(([]:(List Int)),()))))))))))),false) else ((C_linear_Find (y3.1,((4:Int),(12:Int)))).bind fun y4=> bif y4.2.2 != (0:Int) then some (((0:Int),((0:Int),((0:Int),((0:Int),((0:Int),(([]:(List Int)),(List.replicate 3 (0:Int),(([]:Z4),(([]:(List Int)),(((0:Int),(([]:(List Int)),())),(([]:(List Int)),()))))))))))),false) else some (((4:Int),((0:Int),((0:Int),(y4.2.1,(y1.1,(y4.1,(y2.1,(([]:Z4),(([]:(List Int)),(((0:Int),(([]:(List Int)),())),(([]:(List Int)),()))))))))))),true))))
theorem le_sub_lagged (x):Le (C_sub_lagged x) (F_sub_lagged x):=by
 unfold C_sub_lagged F_sub_lagged
 try dsimp only
 repeat' (first|exact Lr _|exact le_long_Find _|exact le_long_Tune _|exact le_long_Rest _|exact le_linear_Find _|apply Lf|refine Lb ?_ fun _=>?_|(rename_i w;cases w)|(rename_i w _;cases w))
def C_sub_candidates_1 (x:(Int×(Int×Z180))):Option Z180:= (C_linear_Find (x.2.2.1,(x.1,x.2.1))).bind fun y1=> bif y1.2.2==(0:Int) then (bif lim ((List.length x.2.2.2)+1) then some (x.2.2.1,List.append x.2.2.2 ([((3:Int),((0:Int),((0:Int),(y1.2.1,((0:Int),(y1.1,(List.replicate 3 (0:Int),(([]:Z4),(([]:(List Int)),(((0:Int),(([]:(List Int)),())),(([]:(List Int)),())))))))))))]:List Z170)) else none) else some (x.2.2.1,x.2.2.2)
theorem le_sub_candidates_1 (x):Le (C_sub_candidates_1 x) (F_sub_candidates_1 x):=by
 unfold C_sub_candidates_1 F_sub_candidates_1
 try dsimp only
 repeat' (first|exact Lr _|exact le_linear_Find _|apply Lf|refine Lb ?_ fun _=>?_|(rename_i w;cases w)|(rename_i w _;cases w))
def C_sub_candidates_l0 (st:Z190):Option (Z190 ⊕ Z184):= bif decide (st.1<(5:Int)) then (bif lim ((List.length st.2.1)+1) then some (.inl (IntKind.wrap .i64 (st.1+(1:Int)),(List.append st.2.1 ([((2:Int),((0:Int),(st.1,((0:Int),((0:Int),(([]:(List Int)),(List.replicate 3 (0:Int),(([]:Z4),(([]:(List Int)),(((0:Int),(([]:(List Int)),())),(([]:(List Int)),())))))))))))]:List Z170),(st.2.2.1,())))) else none) else some (.inr (st.2.1,(st.2.2.1,())))
theorem le_sub_candidates_l0 (st):Le (C_sub_candidates_l0 st) (F_sub_candidates_l0 st):=by
 unfold C_sub_candidates_l0 F_sub_candidates_l0
 try dsimp only
 repeat' (first|exact Lr _|apply Lf|refine Lb ?_ fun _=>?_|(rename_i w;cases w)|(rename_i w _;cases w))
def C_sub_candidates (x:((List Int)×Int)):Option Z171:= (C_fixed_Best x.1).bind fun y1=> (show Option (Int×((List Int)×Z176)) from bif decide (x.2≥(1:Int)) then ((C_sub_candidates_1 ((4:Int),((12:Int),(x.1,([((0:Int),((0:Int),((0:Int),((0:Int),((0:Int),(([]:(List Int)),(List.replicate 3 (0:Int),(([]:Z4),(([]:(List Int)),(((0:Int),(([]:(List Int)),())),(([]:(List Int)),()))))))))))),((1:Int),((0:Int),((0:Int),((0:Int),((0:Int),(([]:(List Int)),(List.replicate 3 (0:Int),(([]:Z4),(([]:(List Int)),(((0:Int),(([]:(List Int)),())),(([]:(List Int)),()))))))))))),((2:Int),((0:Int),(y1,((0:Int),((0:Int),(([]:(List Int)),(List.replicate 3 (0:Int),(([]:Z4),(([]:(List Int)),(((0:Int),(([]:(List Int)),())),(([]:(List Int)),())))))))))))]:List Z170))))).bind fun y2=> (C_sub_candidates_1 ((8:Int),((12:Int),(y2.1,y2.2)))).bind fun y3=> some (x.2,(y3.1,(y3.2,())))) else some (x.2,(x.1,(([((0:Int),((0:Int),((0:Int),((0:Int),((0:Int),(([]:(List Int)),(List.replicate 3 (0:Int),(([]:Z4),(([]:(List Int)),(((0:Int),(([]:(List Int)),())),(([]:(List Int)),()))))))))))),((1:Int),((0:Int),((0:Int),((0:Int),((0:Int),(([]:(List Int)),(List.replicate 3 (0:Int),(([]:Z4),(([]:(List Int)),(((0:Int),(([]:(List Int)),())),(([]:(List Int)),()))))))))))),((2:Int),((0:Int),(y1,((0:Int),((0:Int),(([]:(List Int)),(List.replicate 3 (0:Int),(([]:Z4),(([]:(List Int)),(((0:Int),(([]:(List Int)),())),(([]:(List Int)),())))))))))))]:List Z170),())))).bind fun z4=> (show Option Z190 from bif decide (z4.1≥(2:Int)) then (bif lim ((List.length z4.2.2.1)+1) then (bif lim ((List.length (List.append z4.2.2.1 ([((5:Int),((0:Int),((0:Int),((0:Int),((0:Int),(([]:(List Int)),(List.replicate 3 (0:Int),(([((16:Int),((4:Int),()))]:List (Int×(Int×Unit))),(([]:(List Int)),(((0:Int),(([]:(List Int)),())),(([]:(List Int)),())))))))))))]:List Z170)))+1) then ((C_sub_lagged z4.2.1).bind fun y5=> bif y5.2 then (bif lim ((List.length (List.append (List.append z4.2.2.1 ([((5:Int),((0:Int),((0:Int),((0:Int),((0:Int),(([]:(List Int)),(List.replicate 3 (0:Int),(([((16:Int),((4:Int),()))]:List (Int×(Int×Unit))),(([]:(List Int)),(((0:Int),(([]:(List Int)),())),(([]:(List Int)),())))))))))))]:List Z170)) ([((5:Int),((0:Int),((0:Int),((0:Int),((0:Int),(([]:(List Int)),(List.replicate 3 (0:Int),(([((32:Int),((3:Int),())),((16:Int),((5:Int),()))]:List (Int×(Int×Unit))),(([]:(List Int)),(((0:Int),(([]:(List Int)),())),(([]:(List Int)),())))))))))))]:List Z170)))+1) then some (z4.1,(List.append (List.append (List.append z4.2.2.1 ([((5:Int),((0:Int),((0:Int),((0:Int),((0:Int),(([]:(List Int)),(List.replicate 3 (0:Int),(([((16:Int),((4:Int),()))]:List (Int×(Int×Unit))),(([]:(List Int)),(((0:Int),(([]:(List Int)),())),(([]:(List Int)),())))))))))))]:List Z170)) ([((5:Int),((0:Int),((0:Int),((0:Int),((0:Int),(([]:(List Int)),(List.replicate 3 (0:Int),(([((32:Int),((3:Int),())),((16:Int),((5:Int),()))]:List (Int×(Int×Unit))),(([]:(List Int)),(((0:Int),(([]:(List Int)),())),(([]:(List Int)),())))))))))))]:List Z170)) ([y5.1]:List Z170),(z4.2.1,()))) else none) else some (z4.1,(List.append (List.append z4.2.2.1 ([((5:Int),((0:Int),((0:Int),((0:Int),((0:Int),(([]:(List Int)),(List.replicate 3 (0:Int),(([((16:Int),((4:Int),()))]:List (Int×(Int×Unit))),(([]:(List Int)),(((0:Int),(([]:(List Int)),())),(([]:(List Int)),())))))))))))]:List Z170)) ([((5:Int),((0:Int),((0:Int),((0:Int),((0:Int),(([]:(List Int)),(List.replicate 3 (0:Int),(([((32:Int),((3:Int),())),((16:Int),((5:Int),()))]:List (Int×(Int×Unit))),(([]:(List Int)),(((0:Int),(([]:(List Int)),())),(([]:(List Int)),())))))))))))]:List Z170),(z4.2.1,())))) else none) else none) else some (z4.1,(z4.2.2.1,(z4.2.1,())))).bind fun z6=> (show Option Z176 from bif decide (z6.1≥(3:Int)) then ((iterN C_sub_candidates_l0 400 ((0:Int),(z6.2.1,(z6.2.2.1,())))).bind fun w7=> (C_sub_candidates_1 ((1:Int),((12:Int),(w7.2.1,w7.1)))).bind fun y8=> (C_sub_candidates_1 ((2:Int),((12:Int),(y8.1,y8.2)))).bind fun y9=> (C_sub_candidates_1 ((12:Int),((14:Int),(y9.1,y9.2)))).bind fun y10=> (C_sub_candidates_1 ((16:Int),((14:Int),(y10.1,y10.2)))).bind fun y11=> some (y11.2,())) else some (z6.2.1,())).bind fun z12=> some z12.1
theorem le_sub_candidates (x):Le (C_sub_candidates x) (F_sub_candidates x):=by
 unfold C_sub_candidates F_sub_candidates
 try dsimp only
 repeat' (first|exact Lr _|exact le_fixed_Best _|exact le_sub_candidates_1 _|exact le_sub_lagged _|exact Li le_sub_candidates_l0|apply Lf|refine Lb ?_ fun _=>?_|(rename_i w;cases w)|(rename_i w _;cases w))
def C_sub_Best_l0 (st:Z215):Option (Z215 ⊕ Z206):= bif decide (st.2.2.2.2.2.1<st.2.2.2.2.1) then ((gidx st.2.2.2.1 st.2.2.2.2.2.1).bind fun x6=> (C_sub_Make (x6.1,(st.1,x6))).bind fun y7=> bif y7.2 != (0:Int) then some (.inl (st.1,(st.2.1,(st.2.2.1,(st.2.2.2.1,(st.2.2.2.2.1,(IntKind.wrap .i64 (st.2.2.2.2.2.1+(1:Int)),(st.2.2.2.2.2.2.1,(st.2.2.2.2.2.2.2.1,()))))))))) else ((C_sub_Cost (y7.1,((List.length st.1:Nat):Int))).bind fun y8=> (show Option ((List Int)×(Int×(Bool×(Int×(Z171×(Int×(Int×(Bool×Z211)))))))) from bif !st.2.2.1 then some (st.1,(st.2.1,(st.2.2.1,(y8,(st.2.2.2.1,(st.2.2.2.2.1,(st.2.2.2.2.2.1,(true,(st.2.2.2.2.2.2.1,(st.2.2.2.2.2.2.2.1,(y7.1,()))))))))))) else some (st.1,(st.2.1,(st.2.2.1,(y8,(st.2.2.2.1,(st.2.2.2.2.1,(st.2.2.2.2.2.1,(decide (y8<st.2.1),(st.2.2.2.2.2.2.1,(st.2.2.2.2.2.2.2.1,(y7.1,())))))))))))).bind fun z9=> bif z9.2.2.2.2.2.2.2.1 then some (.inl (z9.1,(z9.2.2.2.1,(true,(z9.2.2.2.2.1,(z9.2.2.2.2.2.1,(IntKind.wrap .i64 (z9.2.2.2.2.2.2.1+(1:Int)),(z9.2.2.2.2.2.2.2.2.1,(z9.2.2.2.2.2.2.2.2.2.2.1,()))))))))) else some (.inl (z9.1,(z9.2.1,(z9.2.2.1,(z9.2.2.2.2.1,(z9.2.2.2.2.2.1,(IntKind.wrap .i64 (z9.2.2.2.2.2.2.1+(1:Int)),(z9.2.2.2.2.2.2.2.2.1,(z9.2.2.2.2.2.2.2.2.2.1,()))))))))))) else some (.inr (st.2.2.2.2.2.2.1,(st.2.2.2.2.2.2.2.1,())))
theorem le_sub_Best_l0 (st):Le (C_sub_Best_l0 st) (F_sub_Best_l0 st):=by
 unfold C_sub_Best_l0 F_sub_Best_l0
 try dsimp only
 repeat' (first|exact Lr _|exact le_sub_Make _|exact le_sub_Cost _|apply Lf|refine Lb ?_ fun _=>?_|(rename_i w;cases w)|(rename_i w _;cases w))
def C_sub_Best (x:((List Int)×Int)):Option Z172:= (show Option ((List Int)×Z183) from bif decide (((List.length x.1:Nat):Int)<(1:Int)) then some (x.1,(x.2,(true,(((0:Int),((0:Int),((0:Int),((0:Int),((0:Int),(([]:(List Int)),(List.replicate 3 (0:Int),(([]:Z4),(([]:(List Int)),(((0:Int),(([]:(List Int)),())),(([]:(List Int)),()))))))))))),())))) else (bif decide (((List.length x.1:Nat):Int) > (4096:Int)) then some (x.1,(x.2,(true,(((0:Int),((0:Int),((0:Int),((0:Int),((0:Int),(([]:(List Int)),(List.replicate 3 (0:Int),(([]:Z4),(([]:(List Int)),(((0:Int),(([]:(List Int)),())),(([]:(List Int)),()))))))))))),())))) else (bif decide (x.2<(0:Int)) then some (x.1,(x.2,(true,(((0:Int),((0:Int),((0:Int),((0:Int),((0:Int),(([]:(List Int)),(List.replicate 3 (0:Int),(([]:Z4),(([]:(List Int)),(((0:Int),(([]:(List Int)),())),(([]:(List Int)),()))))))))))),())))) else some (x.1,(x.2,(decide (x.2 > (3:Int)),(((0:Int),((0:Int),((0:Int),((0:Int),((0:Int),(([]:(List Int)),(List.replicate 3 (0:Int),(([]:Z4),(([]:(List Int)),(((0:Int),(([]:(List Int)),())),(([]:(List Int)),()))))))))))),()))))))).bind fun z1=> bif z1.2.2.1 then some (((0:Int),((0:Int),((0:Int),((0:Int),((0:Int),(([]:(List Int)),(List.replicate 3 (0:Int),(([]:Z4),(([]:(List Int)),(((0:Int),(([]:(List Int)),())),(([]:(List Int)),()))))))))))),(1:Int)) else ((C_sub_allWide z1.1).bind fun y2=> bif !y2 then some (((0:Int),((0:Int),((0:Int),((0:Int),((0:Int),(([]:(List Int)),(List.replicate 3 (0:Int),(([]:Z4),(([]:(List Int)),(((0:Int),(([]:(List Int)),())),(([]:(List Int)),()))))))))))),(6:Int)) else ((C_sample_Wasted z1.1).bind fun y3=> (C_sample_Down (z1.1,y3)).bind fun y4=> bif y4.2 != (0:Int) then some (((0:Int),((0:Int),((0:Int),((0:Int),((0:Int),(([]:(List Int)),(List.replicate 3 (0:Int),(([]:Z4),(([]:(List Int)),(((0:Int),(([]:(List Int)),())),(([]:(List Int)),()))))))))))),y4.2) else ((C_sub_candidates (y4.1,z1.2.1)).bind fun y5=> (iterN C_sub_Best_l0 400 (z1.1,((0:Int),(false,(y5,(((List.length y5:Nat):Int),((0:Int),(z1.2.2.2.1,(((0:Int),((0:Int),((0:Int),((0:Int),((0:Int),(([]:(List Int)),(List.replicate 3 (0:Int),(([]:Z4),(([]:(List Int)),(((0:Int),(([]:(List Int)),())),(([]:(List Int)),()))))))))))),()))))))))).bind fun w10=> some (w10.2.1,(0:Int)))))
theorem le_sub_Best (x):Le (C_sub_Best x) (F_sub_Best x):=by
 unfold C_sub_Best F_sub_Best
 try dsimp only
 repeat' (first|exact Lr _|exact le_sub_allWide _|exact le_sample_Wasted _|exact le_sample_Down _|exact le_sub_candidates _|exact Li le_sub_Best_l0|apply Lf|refine Lb ?_ fun _=>?_|(rename_i w;cases w)|(rename_i w _;cases w))
def C_l15_known (x:Unit):Option Bool:= (C_sub_Make ((2:Int),(([(4:Int),(8:Int),(12:Int),(16:Int)]:List Int),((0:Int),((0:Int),((1:Int),((0:Int),((0:Int),(([]:(List Int)),(List.replicate 3 (0:Int),(([]:Z4),(([]:(List Int)),(((0:Int),(([]:(List Int)),())),(([]:(List Int)),())))))))))))))).bind fun y1=> (C_sub_Row (y1.1,(4:Int))).bind fun y2=> (C_sub_Best (([(6:Int),(6:Int),(6:Int)]:List Int),(0:Int))).bind fun y3=> bif y1.2==(0:Int) then (bif y2.2==(0:Int) then (bif y3.2==(0:Int) then (bif y1.1.2.1==(2:Int) then ((C_r2_SameInts (y1.1.2.2.2.2.2.2.2.2.1,([(1:Int)]:List Int))).bind fun y4=> bif y4 then ((C_r2_SameInts (y1.1.2.2.2.2.2.2.2.2.2.2.1,([(1:Int),(1:Int),(1:Int)]:List Int))).bind fun y5=> bif y5 then ((C_r2_SameInts (y2.1,([(4:Int),(8:Int),(12:Int),(16:Int)]:List Int))).bind fun y6=> bif y6 then (bif y3.1.1==(0:Int) then ((C_r2_SameInts (y3.1.2.2.2.2.2.2.2.2.1,([(6:Int)]:List Int))).bind fun y7=> bif y7 then ((C_sub_Cost (y3.1,(3:Int))).bind fun y8=> some (y8==(17:Int))) else some false) else some false) else some false) else some false) else some false) else some false) else some false) else some false) else some false
theorem le_l15_known (x):Le (C_l15_known x) (F_l15_known x):=by
 unfold C_l15_known F_l15_known
 refine Lb (le_sub_Make _) fun y1=>Lb (le_sub_Row _) fun y2=>Lb (le_sub_Best _) fun y3=>?_
 refine Lf (Lf (Lf (Lf ?_ (Lr _)) (Lr _)) (Lr _)) (Lr _)
 refine Lb (le_r2_SameInts _) fun y4=>Lf ?_ (Lr _)
 refine Lb (le_r2_SameInts _) fun y5=>Lf ?_ (Lr _)
 refine Lb (le_r2_SameInts _) fun y6=>Lf (Lf ?_ (Lr _)) (Lr _)
 refine Lb (le_r2_SameInts _) fun y7=>Lf ?_ (Lr _)
 exact Lb (le_sub_Cost _) fun _=>Lr _
set_option maxRecDepth 100000 in
theorem known_C:C_l15_known ()=some true:=by kernel_rfl
theorem known_true:F_l15_known ()=some true:=le_l15_known () true known_C
end Go.Ab
namespace Go.Ab
theorem Small_eq (s:Sub):F_l15_Small (s,200)=some (decide (s.2.2.2.2.2.1.length≤40∧s.2.2.2.2.2.2.2.1.length≤6∧s.2.2.2.2.2.2.2.2.1.length≤200∧s.2.2.2.2.2.2.2.2.2.2.1.length≤200∧s.2.2.2.2.2.2.2.2.2.1.2.1.length≤300)):=by
 have hd:∀ (n m:Nat),decide ((n:Int)≤(m:Int))=decide (n≤m):=fun n m=>by
  by_cases h:n≤m
  ·have:(n:Int)≤(m:Int):=by omega
   simp [h,this]
  ·have:¬ (n:Int)≤(m:Int):=by omega
   simp [h,this]
 have h40:=hd s.2.2.2.2.2.1.length 40
 have h6:=hd s.2.2.2.2.2.2.2.1.length 6
 have hw:=hd s.2.2.2.2.2.2.2.2.1.length 200
 have hr:=hd s.2.2.2.2.2.2.2.2.2.2.1.length 200
 have hk:=hd s.2.2.2.2.2.2.2.2.2.1.2.1.length 300
 unfold F_l15_Small
 simp only [Int.cast_ofNat_Int] at h40 h6 hw hr hk
 simp only [h40,h6,hw,hr,hk,and_some]
 congr 1
 rw [Bool.eq_iff_iff]
 simp only [Bool.and_eq_true,decide_eq_true_eq]
end Go.Ab
namespace Go.Ab
def outL (L:List Int) (i:Nat):List Int:=(wL (L.take i)).1++List.replicate ((L.length+7) / 8-(i+7) / 8) 0
theorem outL_length {L:List Int} {i:Nat} (h:i≤L.length):(outL L i).length=(L.length+7) / 8:=by
 obtain ⟨-,h2⟩:=wL_facts (L.take i)
 rw [List.length_take,Nat.min_eq_left h] at h2
 simp only [outL,List.length_append,List.length_replicate,h2]
 omega
theorem set_app {α:Type} {a b:List α} {i:Nat} {x:α} (h:i<a.length):(a++b).set i x=a.set i x++b:=by
 rw [List.set_append]
 simp [h]
theorem getD_app {a b:List Int} {i:Nat} (h:i<a.length):(a++b).getD i 0=a.getD i 0:=by
 simp [List.getD_eq_getElem?_getD,List.getElem?_append_left h]
theorem outL_step {L:List Int} {i:Nat} (h:i<L.length):
  (outL L i).set (i / 8) (bits .u8 .or ((outL L i).getD (i / 8) 0) (gshl .u8 L[i] (7-(i:Int)%8)))=outL L (i+1):=by
 obtain ⟨h1,h2⟩:=wL_facts (L.take i)
 rw [List.length_take,Nat.min_eq_left (Nat.le_of_lt h)] at h1 h2
 have et:L.take (i+1)=L.take i++[L[i]]:=by simp
 unfold outL
 rw [et,wL_snoc]
 generalize wL (L.take i)=wr at h1 h2 ⊢
 obtain ⟨bs,n,u⟩:=wr
 have h1:n=(i:Int):=h1
 have h2:bs.length=(i+7) / 8:=h2
 subst h1
 have e8:((i:Int) / 8).toNat=i / 8:=by omega
 unfold bitS
 simp only [e8]
 by_cases hz:i%8=0
 ·have hz':(i:Int)%8=0:=by omega
  rw [if_pos hz']
  have ek:(L.length+7) / 8-(i+7) / 8=((L.length+7) / 8-(i+1+7) / 8)+1:=by omega
  rw [ek,List.replicate_succ]
  have ea:bs++(0:Int)::List.replicate ((L.length+7) / 8-(i+1+7) / 8) 0=(bs++[0])++List.replicate ((L.length+7) / 8-(i+1+7) / 8) 0:=by simp
  have hl:i / 8<(bs++[(0:Int)]).length:=by simp [h2];omega
  rw [ea,set_app hl,getD_app hl]
 ·have hz':¬ (i:Int)%8=0:=by omega
  rw [if_neg hz']
  have ek:(L.length+7) / 8-(i+7) / 8=(L.length+7) / 8-(i+1+7) / 8:=by omega
  have hl:i / 8<bs.length:=by rw [h2];omega
  rw [ek,set_app hl,getD_app hl]
theorem ref_Bytes_eq {L:List Int} (hL:L.length<1000000):F_r2_Writer_Bytes (L,())=some ((wL L).1,(L,())):=by
 have e0:IntKind.wrap .i64 (((L.length:Nat):Int)+7)=((L.length:Nat):Int)+7:=wrap64 (by omega)
 have e1:Int.tdiv (((L.length:Nat):Int)+7) 8=(((L.length:Nat):Int)+7) / 8:=Int.tdiv_eq_ediv_of_nonneg (by omega)
 have e2:IntKind.wrap .i64 ((((L.length:Nat):Int)+7) / 8)=(((L.length:Nat):Int)+7) / 8:=wrap64 (by omega)
 have e3:Int.toNat ((((L.length:Nat):Int)+7) / 8)=(L.length+7) / 8:=by omega
 have g0:decide ((0:Int)≤(((L.length:Nat):Int)+7) / 8)=true:=by simp;omega
 have g1:decide ((((L.length:Nat):Int)+7) / 8≤(((L.length:Nat):Int)+7) / 8)=true:=by simp
 have g2:lim ((L.length+7) / 8)=true:=lim_of (by omega)
 have start:outL L 0=List.replicate ((L.length+7) / 8) 0:=by simp [outL,wL]
 have fin:outL L L.length=(wL L).1:=by simp [outL]
 have loop:=iter_count (f:=F_r2_Writer_Bytes_l0) (fun i:Nat=>((i:Int),(outL L i,((L,()),())))) L.length (b:=((wL L).1,((L,()),())))
  (fun i hi=>by
   have t1:Int.tdiv (i:Int) 8=(i:Int) / 8:=Int.tdiv_eq_ediv_of_nonneg (by omega)
   have t2:Int.tmod (i:Int) 8=(i:Int)%8:=Int.tmod_eq_emod_of_nonneg (by omega)
   have w1:IntKind.wrap .i64 ((i:Int) / 8)=(i:Int) / 8:=wrap64 (by omega)
   have w2:IntKind.wrap .i64 (7-(i:Int)%8)=7-(i:Int)%8:=wrap64 (by omega)
   have w3:IntKind.wrap .u64 (7-(i:Int)%8)=7-(i:Int)%8:=wrapu64 (by omega)
   have w4:IntKind.wrap .i64 ((i:Int)+1)=((i+1:Nat):Int):=wrap_succ (by omega)
   have d0:decide ((i:Int)<((L.length:Nat):Int))=true:=by simp;omega
   have d1:decide ((0:Int)≤(i:Int) / 8)=true:=by simp;omega
   have d2:decide ((i:Int) / 8<(((outL L i).length:Nat):Int))=true:=by rw [outL_length (by omega)];simp;omega
   have d3:decide ((0:Int)≤(i:Int))=true:=by simp
   have d4:decide (7-(i:Int)%8<0)=false:=by simp;omega
   have n1:Int.toNat ((i:Int) / 8)=i / 8:=by omega
   have n2:Int.toNat (i:Int)=i:=by omega
   have g:L.getD i 0=L[i]:=by simp [List.getD_eq_getElem?_getD,hi]
   have st:=outL_step hi
   simp only [F_r2_Writer_Bytes_l0,t1,t2,w1,w2,w3,w4,d0,d1,d2,d3,d4,n1,n2,g,st,Bool.and_self,cond_true,cond_false])
  (by
   have d0:decide (((L.length:Nat):Int)<((L.length:Nat):Int))=false:=by simp
   simp only [F_r2_Writer_Bytes_l0,d0,cond_false,fin])
 unfold F_r2_Writer_Bytes
 simp only [start,Int.natCast_zero,Int.cast_ofNat_Int] at loop
 simp only [e0,e1,e2,e3,g0,g1,g2,Bool.and_self,cond_true]
 erw [loop]
 rfl
theorem and7 (y:Int):bits .i64 .and y 7=y%8:=by
 have h:((BitVec.ofInt 64 y) &&& (BitVec.ofInt 64 7)).toNat=(y%18446744073709551616).toNat%8:=by
  rw [BitVec.toNat_and,BitVec.toNat_ofInt]
  have e:(BitVec.ofInt 64 7).toNat=2^3-1:=by decide
  rw [e,Nat.and_two_pow_sub_one_eq_mod]
  rfl
 show IntKind.wrap .i64 ((((BitVec.ofInt 64 y) &&& (BitVec.ofInt 64 7)).toNat:Nat):Int)=_
 rw [h,wrap64 (by omega)]
 omega
theorem law_SubPuts (x:Sub×(Int×Int)) (ht:x.1.2.2.2.2.2.2.1.length=3):F_l15_SubPuts x=some true:=by
 obtain ⟨s,n,a⟩:=x
 unfold F_l15_SubPuts
 simp only [known_true,Option.bind_some,Bool.not_true,cond_false,Small_eq]
 by_cases hs:s.2.2.2.2.2.1.length≤40∧s.2.2.2.2.2.2.2.1.length≤6∧s.2.2.2.2.2.2.2.2.1.length≤200∧s.2.2.2.2.2.2.2.2.2.2.1.length≤200∧s.2.2.2.2.2.2.2.2.2.1.2.1.length≤300
 rotate_left
 ·simp only [hs,decide_false,Bool.not_false,cond_true,Option.bind_some]
 have hS:SmallS s:=⟨hs.1,ht,hs.2.1,hs.2.2.1,hs.2.2.2.1,hs.2.2.2.2⟩
 obtain ⟨k,hk,hk7⟩:∃ k:Nat,bits .i64 .and a 7=(k:Int)∧k≤7:=⟨(a%8).toNat,by rw [and7];omega,by omega⟩
 have p1:=Put_eq (L:=[]) (v:=0) (n:=k) (by omega) (by simp)
 have p2:=ref_Put_eq (L:=[]) (v:=0) (n:=k) (by omega) (by simp)
 have hw:wL []=(([]:List Int),((0:Int),())):=rfl
 rw [hw] at p1
 have hl0:(putL 0 k []).length<1000:=by have:=(putL_length 0 k []).2;simp at this;omega
 obtain ⟨e,L',h1,h2,h3,h4⟩:=both_Put hS (n:=n) hl0
 obtain ⟨w1,w2⟩:=wL_facts L'
 have hlim:lim (wL L').1.length=true:=lim_of (by omega)
 have fin:((F_bits_Writer_Put ((([]:(List Int)),((0:Int),())),((0:Int),bits .i64 .and a (7:Int)))).bind fun y4=>
   (F_r2_Writer_Put ((([]:(List Int)),()),((0:Int),bits .i64 .and a (7:Int)))).bind fun y5=>
   (F_sub_Put (y4.2,(s,n))).bind fun y6=>
   (F_r19_SubPut (y5.2,(s,n))).bind fun y7=>
   bif y6.1==y7.1 then (
   (F_bits_Writer_Len y6.2).bind fun y8=>
   (F_r2_Writer_Len y7.2).bind fun y9=>
   bif y8.1==y9.1 then (
   (F_bits_Writer_Bytes y8.2).bind fun y10=>
   (F_r2_Writer_Bytes y9.2).bind fun y11=>
   (F_r2_Same (y10.1,y11.1)).bind fun y12=>
   some y12)
   else some false)
   else some false)=some true:=by
  rw [hk,p1,p2]
  simp only [Option.bind_some,h1,h2,beq_self_eq_true,cond_true,F_bits_Writer_Len,F_r2_Writer_Len,w1,F_bits_Writer_Bytes,hlim,ref_Bytes_eq (show L'.length<1000000 by omega),F_r2_Same]
 simp only [hs,and_self,decide_true,Bool.not_true,cond_false]
 by_cases hk0:(s.1==(0:Int))=true
 ·simp only [hk0,cond_true]
  cases hb:decide (n > 500) with
  |false=>simp only [cond_false,Option.bind_some];exact fin
  |true=>
   cases hc:decide (n≤4096) with
   |true=>simp only [cond_true,Option.bind_some]
   |false=>simp only [cond_true,cond_false,Option.bind_some];exact fin
 ·have hk0:(s.1==(0:Int))=false:=by simpa using hk0
  simp only [hk0,cond_false,Option.bind_some]
  exact fin
end Go.Ab
namespace Go.Proofs.YtoklkmdhpjocgaaGreatDoor
open Go.Ab Go.ChangeShapes Go.WideShapes Go.ChangeAt Go.RowKit
theorem collect_lits {α:Type} {f:Nat→Option (α×Owns×List Nat)}:∀ (L:List α) (i:Nat),(∀ (j:Nat) x,L[j]?=some x→f (i+j)=some (x,[],[]))→collect f L.length i=some (L,[],[])
 | [],_,_=>rfl
 |a::L,i,h=>by
  have h0:=h 0 a rfl
  have h1:=collect_lits L (i+1) (fun j x hx=>by have:=h (j+1) x (by simpa using hx);rw [←this];congr 1;omega)
  simp only [List.length_cons,collect]
  simp only [Nat.add_zero] at h0
  rw [h0,h1]
  rfl
section
variable {H:Type} {enc:TypeId×Value→H} {P:Program} {w:World} {base:Nat} {spare:Nat→Bool} {held:Bool}
theorem cells_of_lits {k:IntKind} {n:Nat} {t e:TypeId} {fuel:Nat} {cs:List Value} {L:List Int} {p:List MemPlace} (ht:P.underlying t=some (.array n e)) (he:P.underlying e=some (.int k)) (hc:P.cellsOf e=1)
  (h:DataW.trod enc P w base spare held fuel t cs=some (.agg (L.map fun i=>.lit (.int k i)),p)):L.length=n∧∀ (j:Nat) x,L[j]?=some x→cs[j]?=some (.int k x):=by
 obtain ⟨xs,m,rfl,hx,-,hn,hel⟩:=DataW.trod_array ht h
 simp only [Prod.mk.injEq,DataW.agg.injEq] at hx
 have hl:L.length=n:=by rw [←hn];simpa using congrArg List.length hx.1
 refine ⟨hl,fun j x hj=>?_⟩
 obtain ⟨hjl,-⟩:=List.getElem?_eq_some_iff.1 hj
 have h1:=hel j (by omega)
 rw [hc] at h1
 obtain ⟨y,hy⟩:∃ y,xs[j]?=some y:=⟨_,List.getElem?_eq_getElem (by omega)⟩
 rw [hy] at h1
 obtain ⟨i,e1,e2,-⟩:=DataW.trod_int he h1
 have h2:=congrArg (fun l=>l[j]?) hx.1
 simp only [List.getElem?_map,hj,hy,Option.map_some,e2] at h2
 simp only [sj,DataW.lit.injEq,Lit.int.injEq,true_and] at h2
 subst h2
 have h3:=congrArg (fun l=>l[0]?) e1
 simpa [List.getElem?_drop,List.getElem?_take] using h3
end
def tabName : String := (Rows.subTellsRow.laid.map Prod.fst).headD ""
theorem gTab:Tryz.prog.globalNamed tabName=some 0:=by kernel_rfl
def tTab:TypeId:=((Tryz.prog.globals[0]?).map (·.type)).getD 0
theorem tTab_eq:(Tryz.prog.globals[0]?).map (·.type)=some tTab:=by kernel_rfl
def eTab:TypeId:=match Tryz.prog.underlying tTab with
 |some (.array _ e)=>e
 |_=>0
theorem uTab:Tryz.prog.underlying tTab=some (.array 64 eTab):=by kernel_rfl
theorem uElem:Tryz.prog.underlying eTab=some (.int .u8):=by kernel_rfl
theorem cElem:Tryz.prog.cellsOf eTab=1:=by kernel_rfl
@[reducible] def laidTab:List (String×DataW Unit):=[(tabName,Rows.laid_math_bits_deBruijn64tab)]

theorem G0_one {g:Nat} {t:Ty} {x:t.den} (h:G0 g=some ⟨t,x⟩):g=0∧(⟨t,x⟩:(t:Ty)×t.den)=⟨.arr 64 (.int .u8),glob0⟩:=by
 unfold G0 find at h
 cases g with
 |zero=>exact ⟨rfl,(Option.some.inj h).symm⟩
 |succ n=>exact absurd h (by simp [find])
theorem glob_of_laid {W:World} (h:laidMetH Tryz.prog laidTab W):∀ g t x,G0 g=some ⟨t,x⟩→g<W.heap.size∧dec (memo W none) t ((Src.at g 0).rd (memo W none))=some (x,[],[]):=by
 rw [MakeChecks.laidMetH_plain _ _ _ (by kernel_rfl)] at h
 obtain ⟨ps,⟨g0,t0,cs0,f0,p0,q0,hg0,ht0,hv0,hd0,_⟩,_,_⟩:=h
 obtain rfl:=Option.some.inj (gTab.symm.trans hg0)
 obtain rfl:=Option.some.inj (tTab_eq.symm.trans ht0)
 have e0:(Rows.laid_math_bits_deBruijn64tab:DataW Unit)=.agg (glob0.map fun i=>.lit (.int .u8 i)):=rfl
 rw [e0] at hd0
 obtain ⟨hl,hc⟩:=cells_of_lits uTab uElem cElem hd0
 have hcell:∀ (j:Nat) x,glob0[j]?=some x→W.cell? ⟨0,j,none⟩=some (.int .u8 x):=fun j x hx=>by
  rw [World.var?_cell hg0 hv0 j]
  simpa using hc j x hx
 intro g t x hG
 obtain ⟨rfl,e⟩:=G0_one hG
 cases e
 refine ⟨cell_lt (hcell 0 0 rfl),?_⟩
 exact collect_lits (f:=fun i=>dec (memo W none) (.int .u8) fun j=>(Src.at 0 0).rd (memo W none) (i*1+j)) glob0 0 (fun j x hx=>by
  have:=hcell j x hx
  simp only [dec,Src.rd,memo,Nat.zero_add,Nat.mul_one,Nat.add_zero,this,if_true])
set_option maxRecDepth 100000 in
theorem door_met (os:Os) (args:Array Value):laidMetH Tryz.prog laidTab ((World.doorLaid Tryz.prog 400 os).forCall (fun _ _=>0) ⟨#[],args,[]⟩).memory:=
 laidMetH_of_parts3 (fuel:=8) (laidMet_of_run' 8 (by kernel_rfl) (by kernel_rfl)) (by kernel_rfl) (by kernel_rfl)
end Go.Proofs.YtoklkmdhpjocgaaGreatDoor
