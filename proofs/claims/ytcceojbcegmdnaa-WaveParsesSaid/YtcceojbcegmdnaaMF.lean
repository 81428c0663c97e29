import Derived.Test.YtcceojbcegmdnaaProg
import Derived.KernelRfl
import Derived.Test.YtcceojbcegmdnaaMA
/- What the functions compute. Conditions: none (printed by a program). -/
namespace Go.Ab
open Go.Proofs
set_option linter.unusedVariables false
def tyTab : List (Nat × Ty) := [(2, .int .i64), (3, .int .i64), (5, .int .u8), (9, .str), (23, .pair (.int .i64) (.pair (.int .i64) (.pair (.int .i64) .unit))), (24, .list false (.int .i64)), (26, .list false (.int .u8)), (27, .int .i64), (43, .int .u64), (61, .pair (.list false (.int .u8)) (.pair (.int .i64) (.pair (.int .i64) .unit))), (62, .int .u64), (68, .pair (.list false (.int .u8)) (.pair (.int .i64) (.pair (.int .i64) .unit)))]
def T0 : Nat → Option Ty := fun t => find tyTab t
def eqTab : List Nat := [23]
def eqT0 : Nat → Bool := fun t => eqTab.contains t
def ptrTab : List Nat := []
def ptrT : Nat → Bool := fun t => ptrTab.contains t

/- kinora/block.depth -/
noncomputable def F_block_depth (x : Int) : Option Bool :=
  bif decide ((4 : Int) ≤ x) then some (decide (x ≤ (24 : Int)))
  else some false

noncomputable def S_block_depth : FSem := ⟨[.v (.int .i64)], [.v .bool], F_block_depth⟩
def H52 : Hints := ⟨[], [], []⟩
noncomputable def cx52 : Cx := ⟨ptrT, eqT0, T0, fun f => find [] f, fun d => find ([] : List (Nat × Ty)) d, fun i => ([0, 2] : List Nat).contains i, fun i => ([] : List Nat).contains i⟩
set_option maxRecDepth 100000 in
theorem eq52 (x) : arun cx52 H52 Try.f52 S_block_depth.ps S_block_depth.rs x = S_block_depth.F x := by kernel_rfl

/- kinora/block.Right -/
noncomputable def F_block_Right (x : (Int × (Int × (Int × Unit)))) : Option Bool :=
  bif decide ((1 : Int) ≤ x.1) then (
  bif decide (x.1 ≤ (1048576 : Int)) then (
  bif decide ((1 : Int) ≤ x.2.1) then (
  bif decide (x.2.1 ≤ (8 : Int)) then (
  (F_block_depth x.2.2.1).bind fun y1 =>
  some y1)
  else some false)
  else some false)
  else some false)
  else some false

noncomputable def S_block_Right : FSem := ⟨[.v (.pair (.int .i64) (.pair (.int .i64) (.pair (.int .i64) .unit)))], [.v .bool], F_block_Right⟩
def H41 : Hints := ⟨[], [], []⟩
noncomputable def cx41 : Cx := ⟨ptrT, eqT0, T0, fun f => find [(52, S_block_depth)] f, fun d => find ([] : List (Nat × Ty)) d, fun i => ([0, 2] : List Nat).contains i, fun i => ([1] : List Nat).contains i⟩
set_option maxRecDepth 100000 in
theorem eq41 (x) : arun cx41 H41 Try.f41 S_block_Right.ps S_block_Right.rs x = S_block_Right.F x := by kernel_rfl

/- kinora/wave.possible -/
noncomputable def F_wave_possible (x : (Int × (Int × (Int × Unit)))) : Option Bool :=
  (F_block_Right x).bind fun y1 =>
  bif y1 then (
  bif x.2.2.1 == (8 : Int) then some true
  else (
  bif x.2.2.1 == (16 : Int) then some true
  else some (x.2.2.1 == (24 : Int))))
  else some false

noncomputable def S_wave_possible : FSem := ⟨[.v (.pair (.int .i64) (.pair (.int .i64) (.pair (.int .i64) .unit)))], [.v .bool], F_wave_possible⟩
def H20 : Hints := ⟨[], [], []⟩
noncomputable def cx20 : Cx := ⟨ptrT, eqT0, T0, fun f => find [(41, S_block_Right)] f, fun d => find ([] : List (Nat × Ty)) d, fun i => ([0, 2] : List Nat).contains i, fun i => ([1] : List Nat).contains i⟩
set_option maxRecDepth 100000 in
theorem eq20 (x) : arun cx20 H20 Try.f20 S_wave_possible.ps S_wave_possible.rs x = S_wave_possible.F x := by kernel_rfl

/- kinora/sample.Low -/
noncomputable def F_sample_Low (x : Int) : Option Int :=
  (show Option (Int × (Bool × Unit)) from
  bif decide (x < (1 : Int)) then some (x, (true, ()))
  else some (x, (decide (x > (31 : Int)), ()))).bind fun z1 =>
  bif z1.2.1 then some (0 : Int)
  else (
  bif decide ((IntKind.wrap .i64 (z1.1 - (1 : Int))) < 0) then none
  else some (gshl .i64 (-1 : Int) (IntKind.wrap .i64 (z1.1 - (1 : Int)))))

noncomputable def S_sample_Low : FSem := ⟨[.v (.int .i64)], [.v (.int .i64)], F_sample_Low⟩
def H42 : Hints := ⟨[], [(6, [(.normal, [.sv 0 (.int .i64), .sv 8 .bool])])], []⟩
noncomputable def cx42 : Cx := ⟨ptrT, eqT0, T0, fun f => find [] f, fun d => find ([] : List (Nat × Ty)) d, fun i => ([0, 2] : List Nat).contains i, fun i => ([] : List Nat).contains i⟩
set_option maxRecDepth 100000 in
theorem eq42 (x) : arun cx42 H42 Try.f42 S_sample_Low.ps S_sample_Low.rs x = S_sample_Low.F x := by kernel_rfl

/- kinora/sample.High -/
noncomputable def F_sample_High (x : Int) : Option Int :=
  (show Option (Int × (Bool × Unit)) from
  bif decide (x < (1 : Int)) then some (x, (true, ()))
  else some (x, (decide (x > (31 : Int)), ()))).bind fun z1 =>
  bif z1.2.1 then some (0 : Int)
  else (
  bif decide ((IntKind.wrap .i64 (z1.1 - (1 : Int))) < 0) then none
  else some (IntKind.wrap .i64 ((gshl .i64 (1 : Int) (IntKind.wrap .i64 (z1.1 - (1 : Int)))) - (1 : Int))))

noncomputable def S_sample_High : FSem := ⟨[.v (.int .i64)], [.v (.int .i64)], F_sample_High⟩
def H43 : Hints := ⟨[], [(6, [(.normal, [.sv 0 (.int .i64), .sv 8 .bool])])], []⟩
noncomputable def cx43 : Cx := ⟨ptrT, eqT0, T0, fun f => find [] f, fun d => find ([] : List (Nat × Ty)) d, fun i => ([0, 2] : List Nat).contains i, fun i => ([] : List Nat).contains i⟩
set_option maxRecDepth 100000 in
theorem eq43 (x) : arun cx43 H43 Try.f43 S_sample_High.ps S_sample_High.rs x = S_sample_High.F x := by kernel_rfl

/- kinora/sample.Fits -/
noncomputable def F_sample_Fits (x : (Int × Int)) : Option Bool :=
  bif decide (x.2 ≥ (1 : Int)) then (
  bif decide (x.2 ≤ (31 : Int)) then (
  (F_sample_Low x.2).bind fun y1 =>
  bif decide (y1 ≤ x.1) then (
  (F_sample_High x.2).bind fun y2 =>
  some (decide (x.1 ≤ y2)))
  else some false)
  else some false)
  else some false

noncomputable def S_sample_Fits : FSem := ⟨[.v (.int .i64), .v (.int .i64)], [.v .bool], F_sample_Fits⟩
def H21 : Hints := ⟨[], [], []⟩
noncomputable def cx21 : Cx := ⟨ptrT, eqT0, T0, fun f => find [(42, S_sample_Low), (43, S_sample_High)] f, fun d => find ([] : List (Nat × Ty)) d, fun i => ([0, 1, 4] : List Nat).contains i, fun i => ([] : List Nat).contains i⟩
set_option maxRecDepth 100000 in
theorem eq21 (x) : arun cx21 H21 Try.f21 S_sample_Fits.ps S_sample_Fits.rs x = S_sample_Fits.F x := by kernel_rfl

/- kinora/sample.Pack -/
noncomputable def F_sample_Pack_l0 (st : (Int × (Int × (Int × ((List Int) × (Int × (Int × (Int × (Int × ((List Int) × Unit)))))))))) : Option ((Int × (Int × (Int × ((List Int) × (Int × (Int × (Int × (Int × ((List Int) × Unit))))))))) ⊕ (Int × (Int × ((List Int) × (Int × (Int × ((List Int) × Unit))))))) :=
  bif decide (st.2.2.2.2.2.2.2.1 < st.2.2.2.2.2.2.1) then (
  bif decide ((IntKind.wrap .i64 ((8 : Int) * st.2.2.2.2.2.2.2.1)) < 0) then none
  else (
  bif lim ((List.length st.2.2.2.2.2.2.2.2.1) + 1) then some (.inl (st.1, (st.2.1, (st.2.2.1, (st.2.2.2.1, (st.2.2.2.2.1, (st.2.2.2.2.2.1, (st.2.2.2.2.2.2.1, (IntKind.wrap .i64 (st.2.2.2.2.2.2.2.1 + (1 : Int)), (List.append st.2.2.2.2.2.2.2.2.1 ([IntKind.wrap .u8 (bits .i64 .and (gshr .i64 st.2.2.1 (IntKind.wrap .i64 ((8 : Int) * st.2.2.2.2.2.2.2.1))) (255 : Int))] : List Int), ()))))))))))
  else none))
  else some (.inr (st.1, (st.2.1, (st.2.2.2.1, (st.2.2.2.2.1, (st.2.2.2.2.2.1, (st.2.2.2.2.2.2.2.2.1, ())))))))

noncomputable def F_sample_Pack_l1 (st : (Int × (Int × ((List Int) × (Int × (Int × ((List Int) × Unit))))))) : Option ((Int × (Int × ((List Int) × (Int × (Int × ((List Int) × Unit)))))) ⊕ (((List Int) × Unit) ⊕ (Int × ((List Int) × Unit)))) :=
  bif decide (st.2.2.2.2.1 < st.2.2.2.1) then (
  (gidx st.2.2.1 st.2.2.2.2.1).bind fun x2 =>
  (F_sample_Fits (x2, st.1)).bind fun y3 =>
  bif !y3 then some (.inr (Sum.inr (((6 : Int), (([] : (List Int)), ())))))
  else (
  (iter F_sample_Pack_l0 (st.1, (st.2.1, (x2, (st.2.2.1, (st.2.2.2.1, (st.2.2.2.2.1, (st.2.1, ((0 : Int), (st.2.2.2.2.2.1, ())))))))))).bind fun w4 =>
  some (.inl (w4.1, (w4.2.1, (w4.2.2.1, (w4.2.2.2.1, (IntKind.wrap .i64 (w4.2.2.2.2.1 + (1 : Int)), (w4.2.2.2.2.2.1, ())))))))))
  else some (.inr (Sum.inl (st.2.2.2.2.2.1, ())))

noncomputable def F_sample_Pack (x : ((List Int) × Int)) : Option ((List Int) × Int) :=
  (show Option ((List Int) × (Int × (Bool × Unit))) from
  bif decide (x.2 < (4 : Int)) then some (x.1, (x.2, (true, ())))
  else some (x.1, (x.2, (decide (x.2 > (24 : Int)), ())))).bind fun z1 =>
  bif z1.2.2.1 then some (([] : (List Int)), (1 : Int))
  else (
  (iter F_sample_Pack_l1 (z1.2.1, (IntKind.wrap .i64 (Int.tdiv (IntKind.wrap .i64 (z1.2.1 + (7 : Int))) (8 : Int)), (z1.1, (((List.length z1.1 : Nat) : Int), ((0 : Int), (([] : (List Int)), ()))))))).bind fun w5 =>
  match w5 with
  | .inl a6 => some (a6.1, (0 : Int))
  | .inr b7 => some (b7.2.1, b7.1))

noncomputable def S_sample_Pack : FSem := ⟨[.v (.list false (.int .i64)), .v (.int .i64)], [.o (.int .u8), .v (.int .i64)], F_sample_Pack⟩
def H44 : Hints := ⟨[(250, [.sv 1 (.int .i64), .sv 6 (.int .i64), .sv 20 (.list false (.int .i64)), .sv 21 (.int .i64), .sv 22 (.int .i64), .own 7 7 (.int .u8)], [(.exit 0, [.own 7 7 (.int .u8)]), (.ret, [.sv 5 (.int .i64), .own 4 4 (.int .u8)])]), (128206, [.sv 1 (.int .i64), .sv 6 (.int .i64), .sv 9 (.int .i64), .sv 20 (.list false (.int .i64)), .sv 21 (.int .i64), .sv 22 (.int .i64), .sv 30 (.int .i64), .sv 31 (.int .i64), .own 7 7 (.int .u8)], [(.exit 2, [.sv 1 (.int .i64), .sv 6 (.int .i64), .sv 20 (.list false (.int .i64)), .sv 21 (.int .i64), .sv 22 (.int .i64), .own 7 7 (.int .u8)])])], [(6, [(.normal, [.sv 0 (.list false (.int .i64)), .sv 1 (.int .i64), .sv 16 .bool])])], []⟩
noncomputable def cx44 : Cx := ⟨ptrT, eqT0, T0, fun f => find [(21, S_sample_Fits)] f, fun d => find ([] : List (Nat × Ty)) d, fun i => ([0, 1, 4, 5, 6, 7, 9, 10] : List Nat).contains i, fun i => ([] : List Nat).contains i⟩
set_option maxRecDepth 100000 in
theorem eq44 (x) : arun cx44 H44 Try.f44 S_sample_Pack.ps S_sample_Pack.rs x = S_sample_Pack.F x := by kernel_rfl

/- kinora/wave.printData -/
noncomputable def F_wave_printData_l0 (st : ((List Int) × (Int × (Int × ((List Int) × Unit))))) : Option (((List Int) × (Int × (Int × ((List Int) × Unit)))) ⊕ ((List Int) × Unit)) :=
  bif decide (st.2.2.1 < st.2.1) then (
  (gidx st.1 st.2.2.1).bind fun x2 =>
  bif lim ((List.length st.2.2.2.1) + 1) then some (.inl (st.1, (st.2.1, (IntKind.wrap .i64 (st.2.2.1 + (1 : Int)), (List.append st.2.2.2.1 ([IntKind.wrap .u8 (IntKind.wrap .i64 (x2 + (128 : Int)))] : List Int), ())))))
  else none)
  else some (.inr (st.2.2.2.1, ()))

noncomputable def F_wave_printData (x : ((List Int) × Int)) : Option ((List Int) × Int) :=
  bif x.2 != (8 : Int) then (
  (F_sample_Pack (x.1, x.2)).bind fun y1 =>
  some (y1.1, y1.2))
  else (
  bif (decide ((0 : Int) ≤ ((List.length x.1 : Nat) : Int))) && (lim (Int.toNat ((List.length x.1 : Nat) : Int))) then (
  (iter F_wave_printData_l0 (x.1, (((List.length x.1 : Nat) : Int), ((0 : Int), (([] : (List Int)), ()))))).bind fun w3 =>
  some (w3.1, (0 : Int)))
  else none)

noncomputable def S_wave_printData : FSem := ⟨[.v (.list false (.int .i64)), .v (.int .i64)], [.o (.int .u8), .v (.int .i64)], F_wave_printData⟩
def H22 : Hints := ⟨[(122, [.sv 19 (.list false (.int .i64)), .sv 20 (.int .i64), .sv 21 (.int .i64), .own 6 6 (.int .u8)], [(.exit 0, [.own 6 6 (.int .u8)])])], [], []⟩
noncomputable def cx22 : Cx := ⟨ptrT, eqT0, T0, fun f => find [(44, S_sample_Pack)] f, fun d => find ([] : List (Nat × Ty)) d, fun i => ([0, 1, 4, 5, 6, 8] : List Nat).contains i, fun i => ([] : List Nat).contains i⟩
set_option maxRecDepth 100000 in
theorem eq22 (x) : arun cx22 H22 Try.f22 S_wave_printData.ps S_wave_printData.rs x = S_wave_printData.F x := by kernel_rfl

/- kinora/octet.clamp -/
noncomputable def F_octet_clamp (x : Int) : Option Int :=
  some (imin (imax x (0 : Int)) (8 : Int))

noncomputable def S_octet_clamp : FSem := ⟨[.v (.int .i64)], [.v (.int .i64)], F_octet_clamp⟩
def H45 : Hints := ⟨[], [], []⟩
noncomputable def cx45 : Cx := ⟨ptrT, eqT0, T0, fun f => find [] f, fun d => find ([] : List (Nat × Ty)) d, fun i => ([0, 2] : List Nat).contains i, fun i => ([] : List Nat).contains i⟩
set_option maxRecDepth 100000 in
theorem eq45 (x) : arun cx45 H45 Try.f45 S_octet_clamp.ps S_octet_clamp.rs x = S_octet_clamp.F x := by kernel_rfl

/- kinora/octet.Small -/
noncomputable def F_octet_Small_l0 (st : (Int × (Int × (Int × ((List Int) × Unit))))) : Option ((Int × (Int × (Int × ((List Int) × Unit)))) ⊕ ((List Int) × Unit)) :=
  bif decide (st.2.2.1 < st.2.1) then (
  bif lim ((List.length st.2.2.2.1) + 1) then some (.inl (IntKind.wrap .u64 (Int.tdiv st.1 (256 : Int)), (st.2.1, (IntKind.wrap .i64 (st.2.2.1 + (1 : Int)), (List.append st.2.2.2.1 ([IntKind.wrap .u8 (Int.tmod st.1 (256 : Int))] : List Int), ())))))
  else none)
  else some (.inr (st.2.2.2.1, ()))

noncomputable def F_octet_Small (x : (Int × Int)) : Option (List Int) :=
  (F_octet_clamp x.2).bind fun y1 =>
  (iter F_octet_Small_l0 (x.1, (y1, ((0 : Int), (([] : (List Int)), ()))))).bind fun w2 =>
  some w2.1

noncomputable def S_octet_Small : FSem := ⟨[.v (.int .u64), .v (.int .i64)], [.o (.int .u8)], F_octet_Small⟩
def H25 : Hints := ⟨[(58, [.sv 0 (.int .u64), .sv 7 (.int .i64), .sv 8 (.int .i64), .own 5 5 (.int .u8)], [(.exit 0, [.own 5 5 (.int .u8)])])], [], []⟩
noncomputable def cx25 : Cx := ⟨ptrT, eqT0, T0, fun f => find [(45, S_octet_clamp)] f, fun d => find ([] : List (Nat × Ty)) d, fun i => ([0, 1, 4, 5] : List Nat).contains i, fun i => ([] : List Nat).contains i⟩
set_option maxRecDepth 100000 in
theorem eq25 (x) : arun cx25 H25 Try.f25 S_octet_Small.ps S_octet_Small.rs x = S_octet_Small.F x := by kernel_rfl

/- kinora/wave.chunk -/
noncomputable def F_wave_chunk (x : ((List Int) × (List Int))) : Option (List Int) :=
  bif lim (List.length x.1) then (
  (F_octet_Small (IntKind.wrap .u64 ((List.length x.2 : Nat) : Int), (4 : Int))).bind fun y1 =>
  bif lim ((List.length x.1) + (List.length y1)) then (
  bif lim ((List.length (List.append x.1 y1)) + (List.length x.2)) then (
  (show Option ((List Int) × Unit) from
  bif (Int.tmod ((List.length x.2 : Nat) : Int) (2 : Int)) != (0 : Int) then (
  bif lim ((List.length (List.append (List.append x.1 y1) x.2)) + 1) then some (List.append (List.append (List.append x.1 y1) x.2) ([(0 : Int)] : List Int), ())
  else none)
  else some (List.append (List.append x.1 y1) x.2, ())).bind fun z2 =>
  some z2.1)
  else none)
  else none)
  else none

noncomputable def S_wave_chunk : FSem := ⟨[.v .str, .v (.list false (.int .u8))], [.o (.int .u8)], F_wave_chunk⟩
def H23 : Hints := ⟨[], [(15, [(.normal, [.own 5 5 (.int .u8)])])], []⟩
noncomputable def cx23 : Cx := ⟨ptrT, eqT0, T0, fun f => find [(25, S_octet_Small)] f, fun d => find ([] : List (Nat × Ty)) d, fun i => ([0, 1, 4, 5] : List Nat).contains i, fun i => ([] : List Nat).contains i⟩
set_option maxRecDepth 100000 in
theorem eq23 (x) : arun cx23 H23 Try.f23 S_wave_chunk.ps S_wave_chunk.rs x = S_wave_chunk.F x := by kernel_rfl

/- kinora/wave.printFormat -/
noncomputable def F_wave_printFormat (x : (Int × (Int × (Int × Unit)))) : Option (List Int) :=
  (F_octet_Small ((1 : Int), (2 : Int))).bind fun y1 =>
  bif lim (List.length y1) then (
  (F_octet_Small (IntKind.wrap .u64 x.2.1, (2 : Int))).bind fun y2 =>
  bif lim ((List.length y1) + (List.length y2)) then (
  (F_octet_Small (IntKind.wrap .u64 x.1, (4 : Int))).bind fun y3 =>
  bif lim ((List.length (List.append y1 y2)) + (List.length y3)) then (
  (F_octet_Small (IntKind.wrap .u64 (IntKind.wrap .i64 (x.1 * (IntKind.wrap .i64 (Int.tdiv (IntKind.wrap .i64 (x.2.1 * x.2.2.1)) (8 : Int))))), (4 : Int))).bind fun y4 =>
  bif lim ((List.length (List.append (List.append y1 y2) y3)) + (List.length y4)) then (
  (F_octet_Small (IntKind.wrap .u64 (IntKind.wrap .i64 (Int.tdiv (IntKind.wrap .i64 (x.2.1 * x.2.2.1)) (8 : Int))), (2 : Int))).bind fun y5 =>
  bif lim ((List.length (List.append (List.append (List.append y1 y2) y3) y4)) + (List.length y5)) then (
  (F_octet_Small (IntKind.wrap .u64 x.2.2.1, (2 : Int))).bind fun y6 =>
  bif lim ((List.length (List.append (List.append (List.append (List.append y1 y2) y3) y4) y5)) + (List.length y6)) then some (List.append (List.append (List.append (List.append (List.append y1 y2) y3) y4) y5) y6)
  else none)
  else none)
  else none)
  else none)
  else none)
  else none

noncomputable def S_wave_printFormat : FSem := ⟨[.v (.pair (.int .i64) (.pair (.int .i64) (.pair (.int .i64) .unit)))], [.o (.int .u8)], F_wave_printFormat⟩
def H24 : Hints := ⟨[], [], []⟩
noncomputable def cx24 : Cx := ⟨ptrT, eqT0, T0, fun f => find [(25, S_octet_Small)] f, fun d => find ([] : List (Nat × Ty)) d, fun i => ([0, 2, 3, 4] : List Nat).contains i, fun i => ([1] : List Nat).contains i⟩
set_option maxRecDepth 100000 in
theorem eq24 (x) : arun cx24 H24 Try.f24 S_wave_printFormat.ps S_wave_printFormat.rs x = S_wave_printFormat.F x := by kernel_rfl

/- kinora/wave.Print -/
noncomputable def F_wave_Print_l0 (st : ((List Int) × ((List Int) × (Int × (Int × ((Int × (Int × (Int × Unit))) × Unit)))))) : Option (((List Int) × ((List Int) × (Int × (Int × ((Int × (Int × (Int × Unit))) × Unit))))) ⊕ (((List Int) × ((Int × (Int × (Int × Unit))) × Unit)) ⊕ (Int × ((List Int) × Unit)))) :=
  bif decide (st.2.2.2.1 < st.2.2.1) then (
  (gidx st.2.1 st.2.2.2.1).bind fun x2 =>
  (F_sample_Fits (x2, st.2.2.2.2.1.2.2.1)).bind fun y3 =>
  bif !y3 then some (.inr (Sum.inr (((6 : Int), (([] : (List Int)), ())))))
  else some (.inl (st.1, (st.2.1, (st.2.2.1, (IntKind.wrap .i64 (st.2.2.2.1 + (1 : Int)), (st.2.2.2.2.1, ())))))))
  else some (.inr (Sum.inl (st.1, (st.2.2.2.2.1, ()))))

noncomputable def F_wave_Print (x : ((Int × (Int × (Int × Unit))) × (List Int))) : Option ((List Int) × Int) :=
  (F_wave_possible x.1).bind fun y1 =>
  bif !y1 then some (([] : (List Int)), (1 : Int))
  else (
  bif x.1.2.1 == 0 then none
  else (
  bif (Int.tmod ((List.length x.2 : Nat) : Int) x.1.2.1) != (0 : Int) then some (([] : (List Int)), (3 : Int))
  else (
  bif x.1.2.1 == 0 then none
  else (
  bif decide ((IntKind.wrap .i64 (Int.tdiv ((List.length x.2 : Nat) : Int) x.1.2.1)) > (4194304 : Int)) then some (([] : (List Int)), (4 : Int))
  else (
  (iter F_wave_Print_l0 (x.2, (x.2, (((List.length x.2 : Nat) : Int), ((0 : Int), (x.1, ())))))).bind fun w4 =>
  match w4 with
  | .inl a5 => (
  (F_wave_printData (a5.1, a5.2.1.2.2.1)).bind fun y7 =>
  bif y7.2 != (0 : Int) then some (([] : (List Int)), y7.2)
  else (
  (F_wave_printFormat a5.2.1).bind fun y8 =>
  (F_wave_chunk (([102, 109, 116, 32] : List Int), y8)).bind fun y9 =>
  bif lim (4 + (List.length y9)) then (
  (F_wave_chunk (([100, 97, 116, 97] : List Int), y7.1)).bind fun y10 =>
  bif lim ((List.length (List.append ([(87 : Int), (65 : Int), (86 : Int), (69 : Int)] : List Int) y9)) + (List.length y10)) then (
  (F_octet_Small (IntKind.wrap .u64 ((List.length (List.append (List.append ([(87 : Int), (65 : Int), (86 : Int), (69 : Int)] : List Int) y9) y10) : Nat) : Int), (4 : Int))).bind fun y11 =>
  bif lim (4 + (List.length y11)) then (
  bif lim ((List.length (List.append ([(82 : Int), (73 : Int), (70 : Int), (70 : Int)] : List Int) y11)) + (List.length (List.append (List.append ([(87 : Int), (65 : Int), (86 : Int), (69 : Int)] : List Int) y9) y10))) then some (List.append (List.append ([(82 : Int), (73 : Int), (70 : Int), (70 : Int)] : List Int) y11) (List.append (List.append ([(87 : Int), (65 : Int), (86 : Int), (69 : Int)] : List Int) y9) y10), (0 : Int))
  else none)
  else none)
  else none)
  else none))
  | .inr b6 => some (b6.2.1, b6.1))))))

noncomputable def S_wave_Print : FSem := ⟨[.v (.pair (.int .i64) (.pair (.int .i64) (.pair (.int .i64) .unit))), .v (.list false (.int .i64))], [.o (.int .u8), .v (.int .i64)], F_wave_Print⟩
def H10 : Hints := ⟨[(250, [.sv 1 (.list false (.int .i64)), .sv 27 (.list false (.int .i64)), .sv 28 (.int .i64), .sv 29 (.int .i64), .vp 2 (.pair (.int .i64) (.pair (.int .i64) (.pair (.int .i64) .unit)))], [(.exit 0, [.sv 1 (.list false (.int .i64)), .vp 2 (.pair (.int .i64) (.pair (.int .i64) (.pair (.int .i64) .unit)))]), (.ret, [.sv 5 (.int .i64), .own 4 4 (.int .u8)])])], [], []⟩
noncomputable def cx10 : Cx := ⟨ptrT, eqT0, T0, fun f => find [(20, S_wave_possible), (21, S_sample_Fits), (22, S_wave_printData), (23, S_wave_chunk), (24, S_wave_printFormat), (25, S_octet_Small)] f, fun d => find ([] : List (Nat × Ty)) d, fun i => ([0, 1, 4, 5, 7, 8, 9, 10, 11] : List Nat).contains i, fun i => ([2] : List Nat).contains i⟩
set_option maxRecDepth 100000 in
theorem eq10 (x) : arun cx10 H10 Try.f10 S_wave_Print.ps S_wave_Print.rs x = S_wave_Print.F x := by kernel_rfl

/- kinora/octet.New -/
noncomputable def F_octet_New (x : (List Int)) : Option ((List Int) × (Int × (Int × Unit))) :=
  bif lim (List.length x) then some (x, ((0 : Int), ((0 : Int), ())))
  else none

noncomputable def S_octet_New : FSem := ⟨[.v (.list false (.int .u8))], [.b (.pair (.list false (.int .u8)) (.pair (.int .i64) (.pair (.int .i64) .unit)))], F_octet_New⟩
def H48 : Hints := ⟨[], [], []⟩
noncomputable def cx48 : Cx := ⟨ptrT, eqT0, T0, fun f => find [] f, fun d => find ([] : List (Nat × Ty)) d, fun i => ([0, 2] : List Nat).contains i, fun i => ([] : List Nat).contains i⟩
set_option maxRecDepth 100000 in
theorem eq48 (x) : arun cx48 H48 Try.f48 S_octet_New.ps S_octet_New.rs x = S_octet_New.F x := by kernel_rfl

/- (*kinora/octet.Reader).Left -/
noncomputable def F_octet_Reader_Left (x : ((List Int) × (Int × (Int × Unit)))) : Option (Int × ((List Int) × (Int × (Int × Unit)))) :=
  some (IntKind.wrap .i64 (((List.length x.1 : Nat) : Int) - x.2.1), x)

noncomputable def S_octet_Reader_Left : FSem := ⟨[.r (.pair (.list false (.int .u8)) (.pair (.int .i64) (.pair (.int .i64) .unit)))], [.v (.int .i64)], F_octet_Reader_Left⟩
def H56 : Hints := ⟨[], [], [(1, [.q, .q, .q, .q, .v, .q, .q, .q, .q, .x, .x])]⟩
noncomputable def cx56 : Cx := ⟨ptrT, eqT0, T0, fun f => find [] f, fun d => find ([] : List (Nat × Ty)) d, fun i => ([0, 2] : List Nat).contains i, fun i => ([] : List Nat).contains i⟩
set_option maxRecDepth 100000 in
theorem eq56 (x) : arun cx56 H56 Try.f56 S_octet_Reader_Left.ps S_octet_Reader_Left.rs x = S_octet_Reader_Left.F x := by kernel_rfl

/- (*kinora/octet.Reader).Take -/
noncomputable def F_octet_Reader_Take (x : (((List Int) × (Int × (Int × Unit))) × Int)) : Option ((List Int) × ((List Int) × (Int × (Int × Unit)))) :=
  bif x.1.2.2.1 != (0 : Int) then some (([] : (List Int)), x.1)
  else (
  (F_octet_Reader_Left x.1).bind fun y1 =>
  bif decide ((imax x.2 (0 : Int)) > y1.1) then some (([] : (List Int)), (y1.2.1, (y1.2.2.1, ((3 : Int), y1.2.2.2.2))))
  else (
  bif (decide ((0 : Int) ≤ (IntKind.wrap .i64 (y1.2.2.1 + (imax x.2 (0 : Int)))))) && (decide ((IntKind.wrap .i64 (y1.2.2.1 + (imax x.2 (0 : Int)))) ≤ ((List.length y1.2.1 : Nat) : Int))) then (
  bif (decide ((0 : Int) ≤ y1.2.2.1)) && (decide (y1.2.2.1 ≤ ((Int.toNat (IntKind.wrap .i64 (y1.2.2.1 + (imax x.2 (0 : Int)))) : Nat) : Int))) then (
  bif lim (List.length (List.drop (Int.toNat y1.2.2.1) (List.take (Int.toNat (IntKind.wrap .i64 (y1.2.2.1 + (imax x.2 (0 : Int))))) y1.2.1))) then some (List.drop (Int.toNat y1.2.2.1) (List.take (Int.toNat (IntKind.wrap .i64 (y1.2.2.1 + (imax x.2 (0 : Int))))) y1.2.1), (y1.2.1, (IntKind.wrap .i64 (y1.2.2.1 + (imax x.2 (0 : Int))), y1.2.2.2)))
  else none)
  else none)
  else none))

noncomputable def S_octet_Reader_Take : FSem := ⟨[.r (.pair (.list false (.int .u8)) (.pair (.int .i64) (.pair (.int .i64) .unit))), .v (.int .i64)], [.o (.int .u8)], F_octet_Reader_Take⟩
def H55 : Hints := ⟨[], [], [(7, [.q, .q, .q, .q, .q, .q, .q, .q, .q, .q, .q, .q, .v, .v, .x, .x, .x])]⟩
noncomputable def cx55 : Cx := ⟨ptrT, eqT0, T0, fun f => find [(56, S_octet_Reader_Left)] f, fun d => find ([] : List (Nat × Ty)) d, fun i => ([0, 1, 4, 5] : List Nat).contains i, fun i => ([] : List Nat).contains i⟩
set_option maxRecDepth 100000 in
theorem eq55 (x) : arun cx55 H55 Try.f55 S_octet_Reader_Take.ps S_octet_Reader_Take.rs x = S_octet_Reader_Take.F x := by kernel_rfl

/- (*kinora/octet.Reader).Small -/
noncomputable def F_octet_Reader_Small_l0 (st : (Int × (Int × (Int × ((List Int) × (((List Int) × (Int × (Int × Unit))) × Unit)))))) : Option ((Int × (Int × (Int × ((List Int) × (((List Int) × (Int × (Int × Unit))) × Unit))))) ⊕ (Int × (((List Int) × (Int × (Int × Unit))) × Unit))) :=
  bif decide (st.2.2.1 < st.2.1) then (
  bif (decide ((0 : Int) ≤ st.2.2.1)) && (decide (st.2.2.1 < ((List.length st.2.2.2.1 : Nat) : Int))) then (
  bif decide ((IntKind.wrap .i64 ((8 : Int) * st.2.2.1)) < 0) then none
  else some (.inl (bits .u64 .or st.1 (gshl .u64 (IntKind.wrap .u64 (List.getD st.2.2.2.1 (Int.toNat st.2.2.1) (0 : Int))) (IntKind.wrap .i64 ((8 : Int) * st.2.2.1))), (st.2.1, (IntKind.wrap .i64 (st.2.2.1 + (1 : Int)), (st.2.2.2.1, (st.2.2.2.2.1, ())))))))
  else none)
  else some (.inr (st.1, (st.2.2.2.2.1, ())))

noncomputable def F_octet_Reader_Small (x : (((List Int) × (Int × (Int × Unit))) × Int)) : Option (Int × ((List Int) × (Int × (Int × Unit)))) :=
  (F_octet_clamp x.2).bind fun y1 =>
  (F_octet_Reader_Take (x.1, y1)).bind fun y2 =>
  (iter F_octet_Reader_Small_l0 ((0 : Int), (((List.length y2.1 : Nat) : Int), ((0 : Int), (y2.1, (y2.2, ())))))).bind fun w3 =>
  some (w3.1, w3.2.1)

noncomputable def S_octet_Reader_Small : FSem := ⟨[.r (.pair (.list false (.int .u8)) (.pair (.int .i64) (.pair (.int .i64) .unit))), .v (.int .i64)], [.v (.int .u64)], F_octet_Reader_Small⟩
def H49 : Hints := ⟨[(58, [.sv 5 (.int .u64), .sv 12 (.int .i64), .sv 13 (.int .i64), .own 11 1011 (.int .u8), .box 1000000 (.pair (.list false (.int .u8)) (.pair (.int .i64) (.pair (.int .i64) .unit)))], [(.exit 0, [.sv 5 (.int .u64), .box 1000000 (.pair (.list false (.int .u8)) (.pair (.int .i64) (.pair (.int .i64) .unit)))])])], [], []⟩
noncomputable def cx49 : Cx := ⟨ptrT, eqT0, T0, fun f => find [(45, S_octet_clamp), (55, S_octet_Reader_Take)] f, fun d => find ([] : List (Nat × Ty)) d, fun i => ([0, 1, 4, 5, 6, 7] : List Nat).contains i, fun i => ([] : List Nat).contains i⟩
set_option maxRecDepth 100000 in
theorem eq49 (x) : arun cx49 H49 Try.f49 S_octet_Reader_Small.ps S_octet_Reader_Small.rs x = S_octet_Reader_Small.F x := by kernel_rfl

/- kinora/wave.number -/
noncomputable def F_wave_number (x : (List Int)) : Option Int :=
  (F_octet_New x).bind fun y1 =>
  (F_octet_Reader_Small (y1, ((List.length x : Nat) : Int))).bind fun y2 =>
  some (IntKind.wrap .i64 y2.1)

noncomputable def S_wave_number : FSem := ⟨[.v (.list false (.int .u8))], [.v (.int .i64)], F_wave_number⟩
def H31 : Hints := ⟨[], [], []⟩
noncomputable def cx31 : Cx := ⟨ptrT, eqT0, T0, fun f => find [(48, S_octet_New), (49, S_octet_Reader_Small)] f, fun d => find ([] : List (Nat × Ty)) d, fun i => ([0, 2] : List Nat).contains i, fun i => ([] : List Nat).contains i⟩
set_option maxRecDepth 100000 in
theorem eq31 (x) : arun cx31 H31 Try.f31 S_wave_number.ps S_wave_number.rs x = S_wave_number.F x := by kernel_rfl

/- kinora/wave.parseFormat -/
noncomputable def F_wave_parseFormat (x : (List Int)) : Option ((Int × (Int × (Int × Unit))) × Bool) :=
  (show Option ((List Int) × (Bool × ((Int × (Int × (Int × Unit))) × Unit))) from
  bif decide (((List.length x : Nat) : Int) < (16 : Int)) then some (x, (true, (((0 : Int), ((0 : Int), ((0 : Int), ()))), ())))
  else (
  bif decide ((2 : Int) ≤ ((List.length x : Nat) : Int)) then (
  (F_wave_number (List.take 2 x)).bind fun y1 =>
  some (x, (y1 != (1 : Int), (((0 : Int), ((0 : Int), ((0 : Int), ()))), ()))))
  else none)).bind fun z2 =>
  bif z2.2.1 then some (((0 : Int), ((0 : Int), ((0 : Int), ()))), false)
  else (
  bif decide ((8 : Int) ≤ ((List.length z2.1 : Nat) : Int)) then (
  (F_wave_number (List.drop 4 (List.take 8 z2.1))).bind fun y3 =>
  bif decide ((4 : Int) ≤ ((List.length z2.1 : Nat) : Int)) then (
  (F_wave_number (List.drop 2 (List.take 4 z2.1))).bind fun y4 =>
  bif decide ((16 : Int) ≤ ((List.length z2.1 : Nat) : Int)) then (
  (F_wave_number (List.drop 14 (List.take 16 z2.1))).bind fun y5 =>
  (F_wave_possible (y3, (y4, (y5, ())))).bind fun y6 =>
  bif !y6 then some (((0 : Int), ((0 : Int), ((0 : Int), ()))), false)
  else (
  (show Option (Bool × ((Int × (Int × (Int × Unit))) × ((Int × (Int × (Int × Unit))) × Unit))) from
  bif decide ((12 : Int) ≤ ((List.length z2.1 : Nat) : Int)) then (
  (F_wave_number (List.drop 8 (List.take 12 z2.1))).bind fun y7 =>
  bif y7 != (IntKind.wrap .i64 (y3 * (IntKind.wrap .i64 (Int.tdiv (IntKind.wrap .i64 (y4 * y5)) (8 : Int))))) then some (true, (z2.2.2.1, ((y3, (y4, (y5, ()))), ())))
  else (
  bif decide ((14 : Int) ≤ ((List.length z2.1 : Nat) : Int)) then (
  (F_wave_number (List.drop 12 (List.take 14 z2.1))).bind fun y8 =>
  some (y8 != (IntKind.wrap .i64 (Int.tdiv (IntKind.wrap .i64 (y4 * y5)) (8 : Int))), (z2.2.2.1, ((y3, (y4, (y5, ()))), ()))))
  else none))
  else none).bind fun z9 =>
  bif z9.1 then some (((0 : Int), ((0 : Int), ((0 : Int), ()))), false)
  else some (z9.2.2.1, true)))
  else none)
  else none)
  else none)

noncomputable def S_wave_parseFormat : FSem := ⟨[.v (.list false (.int .u8))], [.v (.pair (.int .i64) (.pair (.int .i64) (.pair (.int .i64) .unit))), .v .bool], F_wave_parseFormat⟩
def H32 : Hints := ⟨[], [(6, [(.normal, [.sv 0 (.list false (.int .u8)), .sv 14 .bool, .box 2 (.pair (.int .i64) (.pair (.int .i64) (.pair (.int .i64) .unit))), .ptr 2 2 []])]), (126, [(.normal, [.sv 50 .bool, .box 2 (.pair (.int .i64) (.pair (.int .i64) (.pair (.int .i64) .unit))), .box 4 (.pair (.int .i64) (.pair (.int .i64) (.pair (.int .i64) .unit))), .ptr 2 2 [], .ptr 4 4 []])])], [(3, [.v, .v, .v, .v, .v, .v, .v, .v, .v, .v, .q, .x]), (7, [.v, .v, .v, .q, .q, .v, .v, .x, .x, .v, .v, .v, .v, .x, .x])]⟩
noncomputable def cx32 : Cx := ⟨ptrT, eqT0, T0, fun f => find [(20, S_wave_possible), (31, S_wave_number)] f, fun d => find ([] : List (Nat × Ty)) d, fun i => ([0, 3, 5] : List Nat).contains i, fun i => ([] : List Nat).contains i⟩
set_option maxRecDepth 100000 in
theorem eq32 (x) : arun cx32 H32 Try.f32 S_wave_parseFormat.ps S_wave_parseFormat.rs x = S_wave_parseFormat.F x := by kernel_rfl

/- kinora/sample.Unpack -/
noncomputable def F_sample_Unpack_l0 (st : ((List Int) × (Int × (Int × (Int × (Int × (Int × (Int × ((List Int) × Unit))))))))) : Option (((List Int) × (Int × (Int × (Int × (Int × (Int × (Int × ((List Int) × Unit)))))))) ⊕ ((List Int) × (Int × (Int × (Int × (Int × ((List Int) × Unit))))))) :=
  bif decide (st.2.2.2.2.2.2.1 < st.2.2.2.2.2.1) then (
  (gidx st.1 (IntKind.wrap .i64 (st.2.2.2.1 + st.2.2.2.2.2.2.1))).bind fun x2 =>
  bif decide ((IntKind.wrap .i64 ((8 : Int) * st.2.2.2.2.2.2.1)) < 0) then none
  else some (.inl (st.1, (st.2.1, (st.2.2.1, (st.2.2.2.1, (bits .i64 .or st.2.2.2.2.1 (gshl .i64 (IntKind.wrap .i64 x2) (IntKind.wrap .i64 ((8 : Int) * st.2.2.2.2.2.2.1))), (st.2.2.2.2.2.1, (IntKind.wrap .i64 (st.2.2.2.2.2.2.1 + (1 : Int)), (st.2.2.2.2.2.2.2.1, ()))))))))))
  else some (.inr (st.1, (st.2.1, (st.2.2.1, (st.2.2.2.1, (st.2.2.2.2.1, (st.2.2.2.2.2.2.2.1, ())))))))

noncomputable def F_sample_Unpack_l1 (st : ((List Int) × (Int × (Int × (Int × ((List Int) × Unit)))))) : Option (((List Int) × (Int × (Int × (Int × ((List Int) × Unit))))) ⊕ (((List Int) × Unit) ⊕ (Int × ((List Int) × Unit)))) :=
  bif decide (st.2.2.2.1 < ((List.length st.1 : Nat) : Int)) then (
  (iter F_sample_Unpack_l0 (st.1, (st.2.1, (st.2.2.1, (st.2.2.2.1, ((0 : Int), (st.2.2.1, ((0 : Int), (st.2.2.2.2.1, ()))))))))).bind fun w3 =>
  (show Option ((List Int) × (Int × (Int × (Int × (Int × ((List Int) × Unit)))))) from
  (F_sample_High (IntKind.wrap .i64 ((8 : Int) * w3.2.2.1))).bind fun y4 =>
  bif decide (w3.2.2.2.2.1 > y4) then (
  bif decide ((IntKind.wrap .i64 ((8 : Int) * w3.2.2.1)) < 0) then none
  else some (w3.1, (w3.2.1, (w3.2.2.1, (w3.2.2.2.1, (IntKind.wrap .i64 (w3.2.2.2.2.1 - (gshl .i64 (1 : Int) (IntKind.wrap .i64 ((8 : Int) * w3.2.2.1)))), (w3.2.2.2.2.2.1, ())))))))
  else some (w3.1, (w3.2.1, (w3.2.2.1, (w3.2.2.2.1, (w3.2.2.2.2.1, (w3.2.2.2.2.2.1, ()))))))).bind fun z5 =>
  (F_sample_Fits (z5.2.2.2.2.1, z5.2.1)).bind fun y6 =>
  bif !y6 then some (.inr (Sum.inr (((6 : Int), (([] : (List Int)), ())))))
  else (
  bif lim ((List.length z5.2.2.2.2.2.1) + 1) then some (.inl (z5.1, (z5.2.1, (z5.2.2.1, (IntKind.wrap .i64 (z5.2.2.2.1 + z5.2.2.1), (List.append z5.2.2.2.2.2.1 ([z5.2.2.2.2.1] : List Int), ()))))))
  else none))
  else some (.inr (Sum.inl (st.2.2.2.2.1, ())))

noncomputable def F_sample_Unpack (x : ((List Int) × Int)) : Option ((List Int) × Int) :=
  (show Option ((List Int) × (Int × (Bool × Unit))) from
  bif decide (x.2 < (4 : Int)) then some (x.1, (x.2, (true, ())))
  else some (x.1, (x.2, (decide (x.2 > (24 : Int)), ())))).bind fun z1 =>
  bif z1.2.2.1 then some (([] : (List Int)), (1 : Int))
  else (
  bif (IntKind.wrap .i64 (Int.tdiv (IntKind.wrap .i64 (z1.2.1 + (7 : Int))) (8 : Int))) == 0 then none
  else (
  bif (Int.tmod ((List.length z1.1 : Nat) : Int) (IntKind.wrap .i64 (Int.tdiv (IntKind.wrap .i64 (z1.2.1 + (7 : Int))) (8 : Int)))) != (0 : Int) then some (([] : (List Int)), (3 : Int))
  else (
  (iter F_sample_Unpack_l1 (z1.1, (z1.2.1, (IntKind.wrap .i64 (Int.tdiv (IntKind.wrap .i64 (z1.2.1 + (7 : Int))) (8 : Int)), ((0 : Int), (([] : (List Int)), ())))))).bind fun w7 =>
  match w7 with
  | .inl a8 => some (a8.1, (0 : Int))
  | .inr b9 => some (b9.2.1, b9.1))))

noncomputable def S_sample_Unpack : FSem := ⟨[.v (.list false (.int .u8)), .v (.int .i64)], [.o (.int .i64), .v (.int .i64)], F_sample_Unpack⟩
def H50 : Hints := ⟨[(506, [.sv 0 (.list false (.int .u8)), .sv 1 (.int .i64), .sv 6 (.int .i64), .sv 8 (.int .i64), .own 7 7 (.int .i64)], [(.exit 0, [.own 7 7 (.int .i64)]), (.ret, [.sv 5 (.int .i64), .own 4 4 (.int .i64)])]), (129610, [.sv 0 (.list false (.int .u8)), .sv 1 (.int .i64), .sv 6 (.int .i64), .sv 8 (.int .i64), .sv 9 (.int .i64), .sv 32 (.int .i64), .sv 33 (.int .i64), .own 7 7 (.int .i64)], [(.exit 2, [.sv 0 (.list false (.int .u8)), .sv 1 (.int .i64), .sv 6 (.int .i64), .sv 8 (.int .i64), .sv 9 (.int .i64), .own 7 7 (.int .i64)])])], [(6, [(.normal, [.sv 0 (.list false (.int .u8)), .sv 1 (.int .i64), .sv 16 .bool])]), (32403, [(.normal, [.sv 0 (.list false (.int .u8)), .sv 1 (.int .i64), .sv 6 (.int .i64), .sv 8 (.int .i64), .sv 9 (.int .i64), .own 7 7 (.int .i64)])])], []⟩
noncomputable def cx50 : Cx := ⟨ptrT, eqT0, T0, fun f => find [(21, S_sample_Fits), (43, S_sample_High)] f, fun d => find ([] : List (Nat × Ty)) d, fun i => ([0, 1, 4, 5, 6, 7, 8, 9, 10] : List Nat).contains i, fun i => ([] : List Nat).contains i⟩
set_option maxRecDepth 100000 in
theorem eq50 (x) : arun cx50 H50 Try.f50 S_sample_Unpack.ps S_sample_Unpack.rs x = S_sample_Unpack.F x := by kernel_rfl

/- kinora/wave.parseData -/
noncomputable def F_wave_parseData_l0 (st : ((List Int) × (Int × (Int × ((List Int) × Unit))))) : Option (((List Int) × (Int × (Int × ((List Int) × Unit)))) ⊕ ((List Int) × Unit)) :=
  bif decide (st.2.2.1 < st.2.1) then (
  (gidx st.1 st.2.2.1).bind fun x2 =>
  bif lim ((List.length st.2.2.2.1) + 1) then some (.inl (st.1, (st.2.1, (IntKind.wrap .i64 (st.2.2.1 + (1 : Int)), (List.append st.2.2.2.1 ([IntKind.wrap .i64 ((IntKind.wrap .i64 x2) - (128 : Int))] : List Int), ())))))
  else none)
  else some (.inr (st.2.2.2.1, ()))

noncomputable def F_wave_parseData (x : ((List Int) × (Int × (Int × (Int × Unit))))) : Option ((List Int) × Int) :=
  bif (IntKind.wrap .i64 (Int.tdiv (IntKind.wrap .i64 (x.2.2.1 * x.2.2.2.1)) (8 : Int))) == 0 then none
  else (
  bif (Int.tmod ((List.length x.1 : Nat) : Int) (IntKind.wrap .i64 (Int.tdiv (IntKind.wrap .i64 (x.2.2.1 * x.2.2.2.1)) (8 : Int)))) != (0 : Int) then some (([] : (List Int)), (3 : Int))
  else (
  bif (IntKind.wrap .i64 (Int.tdiv (IntKind.wrap .i64 (x.2.2.1 * x.2.2.2.1)) (8 : Int))) == 0 then none
  else (
  bif decide ((IntKind.wrap .i64 (Int.tdiv ((List.length x.1 : Nat) : Int) (IntKind.wrap .i64 (Int.tdiv (IntKind.wrap .i64 (x.2.2.1 * x.2.2.2.1)) (8 : Int))))) > (4194304 : Int)) then some (([] : (List Int)), (4 : Int))
  else (
  bif x.2.2.2.1 != (8 : Int) then (
  (F_sample_Unpack (x.1, x.2.2.2.1)).bind fun y1 =>
  some (y1.1, y1.2))
  else (
  bif (decide ((0 : Int) ≤ ((List.length x.1 : Nat) : Int))) && (lim (Int.toNat ((List.length x.1 : Nat) : Int))) then (
  (iter F_wave_parseData_l0 (x.1, (((List.length x.1 : Nat) : Int), ((0 : Int), (([] : (List Int)), ()))))).bind fun w3 =>
  some (w3.1, (0 : Int)))
  else none)))))

noncomputable def S_wave_parseData : FSem := ⟨[.v (.list false (.int .u8)), .v (.pair (.int .i64) (.pair (.int .i64) (.pair (.int .i64) .unit)))], [.o (.int .i64), .v (.int .i64)], F_wave_parseData⟩
def H33 : Hints := ⟨[(1018, [.sv 38 (.list false (.int .u8)), .sv 39 (.int .i64), .sv 40 (.int .i64), .own 7 7 (.int .i64)], [(.exit 0, [.own 7 7 (.int .i64)])])], [], []⟩
noncomputable def cx33 : Cx := ⟨ptrT, eqT0, T0, fun f => find [(50, S_sample_Unpack)] f, fun d => find ([] : List (Nat × Ty)) d, fun i => ([0, 1, 4, 5, 6, 7, 9] : List Nat).contains i, fun i => ([3] : List Nat).contains i⟩
set_option maxRecDepth 100000 in
theorem eq33 (x) : arun cx33 H33 Try.f33 S_wave_parseData.ps S_wave_parseData.rs x = S_wave_parseData.F x := by kernel_rfl

/- kinora/wave.Parse -/
noncomputable def F_wave_Parse_l0 (st : ((List Int) × (Bool × (Bool × ((List Int) × ((Int × (Int × (Int × Unit))) × ((Int × (Int × (Int × Unit))) × Unit))))))) : Option (((List Int) × (Bool × (Bool × ((List Int) × ((Int × (Int × (Int × Unit))) × ((Int × (Int × (Int × Unit))) × Unit)))))) ⊕ (((List Int) × (Bool × (Bool × ((Int × (Int × (Int × Unit))) × ((Int × (Int × (Int × Unit))) × Unit))))) ⊕ ((List Int) × (Int × ((Int × (Int × (Int × Unit))) × Unit))))) :=
  bif decide (((List.length st.2.2.2.1 : Nat) : Int) > (0 : Int)) then (
  bif decide (((List.length st.2.2.2.1 : Nat) : Int) < (8 : Int)) then some (.inr (Sum.inr ((([] : (List Int)), ((3 : Int), (((0 : Int), ((0 : Int), ((0 : Int), ()))), ()))))))
  else (
  bif decide ((8 : Int) ≤ ((List.length st.2.2.2.1 : Nat) : Int)) then (
  (F_wave_number (List.drop 4 (List.take 8 st.2.2.2.1))).bind fun y3 =>
  bif decide ((IntKind.wrap .i64 (((List.length st.2.2.2.1 : Nat) : Int) - (8 : Int))) < (IntKind.wrap .i64 (y3 + (Int.tmod y3 (2 : Int))))) then some (.inr (Sum.inr ((([] : (List Int)), ((3 : Int), (((0 : Int), ((0 : Int), ((0 : Int), ()))), ()))))))
  else (
  bif decide ((4 : Int) ≤ ((List.length st.2.2.2.1 : Nat) : Int)) then (
  bif (decide ((0 : Int) ≤ (IntKind.wrap .i64 ((8 : Int) + y3)))) && (decide ((IntKind.wrap .i64 ((8 : Int) + y3)) ≤ ((List.length st.2.2.2.1 : Nat) : Int))) then (
  bif decide ((8 : Int) ≤ ((Int.toNat (IntKind.wrap .i64 ((8 : Int) + y3)) : Nat) : Int)) then (
  bif (decide ((0 : Int) ≤ (IntKind.wrap .i64 ((IntKind.wrap .i64 ((8 : Int) + y3)) + (Int.tmod y3 (2 : Int)))))) && (decide ((IntKind.wrap .i64 ((IntKind.wrap .i64 ((8 : Int) + y3)) + (Int.tmod y3 (2 : Int)))) ≤ ((List.length st.2.2.2.1 : Nat) : Int))) then (
  bif (b2s (List.take 4 st.2.2.2.1)) == ([102, 109, 116, 32] : List Int) then (
  bif st.2.1 then some (.inr (Sum.inr ((([] : (List Int)), ((8 : Int), (((0 : Int), ((0 : Int), ((0 : Int), ()))), ()))))))
  else (
  (F_wave_parseFormat (List.drop 8 (List.take (Int.toNat (IntKind.wrap .i64 ((8 : Int) + y3))) st.2.2.2.1))).bind fun y4 =>
  bif !y4.2 then some (.inr (Sum.inr ((([] : (List Int)), ((2 : Int), (((0 : Int), ((0 : Int), ((0 : Int), ()))), ()))))))
  else some (.inl (st.1, (y4.2, (st.2.2.1, (List.drop (Int.toNat (IntKind.wrap .i64 ((IntKind.wrap .i64 ((8 : Int) + y3)) + (Int.tmod y3 (2 : Int))))) (List.take (List.length st.2.2.2.1) st.2.2.2.1), (st.2.2.2.2.1, (y4.1, ())))))))))
  else (
  bif (b2s (List.take 4 st.2.2.2.1)) == ([100, 97, 116, 97] : List Int) then (
  bif !st.2.1 then some (.inr (Sum.inr ((([] : (List Int)), ((12 : Int), (((0 : Int), ((0 : Int), ((0 : Int), ()))), ()))))))
  else (
  bif st.2.2.1 then some (.inr (Sum.inr ((([] : (List Int)), ((8 : Int), (((0 : Int), ((0 : Int), ((0 : Int), ()))), ()))))))
  else (
  (F_wave_parseData (List.drop 8 (List.take (Int.toNat (IntKind.wrap .i64 ((8 : Int) + y3))) st.2.2.2.1), st.2.2.2.2.2.1)).bind fun y5 =>
  bif y5.2 != (0 : Int) then some (.inr (Sum.inr ((([] : (List Int)), (y5.2, (((0 : Int), ((0 : Int), ((0 : Int), ()))), ()))))))
  else some (.inl (y5.1, (st.2.1, (true, (List.drop (Int.toNat (IntKind.wrap .i64 ((IntKind.wrap .i64 ((8 : Int) + y3)) + (Int.tmod y3 (2 : Int))))) (List.take (List.length st.2.2.2.1) st.2.2.2.1), (st.2.2.2.2.1, (st.2.2.2.2.2.1, ()))))))))))
  else some (.inl (st.1, (st.2.1, (st.2.2.1, (List.drop (Int.toNat (IntKind.wrap .i64 ((IntKind.wrap .i64 ((8 : Int) + y3)) + (Int.tmod y3 (2 : Int))))) (List.take (List.length st.2.2.2.1) st.2.2.2.1), (st.2.2.2.2.1, (st.2.2.2.2.2.1, ())))))))))
  else none)
  else none)
  else none)
  else none))
  else none))
  else some (.inr (Sum.inl (st.1, (st.2.1, (st.2.2.1, (st.2.2.2.2.1, (st.2.2.2.2.2.1, ())))))))

noncomputable def F_wave_Parse (x : (List Int)) : Option ((Int × (Int × (Int × Unit))) × ((List Int) × Int)) :=
  bif decide (((List.length x : Nat) : Int) < (12 : Int)) then some (((0 : Int), ((0 : Int), ((0 : Int), ()))), (([] : (List Int)), (3 : Int)))
  else (
  bif decide ((8 : Int) ≤ ((List.length x : Nat) : Int)) then (
  (F_wave_number (List.drop 4 (List.take 8 x))).bind fun y1 =>
  (show Option ((List Int) × (Int × (Bool × ((Int × (Int × (Int × Unit))) × Unit)))) from
  bif decide ((4 : Int) ≤ ((List.length x : Nat) : Int)) then (
  bif (b2s (List.take 4 x)) != ([82, 73, 70, 70] : List Int) then some (x, (y1, (true, (((0 : Int), ((0 : Int), ((0 : Int), ()))), ()))))
  else (
  bif decide ((12 : Int) ≤ ((List.length x : Nat) : Int)) then (
  bif (b2s (List.drop 8 (List.take 12 x))) != ([87, 65, 86, 69] : List Int) then some (x, (y1, (true, (((0 : Int), ((0 : Int), ((0 : Int), ()))), ()))))
  else some (x, (y1, (decide (y1 < (4 : Int)), (((0 : Int), ((0 : Int), ((0 : Int), ()))), ())))))
  else none))
  else none).bind fun z2 =>
  bif z2.2.2.1 then some (((0 : Int), ((0 : Int), ((0 : Int), ()))), (([] : (List Int)), (2 : Int)))
  else (
  bif decide ((IntKind.wrap .i64 (((List.length z2.1 : Nat) : Int) - (8 : Int))) < z2.2.1) then some (((0 : Int), ((0 : Int), ((0 : Int), ()))), (([] : (List Int)), (3 : Int)))
  else (
  bif (decide ((0 : Int) ≤ (IntKind.wrap .i64 ((8 : Int) + z2.2.1)))) && (decide ((IntKind.wrap .i64 ((8 : Int) + z2.2.1)) ≤ ((List.length z2.1 : Nat) : Int))) then (
  bif decide ((12 : Int) ≤ ((Int.toNat (IntKind.wrap .i64 ((8 : Int) + z2.2.1)) : Nat) : Int)) then (
  (iter F_wave_Parse_l0 (([] : (List Int)), (false, (false, (List.drop 12 (List.take (Int.toNat (IntKind.wrap .i64 ((8 : Int) + z2.2.1))) z2.1), (z2.2.2.2.1, (((0 : Int), ((0 : Int), ((0 : Int), ()))), ()))))))).bind fun w6 =>
  match w6 with
  | .inl a7 => (
  (show Option ((List Int) × (Bool × ((Int × (Int × (Int × Unit))) × ((Int × (Int × (Int × Unit))) × Unit)))) from
  bif !a7.2.1 then some (a7.1, (true, (a7.2.2.2.1, (a7.2.2.2.2.1, ()))))
  else some (a7.1, (!a7.2.2.1, (a7.2.2.2.1, (a7.2.2.2.2.1, ()))))).bind fun z9 =>
  bif z9.2.1 then some (((0 : Int), ((0 : Int), ((0 : Int), ()))), (([] : (List Int)), (7 : Int)))
  else some (z9.2.2.2.1, (z9.1, (0 : Int))))
  | .inr b8 => some (b8.2.2.1, (b8.1, b8.2.1)))
  else none)
  else none)))
  else none)

noncomputable def S_wave_Parse : FSem := ⟨[.v (.list false (.int .u8))], [.v (.pair (.int .i64) (.pair (.int .i64) (.pair (.int .i64) .unit))), .v (.list false (.int .i64)), .v (.int .i64)], F_wave_Parse⟩
def H13 : Hints := ⟨[(4090, [.sv 7 (.list false (.int .i64)), .sv 8 .bool, .sv 9 .bool, .sv 10 (.list false (.int .u8)), .box 2 (.pair (.int .i64) (.pair (.int .i64) (.pair (.int .i64) .unit))), .box 6 (.pair (.int .i64) (.pair (.int .i64) (.pair (.int .i64) .unit))), .ptr 2 2 [], .ptr 6 6 []], [(.exit 0, [.sv 7 (.list false (.int .i64)), .sv 8 .bool, .sv 9 .bool, .box 2 (.pair (.int .i64) (.pair (.int .i64) (.pair (.int .i64) .unit))), .box 6 (.pair (.int .i64) (.pair (.int .i64) (.pair (.int .i64) .unit))), .ptr 2 2 [], .ptr 6 6 []]), (.ret, [.sv 3 (.list false (.int .i64)), .sv 4 (.int .i64), .box 2 (.pair (.int .i64) (.pair (.int .i64) (.pair (.int .i64) .unit))), .ptr 2 2 []])])], [(30, [(.normal, [.sv 0 (.list false (.int .u8)), .sv 5 (.int .i64), .sv 35 .bool, .box 2 (.pair (.int .i64) (.pair (.int .i64) (.pair (.int .i64) .unit))), .ptr 2 2 []])]), (2046, [(.normal, [.sv 7 (.list false (.int .i64)), .sv 115 .bool, .box 2 (.pair (.int .i64) (.pair (.int .i64) (.pair (.int .i64) .unit))), .box 6 (.pair (.int .i64) (.pair (.int .i64) (.pair (.int .i64) .unit))), .ptr 2 2 [], .ptr 6 6 []])])], [(18, [.v, .v, .v, .v, .v, .v, .v, .v, .x])]⟩
noncomputable def cx13 : Cx := ⟨ptrT, eqT0, T0, fun f => find [(31, S_wave_number), (32, S_wave_parseFormat), (33, S_wave_parseData)] f, fun d => find ([] : List (Nat × Ty)) d, fun i => ([0, 3, 4, 5, 7, 8, 9, 10, 11, 12, 13, 14, 81, 93] : List Nat).contains i, fun i => ([] : List Nat).contains i⟩
set_option maxRecDepth 100000 in
theorem eq13 (x) : arun cx13 H13 Try.f13 S_wave_Parse.ps S_wave_Parse.rs x = S_wave_Parse.F x := by kernel_rfl

/- kinora/kinoraref2.SameInts -/
noncomputable def F_kinoraref2_SameInts_l0 (st : ((List Int) × ((List Int) × (Int × Unit)))) : Option (((List Int) × ((List Int) × (Int × Unit))) ⊕ (Unit ⊕ (Bool × Unit))) :=
  bif decide (st.2.2.1 < ((List.length st.1 : Nat) : Int)) then (
  (gidx st.1 st.2.2.1).bind fun x1 =>
  (gidx st.2.1 st.2.2.1).bind fun x2 =>
  bif x1 != x2 then some (.inr (Sum.inr ((false, ()))))
  else some (.inl (st.1, (st.2.1, (IntKind.wrap .i64 (st.2.2.1 + (1 : Int)), ())))))
  else some (.inr (Sum.inl ()))

noncomputable def F_kinoraref2_SameInts (x : ((List Int) × (List Int))) : Option Bool :=
  bif ((List.length x.1 : Nat) : Int) != ((List.length x.2 : Nat) : Int) then some false
  else (
  (iter F_kinoraref2_SameInts_l0 (x.1, (x.2, ((0 : Int), ())))).bind fun w3 =>
  match w3 with
  | .inl a4 => some true
  | .inr b5 => some b5.1)

noncomputable def S_kinoraref2_SameInts : FSem := ⟨[.v (.list false (.int .i64)), .v (.list false (.int .i64))], [.v .bool], F_kinoraref2_SameInts⟩
def H15 : Hints := ⟨[(58, [.sv 0 (.list false (.int .i64)), .sv 1 (.list false (.int .i64)), .sv 5 (.int .i64)], [(.exit 0, []), (.ret, [.sv 4 .bool])])], [], [(6, [.v, .v, .v, .v, .v, .v, .v, .v, .x])]⟩
noncomputable def cx15 : Cx := ⟨ptrT, eqT0, T0, fun f => find [] f, fun d => find ([] : List (Nat × Ty)) d, fun i => ([0, 1, 4, 5] : List Nat).contains i, fun i => ([] : List Nat).contains i⟩
set_option maxRecDepth 100000 in
theorem eq15 (x) : arun cx15 H15 Try.f15 S_kinoraref2_SameInts.ps S_kinoraref2_SameInts.rs x = S_kinoraref2_SameInts.F x := by kernel_rfl

/- kinora/kinoralaw18.known -/
noncomputable def F_kinoralaw18_known (x : Unit) : Option Bool :=
  (F_wave_Print (((8000 : Int), ((1 : Int), ((8 : Int), ()))), ([(-128 : Int), (1 : Int)] : List Int))).bind fun y1 =>
  (F_wave_Parse y1.1).bind fun y2 =>
  bif y1.2 == (0 : Int) then (
  bif y2.2.2 == (0 : Int) then (
  bif ((List.length y1.1 : Nat) : Int) == (46 : Int) then (
  bif decide ((44 : Int) ≤ ((List.length y1.1 : Nat) : Int)) then (
  bif (b2s (List.drop 44 (List.take (List.length y1.1) y1.1))) == ([0, 129] : List Int) then (
  bif eqT (.pair (.int .i64) (.pair (.int .i64) (.pair (.int .i64) .unit))) y2.1 ((8000 : Int), ((1 : Int), ((8 : Int), ()))) then (
  (F_kinoraref2_SameInts (y2.2.1, ([(-128 : Int), (1 : Int)] : List Int))).bind fun y3 =>
  some y3)
  else some false)
  else some false)
  else none)
  else some false)
  else some false)
  else some false

noncomputable def S_kinoralaw18_known : FSem := ⟨[], [.v .bool], F_kinoralaw18_known⟩
def H9 : Hints := ⟨[], [], []⟩
noncomputable def cx9 : Cx := ⟨ptrT, eqT0, T0, fun f => find [(10, S_wave_Print), (13, S_wave_Parse), (15, S_kinoraref2_SameInts)] f, fun d => find ([] : List (Nat × Ty)) d, fun i => ([0, 2, 3, 5, 6] : List Nat).contains i, fun i => ([] : List Nat).contains i⟩
set_option maxRecDepth 100000 in
theorem eq9 (x) : arun cx9 H9 Try.f9 S_kinoralaw18_known.ps S_kinoralaw18_known.rs x = S_kinoralaw18_known.F x := by kernel_rfl

/- kinora/kinoraref14.Right -/
noncomputable def F_kinoraref14_Right (x : (Int × (Int × (Int × Unit)))) : Option Bool :=
  bif decide (x.1 ≥ (1 : Int)) then (
  bif decide (x.1 ≤ (1048576 : Int)) then (
  bif decide (x.2.1 ≥ (1 : Int)) then (
  bif decide (x.2.1 ≤ (8 : Int)) then (
  bif decide (x.2.2.1 ≥ (4 : Int)) then some (decide (x.2.2.1 ≤ (24 : Int)))
  else some false)
  else some false)
  else some false)
  else some false)
  else some false

noncomputable def S_kinoraref14_Right : FSem := ⟨[.v (.pair (.int .i64) (.pair (.int .i64) (.pair (.int .i64) .unit)))], [.v .bool], F_kinoraref14_Right⟩
def H26 : Hints := ⟨[], [], []⟩
noncomputable def cx26 : Cx := ⟨ptrT, eqT0, T0, fun f => find [] f, fun d => find ([] : List (Nat × Ty)) d, fun i => ([0, 2] : List Nat).contains i, fun i => ([1] : List Nat).contains i⟩
set_option maxRecDepth 100000 in
theorem eq26 (x) : arun cx26 H26 Try.f26 S_kinoraref14_Right.ps S_kinoraref14_Right.rs x = S_kinoraref14_Right.F x := by kernel_rfl

/- kinora/kinoraref19.containers -/
noncomputable def F_kinoraref19_containers (x : Int) : Option Bool :=
  bif x == (8 : Int) then some true
  else (
  bif x == (16 : Int) then some true
  else some (x == (24 : Int)))

noncomputable def S_kinoraref19_containers : FSem := ⟨[.v (.int .i64)], [.v .bool], F_kinoraref19_containers⟩
def H27 : Hints := ⟨[], [], []⟩
noncomputable def cx27 : Cx := ⟨ptrT, eqT0, T0, fun f => find [] f, fun d => find ([] : List (Nat × Ty)) d, fun i => ([0, 2] : List Nat).contains i, fun i => ([] : List Nat).contains i⟩
set_option maxRecDepth 100000 in
theorem eq27 (x) : arun cx27 H27 Try.f27 S_kinoraref19_containers.ps S_kinoraref19_containers.rs x = S_kinoraref19_containers.F x := by kernel_rfl

/- kinora/kinoraref2.Small -/
noncomputable def F_kinoraref2_Small_l0 (st : (Int × (Int × (Int × ((List Int) × Unit))))) : Option ((Int × (Int × (Int × ((List Int) × Unit)))) ⊕ ((List Int) × Unit)) :=
  bif decide (st.2.2.1 < st.2.1) then (
  bif decide (st.2.2.1 < (8 : Int)) then (
  bif decide ((IntKind.wrap .u64 (IntKind.wrap .i64 ((8 : Int) * st.2.2.1))) < 0) then none
  else (
  bif lim ((List.length st.2.2.2.1) + 1) then some (.inl (st.1, (st.2.1, (IntKind.wrap .i64 (st.2.2.1 + (1 : Int)), (List.append st.2.2.2.1 ([IntKind.wrap .u8 (gshr .u64 st.1 (IntKind.wrap .u64 (IntKind.wrap .i64 ((8 : Int) * st.2.2.1))))] : List Int), ())))))
  else none))
  else some (.inr (st.2.2.2.1, ())))
  else some (.inr (st.2.2.2.1, ()))

noncomputable def F_kinoraref2_Small (x : (Int × Int)) : Option (List Int) :=
  (iter F_kinoraref2_Small_l0 (x.1, (x.2, ((0 : Int), (([] : (List Int)), ()))))).bind fun w1 =>
  some w1.1

noncomputable def S_kinoraref2_Small : FSem := ⟨[.v (.int .u64), .v (.int .i64)], [.o (.int .u8)], F_kinoraref2_Small⟩
def H19 : Hints := ⟨[(58, [.sv 0 (.int .u64), .sv 1 (.int .i64), .sv 6 (.int .i64), .own 5 5 (.int .u8)], [(.exit 0, [.own 5 5 (.int .u8)])])], [], []⟩
noncomputable def cx19 : Cx := ⟨ptrT, eqT0, T0, fun f => find [] f, fun d => find ([] : List (Nat × Ty)) d, fun i => ([0, 1, 4, 5, 6] : List Nat).contains i, fun i => ([] : List Nat).contains i⟩
set_option maxRecDepth 100000 in
theorem eq19 (x) : arun cx19 H19 Try.f19 S_kinoraref2_Small.ps S_kinoraref2_Small.rs x = S_kinoraref2_Small.F x := by kernel_rfl

/- kinora/kinoraref2.depth -/
noncomputable def F_kinoraref2_depth (x : Int) : Option Bool :=
  bif decide (x ≥ (4 : Int)) then some (decide (x ≤ (24 : Int)))
  else some false

noncomputable def S_kinoraref2_depth : FSem := ⟨[.v (.int .i64)], [.v .bool], F_kinoraref2_depth⟩
def H46 : Hints := ⟨[], [], []⟩
noncomputable def cx46 : Cx := ⟨ptrT, eqT0, T0, fun f => find [] f, fun d => find ([] : List (Nat × Ty)) d, fun i => ([0, 2] : List Nat).contains i, fun i => ([] : List Nat).contains i⟩
set_option maxRecDepth 100000 in
theorem eq46 (x) : arun cx46 H46 Try.f46 S_kinoraref2_depth.ps S_kinoraref2_depth.rs x = S_kinoraref2_depth.F x := by kernel_rfl

/- kinora/kinoraref2.Low -/
noncomputable def F_kinoraref2_Low (x : Int) : Option Int :=
  (show Option (Int × (Bool × Unit)) from
  bif decide (x < (1 : Int)) then some (x, (true, ()))
  else some (x, (decide (x > (31 : Int)), ()))).bind fun z1 =>
  bif z1.2.1 then some (0 : Int)
  else (
  bif decide ((IntKind.wrap .u64 (IntKind.wrap .i64 (z1.1 - (1 : Int)))) < 0) then none
  else some (gshl .i64 (-1 : Int) (IntKind.wrap .u64 (IntKind.wrap .i64 (z1.1 - (1 : Int))))))

noncomputable def S_kinoraref2_Low : FSem := ⟨[.v (.int .i64)], [.v (.int .i64)], F_kinoraref2_Low⟩
def H53 : Hints := ⟨[], [(6, [(.normal, [.sv 0 (.int .i64), .sv 8 .bool])])], []⟩
noncomputable def cx53 : Cx := ⟨ptrT, eqT0, T0, fun f => find [] f, fun d => find ([] : List (Nat × Ty)) d, fun i => ([0, 2] : List Nat).contains i, fun i => ([] : List Nat).contains i⟩
set_option maxRecDepth 100000 in
theorem eq53 (x) : arun cx53 H53 Try.f53 S_kinoraref2_Low.ps S_kinoraref2_Low.rs x = S_kinoraref2_Low.F x := by kernel_rfl

/- kinora/kinoraref2.High -/
noncomputable def F_kinoraref2_High (x : Int) : Option Int :=
  (show Option (Int × (Bool × Unit)) from
  bif decide (x < (1 : Int)) then some (x, (true, ()))
  else some (x, (decide (x > (31 : Int)), ()))).bind fun z1 =>
  bif z1.2.1 then some (0 : Int)
  else (
  bif decide ((IntKind.wrap .u64 (IntKind.wrap .i64 (z1.1 - (1 : Int)))) < 0) then none
  else some (IntKind.wrap .i64 ((gshl .i64 (1 : Int) (IntKind.wrap .u64 (IntKind.wrap .i64 (z1.1 - (1 : Int))))) - (1 : Int))))

noncomputable def S_kinoraref2_High : FSem := ⟨[.v (.int .i64)], [.v (.int .i64)], F_kinoraref2_High⟩
def H54 : Hints := ⟨[], [(6, [(.normal, [.sv 0 (.int .i64), .sv 8 .bool])])], []⟩
noncomputable def cx54 : Cx := ⟨ptrT, eqT0, T0, fun f => find [] f, fun d => find ([] : List (Nat × Ty)) d, fun i => ([0, 2] : List Nat).contains i, fun i => ([] : List Nat).contains i⟩
set_option maxRecDepth 100000 in
theorem eq54 (x) : arun cx54 H54 Try.f54 S_kinoraref2_High.ps S_kinoraref2_High.rs x = S_kinoraref2_High.F x := by kernel_rfl

/- kinora/kinoraref2.Fits -/
noncomputable def F_kinoraref2_Fits (x : (Int × Int)) : Option Bool :=
  bif decide (x.2 ≥ (1 : Int)) then (
  bif decide (x.2 ≤ (31 : Int)) then (
  (F_kinoraref2_Low x.2).bind fun y1 =>
  bif decide (x.1 ≥ y1) then (
  (F_kinoraref2_High x.2).bind fun y2 =>
  some (decide (x.1 ≤ y2)))
  else some false)
  else some false)
  else some false

noncomputable def S_kinoraref2_Fits : FSem := ⟨[.v (.int .i64), .v (.int .i64)], [.v .bool], F_kinoraref2_Fits⟩
def H47 : Hints := ⟨[], [], []⟩
noncomputable def cx47 : Cx := ⟨ptrT, eqT0, T0, fun f => find [(53, S_kinoraref2_Low), (54, S_kinoraref2_High)] f, fun d => find ([] : List (Nat × Ty)) d, fun i => ([0, 1, 4] : List Nat).contains i, fun i => ([] : List Nat).contains i⟩
set_option maxRecDepth 100000 in
theorem eq47 (x) : arun cx47 H47 Try.f47 S_kinoraref2_Fits.ps S_kinoraref2_Fits.rs x = S_kinoraref2_Fits.F x := by kernel_rfl

/- kinora/kinoraref2.Pack -/
noncomputable def F_kinoraref2_Pack_l0 (st : ((List Int) × (Int × (Int × ((List Int) × Unit))))) : Option (((List Int) × (Int × (Int × ((List Int) × Unit)))) ⊕ (((List Int) × Unit) ⊕ (Int × ((List Int) × Unit)))) :=
  bif decide (st.2.2.1 < ((List.length st.1 : Nat) : Int)) then (
  (gidx st.1 st.2.2.1).bind fun x2 =>
  (F_kinoraref2_Fits (x2, st.2.1)).bind fun y3 =>
  bif !y3 then some (.inr (Sum.inr (((6 : Int), (([] : (List Int)), ())))))
  else (
  (gidx st.1 st.2.2.1).bind fun x4 =>
  (F_kinoraref2_Small (IntKind.wrap .u64 x4, IntKind.wrap .i64 (Int.tdiv (IntKind.wrap .i64 (st.2.1 + (7 : Int))) (8 : Int)))).bind fun y5 =>
  bif lim ((List.length st.2.2.2.1) + (List.length y5)) then some (.inl (st.1, (st.2.1, (IntKind.wrap .i64 (st.2.2.1 + (1 : Int)), (List.append st.2.2.2.1 y5, ())))))
  else none))
  else some (.inr (Sum.inl (st.2.2.2.1, ())))

noncomputable def F_kinoraref2_Pack (x : ((List Int) × Int)) : Option ((List Int) × Int) :=
  (F_kinoraref2_depth x.2).bind fun y1 =>
  bif !y1 then some (([] : (List Int)), (1 : Int))
  else (
  (iter F_kinoraref2_Pack_l0 (x.1, (x.2, ((0 : Int), (([] : (List Int)), ()))))).bind fun w6 =>
  match w6 with
  | .inl a7 => some (a7.1, (0 : Int))
  | .inr b8 => some (b8.2.1, b8.1))

noncomputable def S_kinoraref2_Pack : FSem := ⟨[.v (.list false (.int .i64)), .v (.int .i64)], [.o (.int .u8), .v (.int .i64)], F_kinoraref2_Pack⟩
def H28 : Hints := ⟨[(122, [.sv 0 (.list false (.int .i64)), .sv 1 (.int .i64), .sv 7 (.int .i64), .own 6 6 (.int .u8)], [(.exit 0, [.own 6 6 (.int .u8)]), (.ret, [.sv 5 (.int .i64), .own 4 4 (.int .u8)])])], [], []⟩
noncomputable def cx28 : Cx := ⟨ptrT, eqT0, T0, fun f => find [(19, S_kinoraref2_Small), (46, S_kinoraref2_depth), (47, S_kinoraref2_Fits)] f, fun d => find ([] : List (Nat × Ty)) d, fun i => ([0, 1, 4, 5, 6, 7] : List Nat).contains i, fun i => ([] : List Nat).contains i⟩
set_option maxRecDepth 100000 in
theorem eq28 (x) : arun cx28 H28 Try.f28 S_kinoraref2_Pack.ps S_kinoraref2_Pack.rs x = S_kinoraref2_Pack.F x := by kernel_rfl

/- kinora/kinoraref19.small -/
noncomputable def F_kinoraref19_small (x : (Int × Int)) : Option (List Int) :=
  (F_kinoraref2_Small (IntKind.wrap .u64 x.1, x.2)).bind fun y1 =>
  some y1

noncomputable def S_kinoraref19_small : FSem := ⟨[.v (.int .i64), .v (.int .i64)], [.o (.int .u8)], F_kinoraref19_small⟩
def H29 : Hints := ⟨[], [], []⟩
noncomputable def cx29 : Cx := ⟨ptrT, eqT0, T0, fun f => find [(19, S_kinoraref2_Small)] f, fun d => find ([] : List (Nat × Ty)) d, fun i => ([0, 1, 4] : List Nat).contains i, fun i => ([] : List Nat).contains i⟩
set_option maxRecDepth 100000 in
theorem eq29 (x) : arun cx29 H29 Try.f29 S_kinoraref19_small.ps S_kinoraref19_small.rs x = S_kinoraref19_small.F x := by kernel_rfl

/- kinora/kinoraref19.chunk -/
noncomputable def F_kinoraref19_chunk (x : ((List Int) × (List Int))) : Option (List Int) :=
  bif lim (List.length x.1) then (
  (F_kinoraref19_small (((List.length x.2 : Nat) : Int), (4 : Int))).bind fun y1 =>
  bif lim ((List.length x.1) + (List.length y1)) then (
  bif lim ((List.length (List.append x.1 y1)) + (List.length x.2)) then (
  (show Option ((List Int) × Unit) from
  bif (Int.tmod ((List.length x.2 : Nat) : Int) (2 : Int)) == (1 : Int) then (
  bif lim ((List.length (List.append (List.append x.1 y1) x.2)) + 1) then some (List.append (List.append (List.append x.1 y1) x.2) ([(0 : Int)] : List Int), ())
  else none)
  else some (List.append (List.append x.1 y1) x.2, ())).bind fun z2 =>
  some z2.1)
  else none)
  else none)
  else none

noncomputable def S_kinoraref19_chunk : FSem := ⟨[.v .str, .v (.list false (.int .u8))], [.o (.int .u8)], F_kinoraref19_chunk⟩
def H30 : Hints := ⟨[], [(7, [(.normal, [.own 5 5 (.int .u8)])])], []⟩
noncomputable def cx30 : Cx := ⟨ptrT, eqT0, T0, fun f => find [(29, S_kinoraref19_small)] f, fun d => find ([] : List (Nat × Ty)) d, fun i => ([0, 1, 4, 5] : List Nat).contains i, fun i => ([] : List Nat).contains i⟩
set_option maxRecDepth 100000 in
theorem eq30 (x) : arun cx30 H30 Try.f30 S_kinoraref19_chunk.ps S_kinoraref19_chunk.rs x = S_kinoraref19_chunk.F x := by kernel_rfl

/- kinora/kinoraref19.WavePrint -/
noncomputable def F_kinoraref19_WavePrint_l0 (st : (Int × ((List Int) × ((Int × (Int × (Int × Unit))) × Unit)))) : Option ((Int × ((List Int) × ((Int × (Int × (Int × Unit))) × Unit))) ⊕ ((List Int) × ((Int × (Int × (Int × Unit))) × Unit))) :=
  bif decide (st.1 < ((List.length st.2.1 : Nat) : Int)) then (
  bif st.2.2.1.2.2.1 == (8 : Int) then (
  bif (decide ((0 : Int) ≤ st.1)) && (decide (st.1 < ((List.length st.2.1 : Nat) : Int))) then (
  bif (decide ((0 : Int) ≤ st.1)) && (decide (st.1 < ((List.length st.2.1 : Nat) : Int))) then some (.inl (IntKind.wrap .i64 (st.1 + (1 : Int)), (List.set st.2.1 (Int.toNat st.1) (bits .u8 .xor (List.getD st.2.1 (Int.toNat st.1) (0 : Int)) (128 : Int)), (st.2.2.1, ()))))
  else none)
  else none)
  else some (.inr (st.2.1, (st.2.2.1, ()))))
  else some (.inr (st.2.1, (st.2.2.1, ())))

noncomputable def F_kinoraref19_WavePrint (x : ((Int × (Int × (Int × Unit))) × (List Int))) : Option ((List Int) × Int) :=
  (show Option ((List Int) × (Bool × ((Int × (Int × (Int × Unit))) × Unit))) from
  (F_kinoraref14_Right x.1).bind fun y1 =>
  bif !y1 then some (x.2, (true, (x.1, ())))
  else (
  (F_kinoraref19_containers x.1.2.2.1).bind fun y2 =>
  some (x.2, (!y2, (x.1, ()))))).bind fun z3 =>
  bif z3.2.1 then some (([] : (List Int)), (1 : Int))
  else (
  bif z3.2.2.1.2.1 == 0 then none
  else (
  bif (Int.tmod ((List.length z3.1 : Nat) : Int) z3.2.2.1.2.1) != (0 : Int) then some (([] : (List Int)), (3 : Int))
  else (
  bif z3.2.2.1.2.1 == 0 then none
  else (
  bif decide ((IntKind.wrap .i64 (Int.tdiv ((List.length z3.1 : Nat) : Int) z3.2.2.1.2.1)) > (4194304 : Int)) then some (([] : (List Int)), (4 : Int))
  else (
  (F_kinoraref2_Pack (z3.1, z3.2.2.1.2.2.1)).bind fun y4 =>
  bif y4.2 != (0 : Int) then some (([] : (List Int)), y4.2)
  else (
  (iter F_kinoraref19_WavePrint_l0 ((0 : Int), (y4.1, (z3.2.2.1, ())))).bind fun w5 =>
  (F_kinoraref19_small ((1 : Int), (2 : Int))).bind fun y6 =>
  (F_kinoraref19_small (w5.2.1.2.1, (2 : Int))).bind fun y7 =>
  bif lim ((List.length y6) + (List.length y7)) then (
  (F_kinoraref19_small (w5.2.1.1, (4 : Int))).bind fun y8 =>
  bif lim ((List.length (List.append y6 y7)) + (List.length y8)) then (
  (F_kinoraref19_small (IntKind.wrap .i64 (w5.2.1.1 * (IntKind.wrap .i64 (Int.tdiv (IntKind.wrap .i64 (w5.2.1.2.1 * w5.2.1.2.2.1)) (8 : Int)))), (4 : Int))).bind fun y9 =>
  bif lim ((List.length (List.append (List.append y6 y7) y8)) + (List.length y9)) then (
  (F_kinoraref19_small (IntKind.wrap .i64 (Int.tdiv (IntKind.wrap .i64 (w5.2.1.2.1 * w5.2.1.2.2.1)) (8 : Int)), (2 : Int))).bind fun y10 =>
  bif lim ((List.length (List.append (List.append (List.append y6 y7) y8) y9)) + (List.length y10)) then (
  (F_kinoraref19_small (w5.2.1.2.2.1, (2 : Int))).bind fun y11 =>
  bif lim ((List.length (List.append (List.append (List.append (List.append y6 y7) y8) y9) y10)) + (List.length y11)) then (
  (F_kinoraref19_chunk (([102, 109, 116, 32] : List Int), List.append (List.append (List.append (List.append (List.append y6 y7) y8) y9) y10) y11)).bind fun y12 =>
  bif lim (4 + (List.length y12)) then (
  (F_kinoraref19_chunk (([100, 97, 116, 97] : List Int), w5.1)).bind fun y13 =>
  bif lim ((List.length (List.append ([(87 : Int), (65 : Int), (86 : Int), (69 : Int)] : List Int) y12)) + (List.length y13)) then (
  (F_kinoraref19_small (((List.length (List.append (List.append ([(87 : Int), (65 : Int), (86 : Int), (69 : Int)] : List Int) y12) y13) : Nat) : Int), (4 : Int))).bind fun y14 =>
  bif lim (4 + (List.length y14)) then (
  bif lim ((List.length (List.append ([(82 : Int), (73 : Int), (70 : Int), (70 : Int)] : List Int) y14)) + (List.length (List.append (List.append ([(87 : Int), (65 : Int), (86 : Int), (69 : Int)] : List Int) y12) y13))) then some (List.append (List.append ([(82 : Int), (73 : Int), (70 : Int), (70 : Int)] : List Int) y14) (List.append (List.append ([(87 : Int), (65 : Int), (86 : Int), (69 : Int)] : List Int) y12) y13), (0 : Int))
  else none)
  else none)
  else none)
  else none)
  else none)
  else none)
  else none)
  else none)
  else none))))))

noncomputable def S_kinoraref19_WavePrint : FSem := ⟨[.v (.pair (.int .i64) (.pair (.int .i64) (.pair (.int .i64) .unit))), .v (.list false (.int .i64))], [.o (.int .u8), .v (.int .i64)], F_kinoraref19_WavePrint⟩
def H11 : Hints := ⟨[(1018, [.sv 8 (.int .i64), .own 6 6 (.int .u8), .vp 2 (.pair (.int .i64) (.pair (.int .i64) (.pair (.int .i64) .unit)))], [(.exit 0, [.own 6 6 (.int .u8), .vp 2 (.pair (.int .i64) (.pair (.int .i64) (.pair (.int .i64) .unit)))])])], [(6, [(.normal, [.sv 1 (.list false (.int .i64)), .sv 20 .bool, .vp 2 (.pair (.int .i64) (.pair (.int .i64) (.pair (.int .i64) .unit)))])])], [(15, [.q, .v, .v, .x, .x, .x]), (16, [.q, .v, .v, .q, .m, .v, .v, .v, .v, .x, .x, .x]), (17, [.q, .v, .q, .m, .v, .v, .x, .x, .x])]⟩
noncomputable def cx11 : Cx := ⟨ptrT, eqT0, T0, fun f => find [(26, S_kinoraref14_Right), (27, S_kinoraref19_containers), (28, S_kinoraref2_Pack), (29, S_kinoraref19_small), (30, S_kinoraref19_chunk)] f, fun d => find ([] : List (Nat × Ty)) d, fun i => ([0, 1, 4, 5, 6, 7, 8, 9, 10, 11] : List Nat).contains i, fun i => ([2] : List Nat).contains i⟩
set_option maxRecDepth 100000 in
theorem eq11 (x) : arun cx11 H11 Try.f11 S_kinoraref19_WavePrint.ps S_kinoraref19_WavePrint.rs x = S_kinoraref19_WavePrint.F x := by kernel_rfl

/- kinora/kinoraref2.Same -/
noncomputable def F_kinoraref2_Same (x : ((List Int) × (List Int))) : Option Bool :=
  some ((b2s x.1) == (b2s x.2))

noncomputable def S_kinoraref2_Same : FSem := ⟨[.v (.list false (.int .u8)), .v (.list false (.int .u8))], [.v .bool], F_kinoraref2_Same⟩
def H12 : Hints := ⟨[], [], []⟩
noncomputable def cx12 : Cx := ⟨ptrT, eqT0, T0, fun f => find [] f, fun d => find ([] : List (Nat × Ty)) d, fun i => ([0, 1, 4] : List Nat).contains i, fun i => ([] : List Nat).contains i⟩
set_option maxRecDepth 100000 in
theorem eq12 (x) : arun cx12 H12 Try.f12 S_kinoraref2_Same.ps S_kinoraref2_Same.rs x = S_kinoraref2_Same.F x := by kernel_rfl

/- kinora/kinoralaw18.WavePrints -/
noncomputable def F_kinoralaw18_WavePrints (x : ((Int × (Int × (Int × Unit))) × (List Int))) : Option Bool :=
  (F_kinoralaw18_known ()).bind fun y1 =>
  bif !y1 then some false
  else (
  bif decide (((List.length x.2 : Nat) : Int) > (500 : Int)) then some true
  else (
  (F_wave_Print (x.1, x.2)).bind fun y2 =>
  (F_kinoraref19_WavePrint (x.1, x.2)).bind fun y3 =>
  (F_kinoraref2_Same (y2.1, y3.1)).bind fun y4 =>
  bif y4 then some (y2.2 == y3.2)
  else some false))

noncomputable def S_kinoralaw18_WavePrints : FSem := ⟨[.v (.pair (.int .i64) (.pair (.int .i64) (.pair (.int .i64) .unit))), .v (.list false (.int .i64))], [.v .bool], F_kinoralaw18_WavePrints⟩
def H3 : Hints := ⟨[], [], []⟩
noncomputable def cx3 : Cx := ⟨ptrT, eqT0, T0, fun f => find [(9, S_kinoralaw18_known), (10, S_wave_Print), (11, S_kinoraref19_WavePrint), (12, S_kinoraref2_Same)] f, fun d => find ([] : List (Nat × Ty)) d, fun i => ([0, 1, 4, 5, 6, 7, 8] : List Nat).contains i, fun i => ([2] : List Nat).contains i⟩
set_option maxRecDepth 100000 in
theorem eq3 (x) : arun cx3 H3 Try.f3 S_kinoralaw18_WavePrints.ps S_kinoralaw18_WavePrints.rs x = S_kinoralaw18_WavePrints.F x := by kernel_rfl

/- kinora/kinoraref2.NewOctets -/
noncomputable def F_kinoraref2_NewOctets (x : (List Int)) : Option ((List Int) × (Int × (Int × Unit))) :=
  some (x, ((0 : Int), ((0 : Int), ())))

noncomputable def S_kinoraref2_NewOctets : FSem := ⟨[.v (.list false (.int .u8))], [.b (.pair (.list false (.int .u8)) (.pair (.int .i64) (.pair (.int .i64) .unit)))], F_kinoraref2_NewOctets⟩
def H34 : Hints := ⟨[], [], []⟩
noncomputable def cx34 : Cx := ⟨ptrT, eqT0, T0, fun f => find [] f, fun d => find ([] : List (Nat × Ty)) d, fun i => ([0, 2] : List Nat).contains i, fun i => ([] : List Nat).contains i⟩
set_option maxRecDepth 100000 in
theorem eq34 (x) : arun cx34 H34 Try.f34 S_kinoraref2_NewOctets.ps S_kinoraref2_NewOctets.rs x = S_kinoraref2_NewOctets.F x := by kernel_rfl

/- (*kinora/kinoraref2.Octets).Left -/
noncomputable def F_kinoraref2_Octets_Left (x : ((List Int) × (Int × (Int × Unit)))) : Option (Int × ((List Int) × (Int × (Int × Unit)))) :=
  some (IntKind.wrap .i64 (((List.length x.1 : Nat) : Int) - x.2.1), x)

noncomputable def S_kinoraref2_Octets_Left : FSem := ⟨[.r (.pair (.list false (.int .u8)) (.pair (.int .i64) (.pair (.int .i64) .unit)))], [.v (.int .i64)], F_kinoraref2_Octets_Left⟩
def H36 : Hints := ⟨[], [], [(1, [.q, .q, .q, .q, .v, .q, .q, .q, .q, .x, .x])]⟩
noncomputable def cx36 : Cx := ⟨ptrT, eqT0, T0, fun f => find [] f, fun d => find ([] : List (Nat × Ty)) d, fun i => ([0, 2] : List Nat).contains i, fun i => ([] : List Nat).contains i⟩
set_option maxRecDepth 100000 in
theorem eq36 (x) : arun cx36 H36 Try.f36 S_kinoraref2_Octets_Left.ps S_kinoraref2_Octets_Left.rs x = S_kinoraref2_Octets_Left.F x := by kernel_rfl

/- (*kinora/kinoraref2.Octets).Take -/
noncomputable def F_kinoraref2_Octets_Take (x : (((List Int) × (Int × (Int × Unit))) × Int)) : Option ((List Int) × ((List Int) × (Int × (Int × Unit)))) :=
  bif x.1.2.2.1 != (0 : Int) then some (([] : (List Int)), x.1)
  else (
  (F_kinoraref2_Octets_Left x.1).bind fun y1 =>
  bif decide ((imax x.2 (0 : Int)) > y1.1) then some (([] : (List Int)), (y1.2.1, (y1.2.2.1, ((3 : Int), y1.2.2.2.2))))
  else (
  bif (decide ((0 : Int) ≤ (IntKind.wrap .i64 (y1.2.2.1 + (imax x.2 (0 : Int)))))) && (decide ((IntKind.wrap .i64 (y1.2.2.1 + (imax x.2 (0 : Int)))) ≤ ((List.length y1.2.1 : Nat) : Int))) then (
  bif (decide ((0 : Int) ≤ y1.2.2.1)) && (decide (y1.2.2.1 ≤ ((Int.toNat (IntKind.wrap .i64 (y1.2.2.1 + (imax x.2 (0 : Int)))) : Nat) : Int))) then (
  bif lim (0 + (List.length (List.drop (Int.toNat y1.2.2.1) (List.take (Int.toNat (IntKind.wrap .i64 (y1.2.2.1 + (imax x.2 (0 : Int))))) y1.2.1)))) then some (List.append ([] : List Int) (List.drop (Int.toNat y1.2.2.1) (List.take (Int.toNat (IntKind.wrap .i64 (y1.2.2.1 + (imax x.2 (0 : Int))))) y1.2.1)), (y1.2.1, (IntKind.wrap .i64 (y1.2.2.1 + (imax x.2 (0 : Int))), y1.2.2.2)))
  else none)
  else none)
  else none))

noncomputable def S_kinoraref2_Octets_Take : FSem := ⟨[.r (.pair (.list false (.int .u8)) (.pair (.int .i64) (.pair (.int .i64) .unit))), .v (.int .i64)], [.o (.int .u8)], F_kinoraref2_Octets_Take⟩
def H37 : Hints := ⟨[], [], [(7, [.q, .q, .q, .q, .q, .q, .q, .q, .q, .q, .q, .q, .q, .v, .v, .v, .x, .x])]⟩
noncomputable def cx37 : Cx := ⟨ptrT, eqT0, T0, fun f => find [(36, S_kinoraref2_Octets_Left)] f, fun d => find ([] : List (Nat × Ty)) d, fun i => ([0, 1, 4, 5] : List Nat).contains i, fun i => ([] : List Nat).contains i⟩
set_option maxRecDepth 100000 in
theorem eq37 (x) : arun cx37 H37 Try.f37 S_kinoraref2_Octets_Take.ps S_kinoraref2_Octets_Take.rs x = S_kinoraref2_Octets_Take.F x := by kernel_rfl

/- (*kinora/kinoraref2.Octets).Small -/
noncomputable def F_kinoraref2_Octets_Small_l0 (st : (Int × (Int × ((List Int) × (((List Int) × (Int × (Int × Unit))) × Unit))))) : Option ((Int × (Int × ((List Int) × (((List Int) × (Int × (Int × Unit))) × Unit)))) ⊕ (Int × (((List Int) × (Int × (Int × Unit))) × Unit))) :=
  bif decide (st.2.1 ≥ (0 : Int)) then (
  bif (decide ((0 : Int) ≤ st.2.1)) && (decide (st.2.1 < ((List.length st.2.2.1 : Nat) : Int))) then some (.inl (bits .u64 .or (gshl .u64 st.1 (8 : Int)) (IntKind.wrap .u64 (List.getD st.2.2.1 (Int.toNat st.2.1) (0 : Int))), (IntKind.wrap .i64 (st.2.1 - (1 : Int)), (st.2.2.1, (st.2.2.2.1, ())))))
  else none)
  else some (.inr (st.1, (st.2.2.2.1, ())))

noncomputable def F_kinoraref2_Octets_Small (x : (((List Int) × (Int × (Int × Unit))) × Int)) : Option (Int × ((List Int) × (Int × (Int × Unit)))) :=
  (F_kinoraref2_Octets_Take (x.1, imin x.2 (8 : Int))).bind fun y1 =>
  (iter F_kinoraref2_Octets_Small_l0 ((0 : Int), (IntKind.wrap .i64 (((List.length y1.1 : Nat) : Int) - (1 : Int)), (y1.1, (y1.2, ()))))).bind fun w2 =>
  some (w2.1, w2.2.1)

noncomputable def S_kinoraref2_Octets_Small : FSem := ⟨[.r (.pair (.list false (.int .u8)) (.pair (.int .i64) (.pair (.int .i64) .unit))), .v (.int .i64)], [.v (.int .u64)], F_kinoraref2_Octets_Small⟩
def H35 : Hints := ⟨[(122, [.sv 6 (.int .u64), .sv 7 (.int .i64), .own 5 5 (.int .u8), .box 1000000 (.pair (.list false (.int .u8)) (.pair (.int .i64) (.pair (.int .i64) .unit)))], [(.exit 0, [.sv 6 (.int .u64), .box 1000000 (.pair (.list false (.int .u8)) (.pair (.int .i64) (.pair (.int .i64) .unit)))])])], [], []⟩
noncomputable def cx35 : Cx := ⟨ptrT, eqT0, T0, fun f => find [(37, S_kinoraref2_Octets_Take)] f, fun d => find ([] : List (Nat × Ty)) d, fun i => ([0, 1, 4, 5, 6, 7] : List Nat).contains i, fun i => ([] : List Nat).contains i⟩
set_option maxRecDepth 100000 in
theorem eq35 (x) : arun cx35 H35 Try.f35 S_kinoraref2_Octets_Small.ps S_kinoraref2_Octets_Small.rs x = S_kinoraref2_Octets_Small.F x := by kernel_rfl

/- kinora/kinoraref19.format -/
noncomputable def F_kinoraref19_format (x : (List Int)) : Option ((Int × (Int × (Int × Unit))) × Bool) :=
  bif decide (((List.length x : Nat) : Int) < (16 : Int)) then some (((0 : Int), ((0 : Int), ((0 : Int), ()))), false)
  else (
  (F_kinoraref2_NewOctets x).bind fun y1 =>
  (F_kinoraref2_Octets_Small (y1, (2 : Int))).bind fun y2 =>
  (F_kinoraref2_Octets_Small (y2.2, (2 : Int))).bind fun y3 =>
  (F_kinoraref2_Octets_Small (y3.2, (4 : Int))).bind fun y4 =>
  (F_kinoraref2_Octets_Small (y4.2, (4 : Int))).bind fun y5 =>
  (F_kinoraref2_Octets_Small (y5.2, (2 : Int))).bind fun y6 =>
  (F_kinoraref2_Octets_Small (y6.2, (2 : Int))).bind fun y7 =>
  (show Option (Bool × ((Int × (Int × (Int × Unit))) × ((Int × (Int × (Int × Unit))) × Unit))) from
  bif y2.1 != (1 : Int) then some (true, (((0 : Int), ((0 : Int), ((0 : Int), ()))), ((IntKind.wrap .i64 y4.1, (IntKind.wrap .i64 y3.1, (IntKind.wrap .i64 y7.1, ()))), ())))
  else (
  (F_kinoraref14_Right (IntKind.wrap .i64 y4.1, (IntKind.wrap .i64 y3.1, (IntKind.wrap .i64 y7.1, ())))).bind fun y8 =>
  bif !y8 then some (true, (((0 : Int), ((0 : Int), ((0 : Int), ()))), ((IntKind.wrap .i64 y4.1, (IntKind.wrap .i64 y3.1, (IntKind.wrap .i64 y7.1, ()))), ())))
  else (
  (F_kinoraref19_containers (IntKind.wrap .i64 y7.1)).bind fun y9 =>
  bif !y9 then some (true, (((0 : Int), ((0 : Int), ((0 : Int), ()))), ((IntKind.wrap .i64 y4.1, (IntKind.wrap .i64 y3.1, (IntKind.wrap .i64 y7.1, ()))), ())))
  else (
  bif (IntKind.wrap .i64 y6.1) != (IntKind.wrap .i64 (Int.tdiv (IntKind.wrap .i64 ((IntKind.wrap .i64 y3.1) * (IntKind.wrap .i64 y7.1))) (8 : Int))) then some (true, (((0 : Int), ((0 : Int), ((0 : Int), ()))), ((IntKind.wrap .i64 y4.1, (IntKind.wrap .i64 y3.1, (IntKind.wrap .i64 y7.1, ()))), ())))
  else some ((IntKind.wrap .i64 y5.1) != (IntKind.wrap .i64 ((IntKind.wrap .i64 y4.1) * (IntKind.wrap .i64 y6.1))), (((0 : Int), ((0 : Int), ((0 : Int), ()))), ((IntKind.wrap .i64 y4.1, (IntKind.wrap .i64 y3.1, (IntKind.wrap .i64 y7.1, ()))), ()))))))).bind fun z10 =>
  bif z10.1 then some (((0 : Int), ((0 : Int), ((0 : Int), ()))), false)
  else some (z10.2.2.1, true))

noncomputable def S_kinoraref19_format : FSem := ⟨[.v (.list false (.int .u8))], [.v (.pair (.int .i64) (.pair (.int .i64) (.pair (.int .i64) .unit))), .v .bool], F_kinoraref19_format⟩
def H38 : Hints := ⟨[], [(510, [(.normal, [.sv 64 .bool, .box 2 (.pair (.int .i64) (.pair (.int .i64) (.pair (.int .i64) .unit))), .box 6 (.pair (.int .i64) (.pair (.int .i64) (.pair (.int .i64) .unit))), .ptr 2 2 [], .ptr 6 6 []])])], []⟩
noncomputable def cx38 : Cx := ⟨ptrT, eqT0, T0, fun f => find [(26, S_kinoraref14_Right), (27, S_kinoraref19_containers), (34, S_kinoraref2_NewOctets), (35, S_kinoraref2_Octets_Small)] f, fun d => find ([] : List (Nat × Ty)) d, fun i => ([0, 3, 4, 5, 7, 8] : List Nat).contains i, fun i => ([] : List Nat).contains i⟩
set_option maxRecDepth 100000 in
theorem eq38 (x) : arun cx38 H38 Try.f38 S_kinoraref19_format.ps S_kinoraref19_format.rs x = S_kinoraref19_format.F x := by kernel_rfl

/- kinora/kinoraref2.Unpack -/
noncomputable def F_kinoraref2_Unpack_l0 (st : (Int × (Int × ((List Int) × (((List Int) × (Int × (Int × Unit))) × Unit))))) : Option ((Int × (Int × ((List Int) × (((List Int) × (Int × (Int × Unit))) × Unit)))) ⊕ (((List Int) × Unit) ⊕ (Int × ((List Int) × Unit)))) :=
  (F_kinoraref2_Octets_Left st.2.2.2.1).bind fun y3 =>
  bif decide (y3.1 > (0 : Int)) then (
  (F_kinoraref2_Octets_Small (y3.2, st.2.1)).bind fun y4 =>
  bif decide ((IntKind.wrap .u64 (IntKind.wrap .i64 ((64 : Int) - (IntKind.wrap .i64 ((8 : Int) * st.2.1))))) < 0) then none
  else (
  bif decide ((IntKind.wrap .u64 (IntKind.wrap .i64 ((64 : Int) - (IntKind.wrap .i64 ((8 : Int) * st.2.1))))) < 0) then none
  else (
  (F_kinoraref2_Fits (gshr .i64 (IntKind.wrap .i64 (gshl .u64 y4.1 (IntKind.wrap .u64 (IntKind.wrap .i64 ((64 : Int) - (IntKind.wrap .i64 ((8 : Int) * st.2.1))))))) (IntKind.wrap .u64 (IntKind.wrap .i64 ((64 : Int) - (IntKind.wrap .i64 ((8 : Int) * st.2.1))))), st.1)).bind fun y5 =>
  bif !y5 then some (.inr (Sum.inr (((6 : Int), (([] : (List Int)), ())))))
  else (
  bif lim ((List.length st.2.2.1) + 1) then some (.inl (st.1, (st.2.1, (List.append st.2.2.1 ([gshr .i64 (IntKind.wrap .i64 (gshl .u64 y4.1 (IntKind.wrap .u64 (IntKind.wrap .i64 ((64 : Int) - (IntKind.wrap .i64 ((8 : Int) * st.2.1))))))) (IntKind.wrap .u64 (IntKind.wrap .i64 ((64 : Int) - (IntKind.wrap .i64 ((8 : Int) * st.2.1)))))] : List Int), (y4.2, ())))))
  else none))))
  else some (.inr (Sum.inl (st.2.2.1, ())))

noncomputable def F_kinoraref2_Unpack (x : ((List Int) × Int)) : Option ((List Int) × Int) :=
  (F_kinoraref2_depth x.2).bind fun y1 =>
  bif !y1 then some (([] : (List Int)), (1 : Int))
  else (
  bif (IntKind.wrap .i64 (Int.tdiv (IntKind.wrap .i64 (x.2 + (7 : Int))) (8 : Int))) == 0 then none
  else (
  bif (Int.tmod ((List.length x.1 : Nat) : Int) (IntKind.wrap .i64 (Int.tdiv (IntKind.wrap .i64 (x.2 + (7 : Int))) (8 : Int)))) != (0 : Int) then some (([] : (List Int)), (3 : Int))
  else (
  (F_kinoraref2_NewOctets x.1).bind fun y2 =>
  (iter F_kinoraref2_Unpack_l0 (x.2, (IntKind.wrap .i64 (Int.tdiv (IntKind.wrap .i64 (x.2 + (7 : Int))) (8 : Int)), (([] : (List Int)), (y2, ()))))).bind fun w6 =>
  match w6 with
  | .inl a7 => some (a7.1, (0 : Int))
  | .inr b8 => some (b8.2.1, b8.1))))

noncomputable def S_kinoraref2_Unpack : FSem := ⟨[.v (.list false (.int .u8)), .v (.int .i64)], [.o (.int .i64), .v (.int .i64)], F_kinoraref2_Unpack⟩
def H51 : Hints := ⟨[(508, [.sv 1 (.int .i64), .sv 6 (.int .i64), .own 7 7 (.int .i64), .box 1022 (.pair (.list false (.int .u8)) (.pair (.int .i64) (.pair (.int .i64) .unit))), .ptr 8 1022 []], [(.exit 0, [.own 7 7 (.int .i64)]), (.ret, [.sv 5 (.int .i64), .own 4 4 (.int .i64)])])], [], []⟩
noncomputable def cx51 : Cx := ⟨ptrT, eqT0, T0, fun f => find [(34, S_kinoraref2_NewOctets), (35, S_kinoraref2_Octets_Small), (36, S_kinoraref2_Octets_Left), (46, S_kinoraref2_depth), (47, S_kinoraref2_Fits)] f, fun d => find ([] : List (Nat × Ty)) d, fun i => ([0, 1, 4, 5, 6, 7, 8, 9] : List Nat).contains i, fun i => ([] : List Nat).contains i⟩
set_option maxRecDepth 100000 in
theorem eq51 (x) : arun cx51 H51 Try.f51 S_kinoraref2_Unpack.ps S_kinoraref2_Unpack.rs x = S_kinoraref2_Unpack.F x := by kernel_rfl

/- kinora/kinoraref19.samples -/
noncomputable def F_kinoraref19_samples_l0 (st : ((List Int) × (Int × ((List Int) × Unit)))) : Option (((List Int) × (Int × ((List Int) × Unit))) ⊕ ((List Int) × Unit)) :=
  bif decide (st.2.1 < ((List.length st.1 : Nat) : Int)) then (
  (gidx st.1 st.2.1).bind fun x2 =>
  bif lim ((List.length st.2.2.1) + 1) then some (.inl (st.1, (IntKind.wrap .i64 (st.2.1 + (1 : Int)), (List.append st.2.2.1 ([IntKind.wrap .i64 ((IntKind.wrap .i64 x2) - (128 : Int))] : List Int), ()))))
  else none)
  else some (.inr (st.2.2.1, ()))

noncomputable def F_kinoraref19_samples (x : ((List Int) × (Int × (Int × (Int × Unit))))) : Option ((List Int) × Int) :=
  bif (IntKind.wrap .i64 (Int.tdiv (IntKind.wrap .i64 (x.2.2.1 * x.2.2.2.1)) (8 : Int))) == 0 then none
  else (
  bif (Int.tmod ((List.length x.1 : Nat) : Int) (IntKind.wrap .i64 (Int.tdiv (IntKind.wrap .i64 (x.2.2.1 * x.2.2.2.1)) (8 : Int)))) != (0 : Int) then some (([] : (List Int)), (3 : Int))
  else (
  bif (IntKind.wrap .i64 (Int.tdiv (IntKind.wrap .i64 (x.2.2.1 * x.2.2.2.1)) (8 : Int))) == 0 then none
  else (
  bif decide ((IntKind.wrap .i64 (Int.tdiv ((List.length x.1 : Nat) : Int) (IntKind.wrap .i64 (Int.tdiv (IntKind.wrap .i64 (x.2.2.1 * x.2.2.2.1)) (8 : Int))))) > (4194304 : Int)) then some (([] : (List Int)), (4 : Int))
  else (
  bif decide (x.2.2.2.1 > (8 : Int)) then (
  (F_kinoraref2_Unpack (x.1, x.2.2.2.1)).bind fun y1 =>
  some (y1.1, y1.2))
  else (
  (iter F_kinoraref19_samples_l0 (x.1, ((0 : Int), (([] : (List Int)), ())))).bind fun w3 =>
  some (w3.1, (0 : Int)))))))

noncomputable def S_kinoraref19_samples : FSem := ⟨[.v (.list false (.int .u8)), .v (.pair (.int .i64) (.pair (.int .i64) (.pair (.int .i64) .unit)))], [.o (.int .i64), .v (.int .i64)], F_kinoraref19_samples⟩
def H39 : Hints := ⟨[(506, [.sv 0 (.list false (.int .u8)), .sv 7 (.int .i64), .own 6 6 (.int .i64)], [(.exit 0, [.own 6 6 (.int .i64)])])], [], []⟩
noncomputable def cx39 : Cx := ⟨ptrT, eqT0, T0, fun f => find [(51, S_kinoraref2_Unpack)] f, fun d => find ([] : List (Nat × Ty)) d, fun i => ([0, 1, 4, 5, 6, 7] : List Nat).contains i, fun i => ([3] : List Nat).contains i⟩
set_option maxRecDepth 100000 in
theorem eq39 (x) : arun cx39 H39 Try.f39 S_kinoraref19_samples.ps S_kinoraref19_samples.rs x = S_kinoraref19_samples.F x := by kernel_rfl

/- kinora/kinoraref19.WaveParse -/
noncomputable def F_kinoraref19_WaveParse_l0 (st : ((List Int) × (Bool × (Bool × ((Int × (Int × (Int × Unit))) × (((List Int) × (Int × (Int × Unit))) × ((Int × (Int × (Int × Unit))) × Unit))))))) : Option (((List Int) × (Bool × (Bool × ((Int × (Int × (Int × Unit))) × (((List Int) × (Int × (Int × Unit))) × ((Int × (Int × (Int × Unit))) × Unit)))))) ⊕ (((List Int) × (Bool × (Bool × ((Int × (Int × (Int × Unit))) × ((Int × (Int × (Int × Unit))) × Unit))))) ⊕ ((List Int) × (Int × ((Int × (Int × (Int × Unit))) × Unit))))) :=
  (F_kinoraref2_Octets_Left st.2.2.2.2.1).bind fun y6 =>
  bif decide (y6.1 > (0 : Int)) then (
  (F_kinoraref2_Octets_Take (y6.2, (4 : Int))).bind fun y7 =>
  (F_kinoraref2_Octets_Small (y7.2, (4 : Int))).bind fun y8 =>
  (F_kinoraref2_Octets_Take (y8.2, IntKind.wrap .i64 y8.1)).bind fun y9 =>
  (F_kinoraref2_Octets_Take (y9.2, Int.tmod (IntKind.wrap .i64 y8.1) (2 : Int))).bind fun y10 =>
  bif y10.2.2.2.1 != (0 : Int) then some (.inr (Sum.inr ((([] : (List Int)), ((3 : Int), (((0 : Int), ((0 : Int), ((0 : Int), ()))), ()))))))
  else (
  bif (b2s y7.1) == ([102, 109, 116, 32] : List Int) then (
  (F_kinoraref19_format y9.1).bind fun y11 =>
  bif st.2.1 then some (.inr (Sum.inr ((([] : (List Int)), ((8 : Int), (((0 : Int), ((0 : Int), ((0 : Int), ()))), ()))))))
  else (
  bif !y11.2 then some (.inr (Sum.inr ((([] : (List Int)), ((2 : Int), (((0 : Int), ((0 : Int), ((0 : Int), ()))), ()))))))
  else some (.inl (st.1, (true, (st.2.2.1, (st.2.2.2.1, (y10.2, (y11.1, ())))))))))
  else (
  bif (b2s y7.1) == ([100, 97, 116, 97] : List Int) then (
  bif !st.2.1 then some (.inr (Sum.inr ((([] : (List Int)), ((12 : Int), (((0 : Int), ((0 : Int), ((0 : Int), ()))), ()))))))
  else (
  bif st.2.2.1 then some (.inr (Sum.inr ((([] : (List Int)), ((8 : Int), (((0 : Int), ((0 : Int), ((0 : Int), ()))), ()))))))
  else (
  (F_kinoraref19_samples (y9.1, st.2.2.2.2.2.1)).bind fun y12 =>
  bif y12.2 != (0 : Int) then some (.inr (Sum.inr ((([] : (List Int)), (y12.2, (((0 : Int), ((0 : Int), ((0 : Int), ()))), ()))))))
  else some (.inl (y12.1, (st.2.1, (true, (st.2.2.2.1, (y10.2, (st.2.2.2.2.2.1, ()))))))))))
  else some (.inl (st.1, (st.2.1, (st.2.2.1, (st.2.2.2.1, (y10.2, (st.2.2.2.2.2.1, ()))))))))))
  else some (.inr (Sum.inl (st.1, (st.2.1, (st.2.2.1, (st.2.2.2.1, (st.2.2.2.2.2.1, ())))))))

noncomputable def F_kinoraref19_WaveParse (x : (List Int)) : Option ((Int × (Int × (Int × Unit))) × ((List Int) × Int)) :=
  bif decide (((List.length x : Nat) : Int) < (12 : Int)) then some (((0 : Int), ((0 : Int), ((0 : Int), ()))), (([] : (List Int)), (3 : Int)))
  else (
  (show Option ((List Int) × (Bool × ((Int × (Int × (Int × Unit))) × Unit))) from
  bif decide ((4 : Int) ≤ ((List.length x : Nat) : Int)) then (
  bif (b2s (List.take 4 x)) != ([82, 73, 70, 70] : List Int) then some (x, (true, (((0 : Int), ((0 : Int), ((0 : Int), ()))), ())))
  else (
  bif decide ((12 : Int) ≤ ((List.length x : Nat) : Int)) then some (x, ((b2s (List.drop 8 (List.take 12 x))) != ([87, 65, 86, 69] : List Int), (((0 : Int), ((0 : Int), ((0 : Int), ()))), ())))
  else none))
  else none).bind fun z1 =>
  bif z1.2.1 then some (((0 : Int), ((0 : Int), ((0 : Int), ()))), (([] : (List Int)), (2 : Int)))
  else (
  bif decide ((4 : Int) ≤ ((List.length z1.1 : Nat) : Int)) then (
  (F_kinoraref2_NewOctets (List.drop 4 (List.take (List.length z1.1) z1.1))).bind fun y2 =>
  (F_kinoraref2_Octets_Small (y2, (4 : Int))).bind fun y3 =>
  bif decide ((IntKind.wrap .i64 y3.1) < (4 : Int)) then some (((0 : Int), ((0 : Int), ((0 : Int), ()))), (([] : (List Int)), (2 : Int)))
  else (
  (F_kinoraref2_Octets_Left y3.2).bind fun y4 =>
  bif decide ((IntKind.wrap .i64 y3.1) > y4.1) then some (((0 : Int), ((0 : Int), ((0 : Int), ()))), (([] : (List Int)), (3 : Int)))
  else (
  bif (decide ((0 : Int) ≤ (IntKind.wrap .i64 ((4 : Int) + (IntKind.wrap .i64 y3.1))))) && (decide ((IntKind.wrap .i64 ((4 : Int) + (IntKind.wrap .i64 y3.1))) ≤ ((List.length y4.2.1 : Nat) : Int))) then (
  (F_kinoraref2_Octets_Take ((List.take (Int.toNat (IntKind.wrap .i64 ((4 : Int) + (IntKind.wrap .i64 y3.1)))) y4.2.1, y4.2.2), (4 : Int))).bind fun y5 =>
  (iter F_kinoraref19_WaveParse_l0 (([] : (List Int)), (false, (false, (z1.2.2.1, (y5.2, (((0 : Int), ((0 : Int), ((0 : Int), ()))), ()))))))).bind fun w13 =>
  match w13 with
  | .inl a14 => (
  (show Option ((List Int) × (Bool × ((Int × (Int × (Int × Unit))) × ((Int × (Int × (Int × Unit))) × Unit)))) from
  bif !a14.2.1 then some (a14.1, (true, (a14.2.2.2.1, (a14.2.2.2.2.1, ()))))
  else some (a14.1, (!a14.2.2.1, (a14.2.2.2.1, (a14.2.2.2.2.1, ()))))).bind fun z16 =>
  bif z16.2.1 then some (((0 : Int), ((0 : Int), ((0 : Int), ()))), (([] : (List Int)), (7 : Int)))
  else some (z16.2.2.2.1, (z16.1, (0 : Int))))
  | .inr b15 => some (b15.2.2.1, (b15.1, b15.2.1)))
  else none)))
  else none))

noncomputable def S_kinoraref19_WaveParse : FSem := ⟨[.v (.list false (.int .u8))], [.v (.pair (.int .i64) (.pair (.int .i64) (.pair (.int .i64) .unit))), .v (.list false (.int .i64)), .v (.int .i64)], F_kinoraref19_WaveParse⟩
def H14 : Hints := ⟨[(32764, [.sv 8 (.list false (.int .i64)), .sv 9 .bool, .sv 10 .bool, .box 2 (.pair (.int .i64) (.pair (.int .i64) (.pair (.int .i64) .unit))), .box 1035 (.pair (.list false (.int .u8)) (.pair (.int .i64) (.pair (.int .i64) .unit))), .box 7 (.pair (.int .i64) (.pair (.int .i64) (.pair (.int .i64) .unit))), .ptr 2 2 [], .ptr 5 1035 [], .ptr 7 7 []], [(.exit 0, [.sv 8 (.list false (.int .i64)), .sv 9 .bool, .sv 10 .bool, .box 2 (.pair (.int .i64) (.pair (.int .i64) (.pair (.int .i64) .unit))), .box 7 (.pair (.int .i64) (.pair (.int .i64) (.pair (.int .i64) .unit))), .ptr 2 2 [], .ptr 7 7 []]), (.ret, [.sv 3 (.list false (.int .i64)), .sv 4 (.int .i64), .box 2 (.pair (.int .i64) (.pair (.int .i64) (.pair (.int .i64) .unit))), .ptr 2 2 []])])], [(14, [(.normal, [.sv 0 (.list false (.int .u8)), .sv 31 .bool, .box 2 (.pair (.int .i64) (.pair (.int .i64) (.pair (.int .i64) .unit))), .ptr 2 2 []])]), (32766, [(.normal, [.sv 8 (.list false (.int .i64)), .sv 118 .bool, .box 2 (.pair (.int .i64) (.pair (.int .i64) (.pair (.int .i64) .unit))), .box 7 (.pair (.int .i64) (.pair (.int .i64) (.pair (.int .i64) .unit))), .ptr 2 2 [], .ptr 7 7 []])])], []⟩
noncomputable def cx14 : Cx := ⟨ptrT, eqT0, T0, fun f => find [(34, S_kinoraref2_NewOctets), (35, S_kinoraref2_Octets_Small), (36, S_kinoraref2_Octets_Left), (37, S_kinoraref2_Octets_Take), (38, S_kinoraref19_format), (39, S_kinoraref19_samples)] f, fun d => find ([] : List (Nat × Ty)) d, fun i => ([0, 3, 4, 5, 6, 8, 9, 10, 11, 12, 13, 15, 16, 17, 82, 95] : List Nat).contains i, fun i => ([] : List Nat).contains i⟩
set_option maxRecDepth 100000 in
theorem eq14 (x) : arun cx14 H14 Try.f14 S_kinoraref19_WaveParse.ps S_kinoraref19_WaveParse.rs x = S_kinoraref19_WaveParse.F x := by kernel_rfl

/- kinora/kinoralaw18.WaveParses -/
noncomputable def F_kinoralaw18_WaveParses (x : (List Int)) : Option Bool :=
  (F_kinoralaw18_known ()).bind fun y1 =>
  bif !y1 then some false
  else (
  bif decide (((List.length x : Nat) : Int) > (1500 : Int)) then some true
  else (
  (F_wave_Parse x).bind fun y2 =>
  (F_kinoraref19_WaveParse x).bind fun y3 =>
  bif eqT (.pair (.int .i64) (.pair (.int .i64) (.pair (.int .i64) .unit))) y2.1 y3.1 then (
  (F_kinoraref2_SameInts (y2.2.1, y3.2.1)).bind fun y4 =>
  bif y4 then some (y2.2.2 == y3.2.2)
  else some false)
  else some false))

noncomputable def S_kinoralaw18_WaveParses : FSem := ⟨[.v (.list false (.int .u8))], [.v .bool], F_kinoralaw18_WaveParses⟩
def H4 : Hints := ⟨[], [], []⟩
noncomputable def cx4 : Cx := ⟨ptrT, eqT0, T0, fun f => find [(9, S_kinoralaw18_known), (13, S_wave_Parse), (14, S_kinoraref19_WaveParse), (15, S_kinoraref2_SameInts)] f, fun d => find ([] : List (Nat × Ty)) d, fun i => ([0, 2, 4, 5, 7, 8] : List Nat).contains i, fun i => ([] : List Nat).contains i⟩
set_option maxRecDepth 100000 in
theorem eq4 (x) : arun cx4 H4 Try.f4 S_kinoralaw18_WaveParses.ps S_kinoralaw18_WaveParses.rs x = S_kinoralaw18_WaveParses.F x := by kernel_rfl

/- kinora/kinoralaw17.Fits -/
noncomputable def F_kinoralaw17_Fits_l0 (st : ((List Int) × (Int × ((Int × (Int × (Int × Unit))) × Unit)))) : Option (((List Int) × (Int × ((Int × (Int × (Int × Unit))) × Unit))) ⊕ (Unit ⊕ (Bool × Unit))) :=
  bif decide (st.2.1 < ((List.length st.1 : Nat) : Int)) then (
  (gidx st.1 st.2.1).bind fun x3 =>
  (F_kinoraref2_Fits (x3, st.2.2.1.2.2.1)).bind fun y4 =>
  bif !y4 then some (.inr (Sum.inr ((false, ()))))
  else some (.inl (st.1, (IntKind.wrap .i64 (st.2.1 + (1 : Int)), (st.2.2.1, ())))))
  else some (.inr (Sum.inl ()))

noncomputable def F_kinoralaw17_Fits (x : ((Int × (Int × (Int × Unit))) × ((List Int) × Int))) : Option Bool :=
  (show Option ((List Int) × (Bool × ((Int × (Int × (Int × Unit))) × Unit))) from
  (F_kinoraref14_Right x.1).bind fun y1 =>
  bif !y1 then some (x.2.1, (true, (x.1, ())))
  else (
  bif decide (((List.length x.2.1 : Nat) : Int) > x.2.2) then some (x.2.1, (true, (x.1, ())))
  else (
  bif x.1.2.1 == 0 then none
  else some (x.2.1, ((Int.tmod ((List.length x.2.1 : Nat) : Int) x.1.2.1) != (0 : Int), (x.1, ())))))).bind fun z2 =>
  bif z2.2.1 then some false
  else (
  (iter F_kinoralaw17_Fits_l0 (z2.1, ((0 : Int), (z2.2.2.1, ())))).bind fun w5 =>
  match w5 with
  | .inl a6 => some true
  | .inr b7 => some b7.1)

noncomputable def S_kinoralaw17_Fits : FSem := ⟨[.v (.pair (.int .i64) (.pair (.int .i64) (.pair (.int .i64) .unit))), .v (.list false (.int .i64)), .v (.int .i64)], [.v .bool], F_kinoralaw17_Fits⟩
def H40 : Hints := ⟨[(58, [.sv 1 (.list false (.int .i64)), .sv 7 (.int .i64), .vp 3 (.pair (.int .i64) (.pair (.int .i64) (.pair (.int .i64) .unit)))], [(.exit 0, []), (.ret, [.sv 6 .bool])])], [(6, [(.normal, [.sv 1 (.list false (.int .i64)), .sv 24 .bool, .vp 3 (.pair (.int .i64) (.pair (.int .i64) (.pair (.int .i64) .unit)))])])], [(6, [.v, .v, .v, .v, .v, .v, .x, .x])]⟩
noncomputable def cx40 : Cx := ⟨ptrT, eqT0, T0, fun f => find [(26, S_kinoraref14_Right), (47, S_kinoraref2_Fits)] f, fun d => find ([] : List (Nat × Ty)) d, fun i => ([0, 1, 2, 6, 7] : List Nat).contains i, fun i => ([3] : List Nat).contains i⟩
set_option maxRecDepth 100000 in
theorem eq40 (x) : arun cx40 H40 Try.f40 S_kinoralaw17_Fits.ps S_kinoralaw17_Fits.rs x = S_kinoralaw17_Fits.F x := by kernel_rfl

/- kinora/kinoralaw18.waves -/
noncomputable def F_kinoralaw18_waves (x : ((Int × (Int × (Int × Unit))) × ((List Int) × Int))) : Option Bool :=
  (F_kinoralaw17_Fits (x.1, (x.2.1, x.2.2))).bind fun y1 =>
  bif y1 then (
  bif x.1.2.2.1 == (8 : Int) then some true
  else (
  bif x.1.2.2.1 == (16 : Int) then some true
  else some (x.1.2.2.1 == (24 : Int))))
  else some false

noncomputable def S_kinoralaw18_waves : FSem := ⟨[.v (.pair (.int .i64) (.pair (.int .i64) (.pair (.int .i64) .unit))), .v (.list false (.int .i64)), .v (.int .i64)], [.v .bool], F_kinoralaw18_waves⟩
def H16 : Hints := ⟨[], [], []⟩
noncomputable def cx16 : Cx := ⟨ptrT, eqT0, T0, fun f => find [(40, S_kinoralaw17_Fits)] f, fun d => find ([] : List (Nat × Ty)) d, fun i => ([0, 1, 2, 6] : List Nat).contains i, fun i => ([3] : List Nat).contains i⟩
set_option maxRecDepth 100000 in
theorem eq16 (x) : arun cx16 H16 Try.f16 S_kinoralaw18_waves.ps S_kinoralaw18_waves.rs x = S_kinoralaw18_waves.F x := by kernel_rfl

/- kinora/kinoralaw18.WaveBack -/
noncomputable def F_kinoralaw18_WaveBack (x : ((Int × (Int × (Int × Unit))) × ((List Int) × (List Int)))) : Option Bool :=
  (F_kinoralaw18_known ()).bind fun y1 =>
  bif !y1 then some false
  else (
  (show Option ((List Int) × ((List Int) × (Bool × ((Int × (Int × (Int × Unit))) × Unit)))) from
  (F_kinoralaw18_waves (x.1, (x.2.1, (400 : Int)))).bind fun y2 =>
  bif !y2 then some (x.2.1, (x.2.2, (true, (x.1, ()))))
  else some (x.2.1, (x.2.2, (decide (((List.length x.2.2 : Nat) : Int) > (50 : Int)), (x.1, ()))))).bind fun z3 =>
  bif z3.2.2.1 then some true
  else (
  (F_wave_Print (z3.2.2.2.1, z3.1)).bind fun y4 =>
  bif lim (0 + (List.length y4.1)) then (
  bif lim ((List.length (List.append ([] : List Int) y4.1)) + (List.length z3.2.1)) then (
  (F_wave_Parse (List.append (List.append ([] : List Int) y4.1) z3.2.1)).bind fun y5 =>
  bif y4.2 == (0 : Int) then (
  bif y5.2.2 == (0 : Int) then (
  bif eqT (.pair (.int .i64) (.pair (.int .i64) (.pair (.int .i64) .unit))) z3.2.2.2.1 y5.1 then (
  (F_kinoraref2_SameInts (z3.1, y5.2.1)).bind fun y6 =>
  some y6)
  else some false)
  else some false)
  else some false)
  else none)
  else none))

noncomputable def S_kinoralaw18_WaveBack : FSem := ⟨[.v (.pair (.int .i64) (.pair (.int .i64) (.pair (.int .i64) .unit))), .v (.list false (.int .i64)), .v (.list false (.int .u8))], [.v .bool], F_kinoralaw18_WaveBack⟩
def H5 : Hints := ⟨[], [(14, [(.normal, [.sv 1 (.list false (.int .i64)), .sv 2 (.list false (.int .u8)), .sv 22 .bool, .vp 3 (.pair (.int .i64) (.pair (.int .i64) (.pair (.int .i64) .unit)))])])], []⟩
noncomputable def cx5 : Cx := ⟨ptrT, eqT0, T0, fun f => find [(9, S_kinoralaw18_known), (10, S_wave_Print), (13, S_wave_Parse), (15, S_kinoraref2_SameInts), (16, S_kinoralaw18_waves)] f, fun d => find ([] : List (Nat × Ty)) d, fun i => ([0, 1, 2, 6, 7, 8, 10, 11] : List Nat).contains i, fun i => ([3] : List Nat).contains i⟩
set_option maxRecDepth 100000 in
theorem eq5 (x) : arun cx5 H5 Try.f5 S_kinoralaw18_WaveBack.ps S_kinoralaw18_WaveBack.rs x = S_kinoralaw18_WaveBack.F x := by kernel_rfl

/- kinora/kinoralaw18.small -/
noncomputable def F_kinoralaw18_small (x : Int) : Option (List Int) :=
  (F_kinoraref2_Small (IntKind.wrap .u64 x, (4 : Int))).bind fun y1 =>
  some y1

noncomputable def S_kinoralaw18_small : FSem := ⟨[.v (.int .i64)], [.o (.int .u8)], F_kinoralaw18_small⟩
def H18 : Hints := ⟨[], [], []⟩
noncomputable def cx18 : Cx := ⟨ptrT, eqT0, T0, fun f => find [(19, S_kinoraref2_Small)] f, fun d => find ([] : List (Nat × Ty)) d, fun i => ([0, 2] : List Nat).contains i, fun i => ([] : List Nat).contains i⟩
set_option maxRecDepth 100000 in
theorem eq18 (x) : arun cx18 H18 Try.f18 S_kinoralaw18_small.ps S_kinoralaw18_small.rs x = S_kinoralaw18_small.F x := by kernel_rfl

/- kinora/kinoralaw18.chunk -/
noncomputable def F_kinoralaw18_chunk (x : (List Int)) : Option (List Int) :=
  (F_kinoralaw18_small ((List.length x : Nat) : Int)).bind fun y1 =>
  bif lim (4 + (List.length y1)) then (
  bif lim ((List.length (List.append ([(76 : Int), (73 : Int), (83 : Int), (84 : Int)] : List Int) y1)) + (List.length x)) then (
  (show Option ((List Int) × Unit) from
  bif (Int.tmod ((List.length x : Nat) : Int) (2 : Int)) == (1 : Int) then (
  bif lim ((List.length (List.append (List.append ([(76 : Int), (73 : Int), (83 : Int), (84 : Int)] : List Int) y1) x)) + 1) then some (List.append (List.append (List.append ([(76 : Int), (73 : Int), (83 : Int), (84 : Int)] : List Int) y1) x) ([(0 : Int)] : List Int), ())
  else none)
  else some (List.append (List.append ([(76 : Int), (73 : Int), (83 : Int), (84 : Int)] : List Int) y1) x, ())).bind fun z2 =>
  some z2.1)
  else none)
  else none

noncomputable def S_kinoralaw18_chunk : FSem := ⟨[.v (.list false (.int .u8))], [.o (.int .u8)], F_kinoralaw18_chunk⟩
def H17 : Hints := ⟨[], [(7, [(.normal, [.own 3 3 (.int .u8)])])], []⟩
noncomputable def cx17 : Cx := ⟨ptrT, eqT0, T0, fun f => find [(18, S_kinoralaw18_small)] f, fun d => find ([] : List (Nat × Ty)) d, fun i => ([0, 2, 3] : List Nat).contains i, fun i => ([] : List Nat).contains i⟩
set_option maxRecDepth 100000 in
theorem eq17 (x) : arun cx17 H17 Try.f17 S_kinoralaw18_chunk.ps S_kinoralaw18_chunk.rs x = S_kinoralaw18_chunk.F x := by kernel_rfl

/- kinora/kinoralaw18.WaveChunks -/
noncomputable def F_kinoralaw18_WaveChunks (x : ((Int × (Int × (Int × Unit))) × ((List Int) × ((List Int) × ((List Int) × (List Int)))))) : Option Bool :=
  (F_kinoralaw18_known ()).bind fun y1 =>
  bif !y1 then some false
  else (
  (show Option ((List Int) × ((List Int) × ((List Int) × ((List Int) × (Bool × ((Int × (Int × (Int × Unit))) × Unit)))))) from
  (F_kinoralaw18_waves (x.1, (x.2.1, (200 : Int)))).bind fun y2 =>
  bif !y2 then some (x.2.1, (x.2.2.1, (x.2.2.2.1, (x.2.2.2.2, (true, (x.1, ()))))))
  else (
  bif decide (((List.length x.2.2.1 : Nat) : Int) > (60 : Int)) then some (x.2.1, (x.2.2.1, (x.2.2.2.1, (x.2.2.2.2, (true, (x.1, ()))))))
  else (
  bif decide (((List.length x.2.2.2.1 : Nat) : Int) > (60 : Int)) then some (x.2.1, (x.2.2.1, (x.2.2.2.1, (x.2.2.2.2, (true, (x.1, ()))))))
  else some (x.2.1, (x.2.2.1, (x.2.2.2.1, (x.2.2.2.2, (decide (((List.length x.2.2.2.2 : Nat) : Int) > (60 : Int)), (x.1, ()))))))))).bind fun z3 =>
  bif z3.2.2.2.2.1 then some true
  else (
  (F_wave_Print (z3.2.2.2.2.2.1, z3.1)).bind fun y4 =>
  (show Option ((List Int) × ((List Int) × ((List Int) × ((List Int) × (Bool × ((List Int) × ((Int × (Int × (Int × Unit))) × Unit))))))) from
  bif y4.2 != (0 : Int) then some (z3.1, (z3.2.1, (z3.2.2.1, (z3.2.2.2.1, (true, (y4.1, (z3.2.2.2.2.2.1, ())))))))
  else some (z3.1, (z3.2.1, (z3.2.2.1, (z3.2.2.2.1, (decide (((List.length y4.1 : Nat) : Int) < (44 : Int)), (y4.1, (z3.2.2.2.2.2.1, ())))))))).bind fun z5 =>
  bif z5.2.2.2.2.1 then some false
  else (
  (F_kinoralaw18_chunk z5.2.1).bind fun y6 =>
  bif lim (4 + (List.length y6)) then (
  bif decide ((36 : Int) ≤ ((List.length z5.2.2.2.2.2.1 : Nat) : Int)) then (
  bif lim ((List.length (List.append ([(87 : Int), (65 : Int), (86 : Int), (69 : Int)] : List Int) y6)) + (List.length (List.take 24 (List.drop 12 z5.2.2.2.2.2.1)))) then (
  (F_kinoralaw18_chunk z5.2.2.1).bind fun y7 =>
  bif lim ((List.length (List.append (List.append ([(87 : Int), (65 : Int), (86 : Int), (69 : Int)] : List Int) y6) (List.take 24 (List.drop 12 z5.2.2.2.2.2.1)))) + (List.length y7)) then (
  bif decide ((36 : Int) ≤ ((List.length z5.2.2.2.2.2.1 : Nat) : Int)) then (
  bif lim ((List.length (List.append (List.append (List.append ([(87 : Int), (65 : Int), (86 : Int), (69 : Int)] : List Int) y6) (List.take 24 (List.drop 12 z5.2.2.2.2.2.1))) y7)) + (List.length (List.take ((List.length z5.2.2.2.2.2.1) - 36) (List.drop 36 z5.2.2.2.2.2.1)))) then (
  (F_kinoralaw18_chunk z5.2.2.2.1).bind fun y8 =>
  bif lim ((List.length (List.append (List.append (List.append (List.append ([(87 : Int), (65 : Int), (86 : Int), (69 : Int)] : List Int) y6) (List.take 24 (List.drop 12 z5.2.2.2.2.2.1))) y7) (List.take ((List.length z5.2.2.2.2.2.1) - 36) (List.drop 36 z5.2.2.2.2.2.1)))) + (List.length y8)) then (
  (F_kinoralaw18_small ((List.length (List.append (List.append (List.append (List.append (List.append ([(87 : Int), (65 : Int), (86 : Int), (69 : Int)] : List Int) y6) (List.take 24 (List.drop 12 z5.2.2.2.2.2.1))) y7) (List.take ((List.length z5.2.2.2.2.2.1) - 36) (List.drop 36 z5.2.2.2.2.2.1))) y8) : Nat) : Int)).bind fun y9 =>
  bif lim (4 + (List.length y9)) then (
  bif lim ((List.length (List.append ([(82 : Int), (73 : Int), (70 : Int), (70 : Int)] : List Int) y9)) + (List.length (List.append (List.append (List.append (List.append (List.append ([(87 : Int), (65 : Int), (86 : Int), (69 : Int)] : List Int) y6) (List.take 24 (List.drop 12 z5.2.2.2.2.2.1))) y7) (List.take ((List.length z5.2.2.2.2.2.1) - 36) (List.drop 36 z5.2.2.2.2.2.1))) y8))) then (
  (F_wave_Parse (List.append (List.append ([(82 : Int), (73 : Int), (70 : Int), (70 : Int)] : List Int) y9) (List.append (List.append (List.append (List.append (List.append ([(87 : Int), (65 : Int), (86 : Int), (69 : Int)] : List Int) y6) (List.take 24 (List.drop 12 z5.2.2.2.2.2.1))) y7) (List.take ((List.length z5.2.2.2.2.2.1) - 36) (List.drop 36 z5.2.2.2.2.2.1))) y8))).bind fun y10 =>
  bif (decide ((0 : Int) ≤ (IntKind.wrap .i64 (((List.length (List.append (List.append ([(82 : Int), (73 : Int), (70 : Int), (70 : Int)] : List Int) y9) (List.append (List.append (List.append (List.append (List.append ([(87 : Int), (65 : Int), (86 : Int), (69 : Int)] : List Int) y6) (List.take 24 (List.drop 12 z5.2.2.2.2.2.1))) y7) (List.take ((List.length z5.2.2.2.2.2.1) - 36) (List.drop 36 z5.2.2.2.2.2.1))) y8)) : Nat) : Int) - (1 : Int))))) && (decide ((IntKind.wrap .i64 (((List.length (List.append (List.append ([(82 : Int), (73 : Int), (70 : Int), (70 : Int)] : List Int) y9) (List.append (List.append (List.append (List.append (List.append ([(87 : Int), (65 : Int), (86 : Int), (69 : Int)] : List Int) y6) (List.take 24 (List.drop 12 z5.2.2.2.2.2.1))) y7) (List.take ((List.length z5.2.2.2.2.2.1) - 36) (List.drop 36 z5.2.2.2.2.2.1))) y8)) : Nat) : Int) - (1 : Int))) ≤ ((List.length (List.append (List.append ([(82 : Int), (73 : Int), (70 : Int), (70 : Int)] : List Int) y9) (List.append (List.append (List.append (List.append (List.append ([(87 : Int), (65 : Int), (86 : Int), (69 : Int)] : List Int) y6) (List.take 24 (List.drop 12 z5.2.2.2.2.2.1))) y7) (List.take ((List.length z5.2.2.2.2.2.1) - 36) (List.drop 36 z5.2.2.2.2.2.1))) y8)) : Nat) : Int))) then (
  (F_wave_Parse (List.take (Int.toNat (IntKind.wrap .i64 (((List.length (List.append (List.append ([(82 : Int), (73 : Int), (70 : Int), (70 : Int)] : List Int) y9) (List.append (List.append (List.append (List.append (List.append ([(87 : Int), (65 : Int), (86 : Int), (69 : Int)] : List Int) y6) (List.take 24 (List.drop 12 z5.2.2.2.2.2.1))) y7) (List.take ((List.length z5.2.2.2.2.2.1) - 36) (List.drop 36 z5.2.2.2.2.2.1))) y8)) : Nat) : Int) - (1 : Int)))) (List.append (List.append ([(82 : Int), (73 : Int), (70 : Int), (70 : Int)] : List Int) y9) (List.append (List.append (List.append (List.append (List.append ([(87 : Int), (65 : Int), (86 : Int), (69 : Int)] : List Int) y6) (List.take 24 (List.drop 12 z5.2.2.2.2.2.1))) y7) (List.take ((List.length z5.2.2.2.2.2.1) - 36) (List.drop 36 z5.2.2.2.2.2.1))) y8)))).bind fun y11 =>
  bif y10.2.2 == (0 : Int) then (
  bif eqT (.pair (.int .i64) (.pair (.int .i64) (.pair (.int .i64) .unit))) z5.2.2.2.2.2.2.1 y10.1 then (
  (F_kinoraref2_SameInts (z5.1, y10.2.1)).bind fun y12 =>
  bif y12 then some (y11.2.2 == (3 : Int))
  else some false)
  else some false)
  else some false)
  else none)
  else none)
  else none)
  else none)
  else none)
  else none)
  else none)
  else none)
  else none)
  else none)))

noncomputable def S_kinoralaw18_WaveChunks : FSem := ⟨[.v (.pair (.int .i64) (.pair (.int .i64) (.pair (.int .i64) .unit))), .v (.list false (.int .i64)), .v (.list false (.int .u8)), .v (.list false (.int .u8)), .v (.list false (.int .u8))], [.v .bool], F_kinoralaw18_WaveChunks⟩
def H6 : Hints := ⟨[], [(14, [(.normal, [.sv 1 (.list false (.int .i64)), .sv 2 (.list false (.int .u8)), .sv 3 (.list false (.int .u8)), .sv 4 (.list false (.int .u8)), .sv 41 .bool, .vp 5 (.pair (.int .i64) (.pair (.int .i64) (.pair (.int .i64) .unit)))])]), (62, [(.normal, [.sv 1 (.list false (.int .i64)), .sv 2 (.list false (.int .u8)), .sv 3 (.list false (.int .u8)), .sv 4 (.list false (.int .u8)), .sv 54 .bool, .own 11 11 (.int .u8), .vp 5 (.pair (.int .i64) (.pair (.int .i64) (.pair (.int .i64) .unit)))])])], []⟩
noncomputable def cx6 : Cx := ⟨ptrT, eqT0, T0, fun f => find [(9, S_kinoralaw18_known), (10, S_wave_Print), (13, S_wave_Parse), (15, S_kinoraref2_SameInts), (16, S_kinoralaw18_waves), (17, S_kinoralaw18_chunk), (18, S_kinoralaw18_small)] f, fun d => find ([] : List (Nat × Ty)) d, fun i => ([0, 1, 2, 3, 4, 10, 11, 12, 13, 14, 16, 17, 19, 20] : List Nat).contains i, fun i => ([5] : List Nat).contains i⟩
set_option maxRecDepth 100000 in
theorem eq6 (x) : arun cx6 H6 Try.f6 S_kinoralaw18_WaveChunks.ps S_kinoralaw18_WaveChunks.rs x = S_kinoralaw18_WaveChunks.F x := by kernel_rfl

/- kinora/kinoralaw18.WaveTwice -/
noncomputable def F_kinoralaw18_WaveTwice (x : ((Int × (Int × (Int × Unit))) × ((List Int) × Int))) : Option Bool :=
  (F_kinoralaw18_known ()).bind fun y1 =>
  bif !y1 then some false
  else (
  (F_kinoralaw18_waves (x.1, (x.2.1, (200 : Int)))).bind fun y2 =>
  bif !y2 then some true
  else (
  (F_wave_Print (x.1, x.2.1)).bind fun y3 =>
  (show Option (Int × (Bool × ((List Int) × Unit))) from
  bif y3.2 != (0 : Int) then some (x.2.2, (true, (y3.1, ())))
  else some (x.2.2, (decide (((List.length y3.1 : Nat) : Int) < (44 : Int)), (y3.1, ())))).bind fun z4 =>
  bif z4.2.1 then some false
  else (
  bif decide ((36 : Int) ≤ ((List.length z4.2.2.1 : Nat) : Int)) then (
  bif decide ((36 : Int) ≤ ((List.length z4.2.2.1 : Nat) : Int)) then (
  (show Option (Int × ((List Int) × Unit)) from
  bif (Int.tmod z4.1 (5 : Int)) == (0 : Int) then (
  bif lim (4 + (List.length (List.take 24 (List.drop 12 z4.2.2.1)))) then (
  bif lim ((List.length (List.append ([(87 : Int), (65 : Int), (86 : Int), (69 : Int)] : List Int) (List.take 24 (List.drop 12 z4.2.2.1)))) + (List.length (List.take ((List.length z4.2.2.1) - 36) (List.drop 36 z4.2.2.1)))) then (
  bif lim ((List.length (List.append (List.append ([(87 : Int), (65 : Int), (86 : Int), (69 : Int)] : List Int) (List.take 24 (List.drop 12 z4.2.2.1))) (List.take ((List.length z4.2.2.1) - 36) (List.drop 36 z4.2.2.1)))) + (List.length (List.take 24 (List.drop 12 z4.2.2.1)))) then some ((8 : Int), (List.append (List.append (List.append ([(87 : Int), (65 : Int), (86 : Int), (69 : Int)] : List Int) (List.take 24 (List.drop 12 z4.2.2.1))) (List.take ((List.length z4.2.2.1) - 36) (List.drop 36 z4.2.2.1))) (List.take 24 (List.drop 12 z4.2.2.1)), ()))
  else none)
  else none)
  else none)
  else (
  bif (Int.tmod z4.1 (5 : Int)) == (1 : Int) then (
  bif lim (4 + (List.length (List.take 24 (List.drop 12 z4.2.2.1)))) then (
  bif lim ((List.length (List.append ([(87 : Int), (65 : Int), (86 : Int), (69 : Int)] : List Int) (List.take 24 (List.drop 12 z4.2.2.1)))) + (List.length (List.take ((List.length z4.2.2.1) - 36) (List.drop 36 z4.2.2.1)))) then (
  bif lim ((List.length (List.append (List.append ([(87 : Int), (65 : Int), (86 : Int), (69 : Int)] : List Int) (List.take 24 (List.drop 12 z4.2.2.1))) (List.take ((List.length z4.2.2.1) - 36) (List.drop 36 z4.2.2.1)))) + (List.length (List.take ((List.length z4.2.2.1) - 36) (List.drop 36 z4.2.2.1)))) then some ((8 : Int), (List.append (List.append (List.append ([(87 : Int), (65 : Int), (86 : Int), (69 : Int)] : List Int) (List.take 24 (List.drop 12 z4.2.2.1))) (List.take ((List.length z4.2.2.1) - 36) (List.drop 36 z4.2.2.1))) (List.take ((List.length z4.2.2.1) - 36) (List.drop 36 z4.2.2.1)), ()))
  else none)
  else none)
  else none)
  else (
  bif (Int.tmod z4.1 (5 : Int)) == (2 : Int) then (
  bif lim (4 + (List.length (List.take ((List.length z4.2.2.1) - 36) (List.drop 36 z4.2.2.1)))) then (
  bif lim ((List.length (List.append ([(87 : Int), (65 : Int), (86 : Int), (69 : Int)] : List Int) (List.take ((List.length z4.2.2.1) - 36) (List.drop 36 z4.2.2.1)))) + (List.length (List.take 24 (List.drop 12 z4.2.2.1)))) then some ((12 : Int), (List.append (List.append ([(87 : Int), (65 : Int), (86 : Int), (69 : Int)] : List Int) (List.take ((List.length z4.2.2.1) - 36) (List.drop 36 z4.2.2.1))) (List.take 24 (List.drop 12 z4.2.2.1)), ()))
  else none)
  else none)
  else (
  bif (Int.tmod z4.1 (5 : Int)) == (3 : Int) then (
  bif lim (4 + (List.length (List.take 24 (List.drop 12 z4.2.2.1)))) then some ((7 : Int), (List.append ([(87 : Int), (65 : Int), (86 : Int), (69 : Int)] : List Int) (List.take 24 (List.drop 12 z4.2.2.1)), ()))
  else none)
  else some ((7 : Int), (([(87 : Int), (65 : Int), (86 : Int), (69 : Int)] : List Int), ())))))).bind fun z5 =>
  (F_kinoralaw18_small ((List.length z5.2.1 : Nat) : Int)).bind fun y6 =>
  bif lim (4 + (List.length y6)) then (
  bif lim ((List.length (List.append ([(82 : Int), (73 : Int), (70 : Int), (70 : Int)] : List Int) y6)) + (List.length z5.2.1)) then (
  (F_wave_Parse (List.append (List.append ([(82 : Int), (73 : Int), (70 : Int), (70 : Int)] : List Int) y6) z5.2.1)).bind fun y7 =>
  bif y7.2.2 == z5.1 then some (((List.length y7.2.1 : Nat) : Int) == (0 : Int))
  else some false)
  else none)
  else none)
  else none)
  else none)))

noncomputable def S_kinoralaw18_WaveTwice : FSem := ⟨[.v (.pair (.int .i64) (.pair (.int .i64) (.pair (.int .i64) .unit))), .v (.list false (.int .i64)), .v (.int .u8)], [.v .bool], F_kinoralaw18_WaveTwice⟩
def H7 : Hints := ⟨[], [(62, [(.normal, [.sv 2 (.int .u8), .sv 34 .bool, .own 7 7 (.int .u8)])]), (511, [(.normal, [.sv 12 (.int .i64), .own 11 11 (.int .u8)])])], [(8, [.q, .q, .q, .q, .q, .x])]⟩
noncomputable def cx7 : Cx := ⟨ptrT, eqT0, T0, fun f => find [(9, S_kinoralaw18_known), (10, S_wave_Print), (13, S_wave_Parse), (16, S_kinoralaw18_waves), (18, S_kinoralaw18_small)] f, fun d => find ([] : List (Nat × Ty)) d, fun i => ([0, 1, 2, 6, 7, 8, 9, 10, 11, 12, 14, 15, 43, 52, 61, 68] : List Nat).contains i, fun i => ([3] : List Nat).contains i⟩
set_option maxRecDepth 100000 in
theorem eq7 (x) : arun cx7 H7 Try.f7 S_kinoralaw18_WaveTwice.ps S_kinoralaw18_WaveTwice.rs x = S_kinoralaw18_WaveTwice.F x := by kernel_rfl

/- kinora/kinoralaw18.WaveSizes -/
noncomputable def F_kinoralaw18_WaveSizes (x : ((Int × (Int × (Int × Unit))) × (List Int))) : Option Bool :=
  (F_kinoralaw18_known ()).bind fun y1 =>
  bif !y1 then some false
  else (
  (F_kinoralaw18_waves (x.1, (x.2, (300 : Int)))).bind fun y2 =>
  bif !y2 then some true
  else (
  (F_wave_Print (x.1, x.2)).bind fun y3 =>
  (show Option (Int × (Bool × ((List Int) × ((Int × (Int × (Int × Unit))) × Unit)))) from
  bif y3.2 != (0 : Int) then some (IntKind.wrap .i64 (Int.tdiv (IntKind.wrap .i64 (((List.length x.2 : Nat) : Int) * x.1.2.2.1)) (8 : Int)), (true, (y3.1, (x.1, ()))))
  else some (IntKind.wrap .i64 (Int.tdiv (IntKind.wrap .i64 (((List.length x.2 : Nat) : Int) * x.1.2.2.1)) (8 : Int)), (((List.length y3.1 : Nat) : Int) != (IntKind.wrap .i64 ((IntKind.wrap .i64 ((44 : Int) + (IntKind.wrap .i64 (Int.tdiv (IntKind.wrap .i64 (((List.length x.2 : Nat) : Int) * x.1.2.2.1)) (8 : Int))))) + (Int.tmod (IntKind.wrap .i64 (Int.tdiv (IntKind.wrap .i64 (((List.length x.2 : Nat) : Int) * x.1.2.2.1)) (8 : Int))) (2 : Int)))), (y3.1, (x.1, ()))))).bind fun z4 =>
  bif z4.2.1 then some false
  else (
  bif decide ((8 : Int) ≤ ((List.length z4.2.2.1 : Nat) : Int)) then (
  (F_kinoralaw18_small (IntKind.wrap .i64 (((List.length z4.2.2.1 : Nat) : Int) - (8 : Int)))).bind fun y5 =>
  (F_kinoraref2_Same (List.take 4 (List.drop 4 z4.2.2.1), y5)).bind fun y6 =>
  bif y6 then (
  bif decide ((44 : Int) ≤ ((List.length z4.2.2.1 : Nat) : Int)) then (
  (F_kinoralaw18_small z4.1).bind fun y7 =>
  (F_kinoraref2_Same (List.take 4 (List.drop 40 z4.2.2.1), y7)).bind fun y8 =>
  bif y8 then (
  bif decide ((34 : Int) ≤ ((List.length z4.2.2.1 : Nat) : Int)) then (
  (F_kinoraref2_Small (IntKind.wrap .u64 (IntKind.wrap .i64 (Int.tdiv (IntKind.wrap .i64 (z4.2.2.2.1.2.1 * z4.2.2.2.1.2.2.1)) (8 : Int))), (2 : Int))).bind fun y9 =>
  (F_kinoraref2_Same (List.take 2 (List.drop 32 z4.2.2.1), y9)).bind fun y10 =>
  some y10)
  else none)
  else some false)
  else none)
  else some false)
  else none)))

noncomputable def S_kinoralaw18_WaveSizes : FSem := ⟨[.v (.pair (.int .i64) (.pair (.int .i64) (.pair (.int .i64) .unit))), .v (.list false (.int .i64))], [.v .bool], F_kinoralaw18_WaveSizes⟩
def H8 : Hints := ⟨[], [(126, [(.normal, [.sv 7 (.int .i64), .sv 37 .bool, .own 5 5 (.int .u8), .vp 2 (.pair (.int .i64) (.pair (.int .i64) (.pair (.int .i64) .unit)))])])], [(9, [.q, .q, .q, .q, .v, .q, .x, .x, .q, .q, .v, .q, .x, .x, .x, .q, .q, .v, .v, .v, .v, .v, .v, .v, .q, .x, .x, .x])]⟩
noncomputable def cx8 : Cx := ⟨ptrT, eqT0, T0, fun f => find [(9, S_kinoralaw18_known), (10, S_wave_Print), (12, S_kinoraref2_Same), (16, S_kinoralaw18_waves), (18, S_kinoralaw18_small), (19, S_kinoraref2_Small)] f, fun d => find ([] : List (Nat × Ty)) d, fun i => ([0, 1, 4, 5, 6, 7] : List Nat).contains i, fun i => ([2] : List Nat).contains i⟩
set_option maxRecDepth 100000 in
theorem eq8 (x) : arun cx8 H8 Try.f8 S_kinoralaw18_WaveSizes.ps S_kinoralaw18_WaveSizes.rs x = S_kinoralaw18_WaveSizes.F x := by kernel_rfl

end Go.Ab
