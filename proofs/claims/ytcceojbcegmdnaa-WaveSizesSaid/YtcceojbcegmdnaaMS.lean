import Derived.KernelRfl
import Derived.Test.YtcceojbcegmdnaaMF
import Derived.Test.YtcceojbcegmdnaaMD
/- The functions compute it. Conditions: none (printed by a program). -/
namespace Go.Ab
open Go.Proofs
set_option maxRecDepth 100000
theorem mixed : Try.prog.follows .mixedOrders = true := by kernel_rfl
theorem tab1 : tabOk Try.prog tyTab = true := by kernel_rfl
theorem tab2 : ptrOk Try.prog ptrTab = true := by kernel_rfl
theorem tab3 : eqsOk Try.prog tyTab eqTab = true := by kernel_rfl
theorem laidOut : laidOutB Try.prog = true := by kernel_rfl
theorem fs52 : FSound Try.prog 52 S_block_depth ∧ Bodied Try.prog 52 :=
  ⟨FSound.of (CxOk.of (CxTy.of (cx := cx52) (tab := tyTab) (l := eqTab) (q := ptrTab) (fun _ => rfl) (fun _ => rfl) (fun _ => rfl) tab1 tab2 tab3) (fun _ => rfl) all_nil) mixed Try.func52 rfl (by kernel_rfl) eq52, ⟨_, _, Try.func52, rfl, by kernel_rfl⟩⟩

theorem fs41 : FSound Try.prog 41 S_block_Right ∧ Bodied Try.prog 41 :=
  ⟨FSound.of (CxOk.of (CxTy.of (cx := cx41) (tab := tyTab) (l := eqTab) (q := ptrTab) (fun _ => rfl) (fun _ => rfl) (fun _ => rfl) tab1 tab2 tab3) (fun _ => rfl) (all_cons fs52 all_nil)) mixed Try.func41 rfl (by kernel_rfl) eq41, ⟨_, _, Try.func41, rfl, by kernel_rfl⟩⟩

theorem fs20 : FSound Try.prog 20 S_wave_possible ∧ Bodied Try.prog 20 :=
  ⟨FSound.of (CxOk.of (CxTy.of (cx := cx20) (tab := tyTab) (l := eqTab) (q := ptrTab) (fun _ => rfl) (fun _ => rfl) (fun _ => rfl) tab1 tab2 tab3) (fun _ => rfl) (all_cons fs41 all_nil)) mixed Try.func20 rfl (by kernel_rfl) eq20, ⟨_, _, Try.func20, rfl, by kernel_rfl⟩⟩

theorem fs42 : FSound Try.prog 42 S_sample_Low ∧ Bodied Try.prog 42 :=
  ⟨FSound.of (CxOk.of (CxTy.of (cx := cx42) (tab := tyTab) (l := eqTab) (q := ptrTab) (fun _ => rfl) (fun _ => rfl) (fun _ => rfl) tab1 tab2 tab3) (fun _ => rfl) all_nil) mixed Try.func42 rfl (by kernel_rfl) eq42, ⟨_, _, Try.func42, rfl, by kernel_rfl⟩⟩

theorem fs43 : FSound Try.prog 43 S_sample_High ∧ Bodied Try.prog 43 :=
  ⟨FSound.of (CxOk.of (CxTy.of (cx := cx43) (tab := tyTab) (l := eqTab) (q := ptrTab) (fun _ => rfl) (fun _ => rfl) (fun _ => rfl) tab1 tab2 tab3) (fun _ => rfl) all_nil) mixed Try.func43 rfl (by kernel_rfl) eq43, ⟨_, _, Try.func43, rfl, by kernel_rfl⟩⟩

theorem fs21 : FSound Try.prog 21 S_sample_Fits ∧ Bodied Try.prog 21 :=
  ⟨FSound.of (CxOk.of (CxTy.of (cx := cx21) (tab := tyTab) (l := eqTab) (q := ptrTab) (fun _ => rfl) (fun _ => rfl) (fun _ => rfl) tab1 tab2 tab3) (fun _ => rfl) (all_cons fs42 (all_cons fs43 all_nil))) mixed Try.func21 rfl (by kernel_rfl) eq21, ⟨_, _, Try.func21, rfl, by kernel_rfl⟩⟩

theorem fs44 : FSound Try.prog 44 S_sample_Pack ∧ Bodied Try.prog 44 :=
  ⟨FSound.of (CxOk.of (CxTy.of (cx := cx44) (tab := tyTab) (l := eqTab) (q := ptrTab) (fun _ => rfl) (fun _ => rfl) (fun _ => rfl) tab1 tab2 tab3) (fun _ => rfl) (all_cons fs21 all_nil)) mixed Try.func44 rfl (by kernel_rfl) eq44, ⟨_, _, Try.func44, rfl, by kernel_rfl⟩⟩

theorem fs22 : FSound Try.prog 22 S_wave_printData ∧ Bodied Try.prog 22 :=
  ⟨FSound.of (CxOk.of (CxTy.of (cx := cx22) (tab := tyTab) (l := eqTab) (q := ptrTab) (fun _ => rfl) (fun _ => rfl) (fun _ => rfl) tab1 tab2 tab3) (fun _ => rfl) (all_cons fs44 all_nil)) mixed Try.func22 rfl (by kernel_rfl) eq22, ⟨_, _, Try.func22, rfl, by kernel_rfl⟩⟩

theorem fs45 : FSound Try.prog 45 S_octet_clamp ∧ Bodied Try.prog 45 :=
  ⟨FSound.of (CxOk.of (CxTy.of (cx := cx45) (tab := tyTab) (l := eqTab) (q := ptrTab) (fun _ => rfl) (fun _ => rfl) (fun _ => rfl) tab1 tab2 tab3) (fun _ => rfl) all_nil) mixed Try.func45 rfl (by kernel_rfl) eq45, ⟨_, _, Try.func45, rfl, by kernel_rfl⟩⟩

theorem fs25 : FSound Try.prog 25 S_octet_Small ∧ Bodied Try.prog 25 :=
  ⟨FSound.of (CxOk.of (CxTy.of (cx := cx25) (tab := tyTab) (l := eqTab) (q := ptrTab) (fun _ => rfl) (fun _ => rfl) (fun _ => rfl) tab1 tab2 tab3) (fun _ => rfl) (all_cons fs45 all_nil)) mixed Try.func25 rfl (by kernel_rfl) eq25, ⟨_, _, Try.func25, rfl, by kernel_rfl⟩⟩

theorem fs23 : FSound Try.prog 23 S_wave_chunk ∧ Bodied Try.prog 23 :=
  ⟨FSound.of (CxOk.of (CxTy.of (cx := cx23) (tab := tyTab) (l := eqTab) (q := ptrTab) (fun _ => rfl) (fun _ => rfl) (fun _ => rfl) tab1 tab2 tab3) (fun _ => rfl) (all_cons fs25 all_nil)) mixed Try.func23 rfl (by kernel_rfl) eq23, ⟨_, _, Try.func23, rfl, by kernel_rfl⟩⟩

theorem fs24 : FSound Try.prog 24 S_wave_printFormat ∧ Bodied Try.prog 24 :=
  ⟨FSound.of (CxOk.of (CxTy.of (cx := cx24) (tab := tyTab) (l := eqTab) (q := ptrTab) (fun _ => rfl) (fun _ => rfl) (fun _ => rfl) tab1 tab2 tab3) (fun _ => rfl) (all_cons fs25 all_nil)) mixed Try.func24 rfl (by kernel_rfl) eq24, ⟨_, _, Try.func24, rfl, by kernel_rfl⟩⟩

theorem fs10 : FSound Try.prog 10 S_wave_Print ∧ Bodied Try.prog 10 :=
  ⟨FSound.of (CxOk.of (CxTy.of (cx := cx10) (tab := tyTab) (l := eqTab) (q := ptrTab) (fun _ => rfl) (fun _ => rfl) (fun _ => rfl) tab1 tab2 tab3) (fun _ => rfl) (all_cons fs20 (all_cons fs21 (all_cons fs22 (all_cons fs23 (all_cons fs24 (all_cons fs25 all_nil))))))) mixed Try.func10 rfl (by kernel_rfl) eq10, ⟨_, _, Try.func10, rfl, by kernel_rfl⟩⟩

theorem fs48 : FSound Try.prog 48 S_octet_New ∧ Bodied Try.prog 48 :=
  ⟨FSound.of (CxOk.of (CxTy.of (cx := cx48) (tab := tyTab) (l := eqTab) (q := ptrTab) (fun _ => rfl) (fun _ => rfl) (fun _ => rfl) tab1 tab2 tab3) (fun _ => rfl) all_nil) mixed Try.func48 rfl (by kernel_rfl) eq48, ⟨_, _, Try.func48, rfl, by kernel_rfl⟩⟩

theorem fs56 : FSound Try.prog 56 S_octet_Reader_Left ∧ Bodied Try.prog 56 :=
  ⟨FSound.of (CxOk.of (CxTy.of (cx := cx56) (tab := tyTab) (l := eqTab) (q := ptrTab) (fun _ => rfl) (fun _ => rfl) (fun _ => rfl) tab1 tab2 tab3) (fun _ => rfl) all_nil) mixed Try.func56 rfl (by kernel_rfl) eq56, ⟨_, _, Try.func56, rfl, by kernel_rfl⟩⟩

theorem fs55 : FSound Try.prog 55 S_octet_Reader_Take ∧ Bodied Try.prog 55 :=
  ⟨FSound.of (CxOk.of (CxTy.of (cx := cx55) (tab := tyTab) (l := eqTab) (q := ptrTab) (fun _ => rfl) (fun _ => rfl) (fun _ => rfl) tab1 tab2 tab3) (fun _ => rfl) (all_cons fs56 all_nil)) mixed Try.func55 rfl (by kernel_rfl) eq55, ⟨_, _, Try.func55, rfl, by kernel_rfl⟩⟩

theorem fs49 : FSound Try.prog 49 S_octet_Reader_Small ∧ Bodied Try.prog 49 :=
  ⟨FSound.of (CxOk.of (CxTy.of (cx := cx49) (tab := tyTab) (l := eqTab) (q := ptrTab) (fun _ => rfl) (fun _ => rfl) (fun _ => rfl) tab1 tab2 tab3) (fun _ => rfl) (all_cons fs45 (all_cons fs55 all_nil))) mixed Try.func49 rfl (by kernel_rfl) eq49, ⟨_, _, Try.func49, rfl, by kernel_rfl⟩⟩

theorem fs31 : FSound Try.prog 31 S_wave_number ∧ Bodied Try.prog 31 :=
  ⟨FSound.of (CxOk.of (CxTy.of (cx := cx31) (tab := tyTab) (l := eqTab) (q := ptrTab) (fun _ => rfl) (fun _ => rfl) (fun _ => rfl) tab1 tab2 tab3) (fun _ => rfl) (all_cons fs48 (all_cons fs49 all_nil))) mixed Try.func31 rfl (by kernel_rfl) eq31, ⟨_, _, Try.func31, rfl, by kernel_rfl⟩⟩

theorem fs32 : FSound Try.prog 32 S_wave_parseFormat ∧ Bodied Try.prog 32 :=
  ⟨FSound.of (CxOk.of (CxTy.of (cx := cx32) (tab := tyTab) (l := eqTab) (q := ptrTab) (fun _ => rfl) (fun _ => rfl) (fun _ => rfl) tab1 tab2 tab3) (fun _ => rfl) (all_cons fs20 (all_cons fs31 all_nil))) mixed Try.func32 rfl (by kernel_rfl) eq32, ⟨_, _, Try.func32, rfl, by kernel_rfl⟩⟩

theorem fs50 : FSound Try.prog 50 S_sample_Unpack ∧ Bodied Try.prog 50 :=
  ⟨FSound.of (CxOk.of (CxTy.of (cx := cx50) (tab := tyTab) (l := eqTab) (q := ptrTab) (fun _ => rfl) (fun _ => rfl) (fun _ => rfl) tab1 tab2 tab3) (fun _ => rfl) (all_cons fs21 (all_cons fs43 all_nil))) mixed Try.func50 rfl (by kernel_rfl) eq50, ⟨_, _, Try.func50, rfl, by kernel_rfl⟩⟩

theorem fs33 : FSound Try.prog 33 S_wave_parseData ∧ Bodied Try.prog 33 :=
  ⟨FSound.of (CxOk.of (CxTy.of (cx := cx33) (tab := tyTab) (l := eqTab) (q := ptrTab) (fun _ => rfl) (fun _ => rfl) (fun _ => rfl) tab1 tab2 tab3) (fun _ => rfl) (all_cons fs50 all_nil)) mixed Try.func33 rfl (by kernel_rfl) eq33, ⟨_, _, Try.func33, rfl, by kernel_rfl⟩⟩

theorem fs13 : FSound Try.prog 13 S_wave_Parse ∧ Bodied Try.prog 13 :=
  ⟨FSound.of (CxOk.of (CxTy.of (cx := cx13) (tab := tyTab) (l := eqTab) (q := ptrTab) (fun _ => rfl) (fun _ => rfl) (fun _ => rfl) tab1 tab2 tab3) (fun _ => rfl) (all_cons fs31 (all_cons fs32 (all_cons fs33 all_nil)))) mixed Try.func13 rfl (by kernel_rfl) eq13, ⟨_, _, Try.func13, rfl, by kernel_rfl⟩⟩

theorem fs15 : FSound Try.prog 15 S_kinoraref2_SameInts ∧ Bodied Try.prog 15 :=
  ⟨FSound.of (CxOk.of (CxTy.of (cx := cx15) (tab := tyTab) (l := eqTab) (q := ptrTab) (fun _ => rfl) (fun _ => rfl) (fun _ => rfl) tab1 tab2 tab3) (fun _ => rfl) all_nil) mixed Try.func15 rfl (by kernel_rfl) eq15, ⟨_, _, Try.func15, rfl, by kernel_rfl⟩⟩

theorem fs9 : FSound Try.prog 9 S_kinoralaw18_known ∧ Bodied Try.prog 9 :=
  ⟨FSound.of (CxOk.of (CxTy.of (cx := cx9) (tab := tyTab) (l := eqTab) (q := ptrTab) (fun _ => rfl) (fun _ => rfl) (fun _ => rfl) tab1 tab2 tab3) (fun _ => rfl) (all_cons fs10 (all_cons fs13 (all_cons fs15 all_nil)))) mixed Try.func9 rfl (by kernel_rfl) eq9, ⟨_, _, Try.func9, rfl, by kernel_rfl⟩⟩

theorem fs26 : FSound Try.prog 26 S_kinoraref14_Right ∧ Bodied Try.prog 26 :=
  ⟨FSound.of (CxOk.of (CxTy.of (cx := cx26) (tab := tyTab) (l := eqTab) (q := ptrTab) (fun _ => rfl) (fun _ => rfl) (fun _ => rfl) tab1 tab2 tab3) (fun _ => rfl) all_nil) mixed Try.func26 rfl (by kernel_rfl) eq26, ⟨_, _, Try.func26, rfl, by kernel_rfl⟩⟩

theorem fs27 : FSound Try.prog 27 S_kinoraref19_containers ∧ Bodied Try.prog 27 :=
  ⟨FSound.of (CxOk.of (CxTy.of (cx := cx27) (tab := tyTab) (l := eqTab) (q := ptrTab) (fun _ => rfl) (fun _ => rfl) (fun _ => rfl) tab1 tab2 tab3) (fun _ => rfl) all_nil) mixed Try.func27 rfl (by kernel_rfl) eq27, ⟨_, _, Try.func27, rfl, by kernel_rfl⟩⟩

theorem fs19 : FSound Try.prog 19 S_kinoraref2_Small ∧ Bodied Try.prog 19 :=
  ⟨FSound.of (CxOk.of (CxTy.of (cx := cx19) (tab := tyTab) (l := eqTab) (q := ptrTab) (fun _ => rfl) (fun _ => rfl) (fun _ => rfl) tab1 tab2 tab3) (fun _ => rfl) all_nil) mixed Try.func19 rfl (by kernel_rfl) eq19, ⟨_, _, Try.func19, rfl, by kernel_rfl⟩⟩

theorem fs46 : FSound Try.prog 46 S_kinoraref2_depth ∧ Bodied Try.prog 46 :=
  ⟨FSound.of (CxOk.of (CxTy.of (cx := cx46) (tab := tyTab) (l := eqTab) (q := ptrTab) (fun _ => rfl) (fun _ => rfl) (fun _ => rfl) tab1 tab2 tab3) (fun _ => rfl) all_nil) mixed Try.func46 rfl (by kernel_rfl) eq46, ⟨_, _, Try.func46, rfl, by kernel_rfl⟩⟩

theorem fs53 : FSound Try.prog 53 S_kinoraref2_Low ∧ Bodied Try.prog 53 :=
  ⟨FSound.of (CxOk.of (CxTy.of (cx := cx53) (tab := tyTab) (l := eqTab) (q := ptrTab) (fun _ => rfl) (fun _ => rfl) (fun _ => rfl) tab1 tab2 tab3) (fun _ => rfl) all_nil) mixed Try.func53 rfl (by kernel_rfl) eq53, ⟨_, _, Try.func53, rfl, by kernel_rfl⟩⟩

theorem fs54 : FSound Try.prog 54 S_kinoraref2_High ∧ Bodied Try.prog 54 :=
  ⟨FSound.of (CxOk.of (CxTy.of (cx := cx54) (tab := tyTab) (l := eqTab) (q := ptrTab) (fun _ => rfl) (fun _ => rfl) (fun _ => rfl) tab1 tab2 tab3) (fun _ => rfl) all_nil) mixed Try.func54 rfl (by kernel_rfl) eq54, ⟨_, _, Try.func54, rfl, by kernel_rfl⟩⟩

theorem fs47 : FSound Try.prog 47 S_kinoraref2_Fits ∧ Bodied Try.prog 47 :=
  ⟨FSound.of (CxOk.of (CxTy.of (cx := cx47) (tab := tyTab) (l := eqTab) (q := ptrTab) (fun _ => rfl) (fun _ => rfl) (fun _ => rfl) tab1 tab2 tab3) (fun _ => rfl) (all_cons fs53 (all_cons fs54 all_nil))) mixed Try.func47 rfl (by kernel_rfl) eq47, ⟨_, _, Try.func47, rfl, by kernel_rfl⟩⟩

theorem fs28 : FSound Try.prog 28 S_kinoraref2_Pack ∧ Bodied Try.prog 28 :=
  ⟨FSound.of (CxOk.of (CxTy.of (cx := cx28) (tab := tyTab) (l := eqTab) (q := ptrTab) (fun _ => rfl) (fun _ => rfl) (fun _ => rfl) tab1 tab2 tab3) (fun _ => rfl) (all_cons fs19 (all_cons fs46 (all_cons fs47 all_nil)))) mixed Try.func28 rfl (by kernel_rfl) eq28, ⟨_, _, Try.func28, rfl, by kernel_rfl⟩⟩

theorem fs29 : FSound Try.prog 29 S_kinoraref19_small ∧ Bodied Try.prog 29 :=
  ⟨FSound.of (CxOk.of (CxTy.of (cx := cx29) (tab := tyTab) (l := eqTab) (q := ptrTab) (fun _ => rfl) (fun _ => rfl) (fun _ => rfl) tab1 tab2 tab3) (fun _ => rfl) (all_cons fs19 all_nil)) mixed Try.func29 rfl (by kernel_rfl) eq29, ⟨_, _, Try.func29, rfl, by kernel_rfl⟩⟩

theorem fs30 : FSound Try.prog 30 S_kinoraref19_chunk ∧ Bodied Try.prog 30 :=
  ⟨FSound.of (CxOk.of (CxTy.of (cx := cx30) (tab := tyTab) (l := eqTab) (q := ptrTab) (fun _ => rfl) (fun _ => rfl) (fun _ => rfl) tab1 tab2 tab3) (fun _ => rfl) (all_cons fs29 all_nil)) mixed Try.func30 rfl (by kernel_rfl) eq30, ⟨_, _, Try.func30, rfl, by kernel_rfl⟩⟩

theorem fs11 : FSound Try.prog 11 S_kinoraref19_WavePrint ∧ Bodied Try.prog 11 :=
  ⟨FSound.of (CxOk.of (CxTy.of (cx := cx11) (tab := tyTab) (l := eqTab) (q := ptrTab) (fun _ => rfl) (fun _ => rfl) (fun _ => rfl) tab1 tab2 tab3) (fun _ => rfl) (all_cons fs26 (all_cons fs27 (all_cons fs28 (all_cons fs29 (all_cons fs30 all_nil)))))) mixed Try.func11 rfl (by kernel_rfl) eq11, ⟨_, _, Try.func11, rfl, by kernel_rfl⟩⟩

theorem fs12 : FSound Try.prog 12 S_kinoraref2_Same ∧ Bodied Try.prog 12 :=
  ⟨FSound.of (CxOk.of (CxTy.of (cx := cx12) (tab := tyTab) (l := eqTab) (q := ptrTab) (fun _ => rfl) (fun _ => rfl) (fun _ => rfl) tab1 tab2 tab3) (fun _ => rfl) all_nil) mixed Try.func12 rfl (by kernel_rfl) eq12, ⟨_, _, Try.func12, rfl, by kernel_rfl⟩⟩

theorem fs3 : FSound Try.prog 3 S_kinoralaw18_WavePrints ∧ Bodied Try.prog 3 :=
  ⟨FSound.of (CxOk.of (CxTy.of (cx := cx3) (tab := tyTab) (l := eqTab) (q := ptrTab) (fun _ => rfl) (fun _ => rfl) (fun _ => rfl) tab1 tab2 tab3) (fun _ => rfl) (all_cons fs9 (all_cons fs10 (all_cons fs11 (all_cons fs12 all_nil))))) mixed Try.func3 rfl (by kernel_rfl) eq3, ⟨_, _, Try.func3, rfl, by kernel_rfl⟩⟩

theorem fs34 : FSound Try.prog 34 S_kinoraref2_NewOctets ∧ Bodied Try.prog 34 :=
  ⟨FSound.of (CxOk.of (CxTy.of (cx := cx34) (tab := tyTab) (l := eqTab) (q := ptrTab) (fun _ => rfl) (fun _ => rfl) (fun _ => rfl) tab1 tab2 tab3) (fun _ => rfl) all_nil) mixed Try.func34 rfl (by kernel_rfl) eq34, ⟨_, _, Try.func34, rfl, by kernel_rfl⟩⟩

theorem fs36 : FSound Try.prog 36 S_kinoraref2_Octets_Left ∧ Bodied Try.prog 36 :=
  ⟨FSound.of (CxOk.of (CxTy.of (cx := cx36) (tab := tyTab) (l := eqTab) (q := ptrTab) (fun _ => rfl) (fun _ => rfl) (fun _ => rfl) tab1 tab2 tab3) (fun _ => rfl) all_nil) mixed Try.func36 rfl (by kernel_rfl) eq36, ⟨_, _, Try.func36, rfl, by kernel_rfl⟩⟩

theorem fs37 : FSound Try.prog 37 S_kinoraref2_Octets_Take ∧ Bodied Try.prog 37 :=
  ⟨FSound.of (CxOk.of (CxTy.of (cx := cx37) (tab := tyTab) (l := eqTab) (q := ptrTab) (fun _ => rfl) (fun _ => rfl) (fun _ => rfl) tab1 tab2 tab3) (fun _ => rfl) (all_cons fs36 all_nil)) mixed Try.func37 rfl (by kernel_rfl) eq37, ⟨_, _, Try.func37, rfl, by kernel_rfl⟩⟩

theorem fs35 : FSound Try.prog 35 S_kinoraref2_Octets_Small ∧ Bodied Try.prog 35 :=
  ⟨FSound.of (CxOk.of (CxTy.of (cx := cx35) (tab := tyTab) (l := eqTab) (q := ptrTab) (fun _ => rfl) (fun _ => rfl) (fun _ => rfl) tab1 tab2 tab3) (fun _ => rfl) (all_cons fs37 all_nil)) mixed Try.func35 rfl (by kernel_rfl) eq35, ⟨_, _, Try.func35, rfl, by kernel_rfl⟩⟩

theorem fs38 : FSound Try.prog 38 S_kinoraref19_format ∧ Bodied Try.prog 38 :=
  ⟨FSound.of (CxOk.of (CxTy.of (cx := cx38) (tab := tyTab) (l := eqTab) (q := ptrTab) (fun _ => rfl) (fun _ => rfl) (fun _ => rfl) tab1 tab2 tab3) (fun _ => rfl) (all_cons fs26 (all_cons fs27 (all_cons fs34 (all_cons fs35 all_nil))))) mixed Try.func38 rfl (by kernel_rfl) eq38, ⟨_, _, Try.func38, rfl, by kernel_rfl⟩⟩

theorem fs51 : FSound Try.prog 51 S_kinoraref2_Unpack ∧ Bodied Try.prog 51 :=
  ⟨FSound.of (CxOk.of (CxTy.of (cx := cx51) (tab := tyTab) (l := eqTab) (q := ptrTab) (fun _ => rfl) (fun _ => rfl) (fun _ => rfl) tab1 tab2 tab3) (fun _ => rfl) (all_cons fs34 (all_cons fs35 (all_cons fs36 (all_cons fs46 (all_cons fs47 all_nil)))))) mixed Try.func51 rfl (by kernel_rfl) eq51, ⟨_, _, Try.func51, rfl, by kernel_rfl⟩⟩

theorem fs39 : FSound Try.prog 39 S_kinoraref19_samples ∧ Bodied Try.prog 39 :=
  ⟨FSound.of (CxOk.of (CxTy.of (cx := cx39) (tab := tyTab) (l := eqTab) (q := ptrTab) (fun _ => rfl) (fun _ => rfl) (fun _ => rfl) tab1 tab2 tab3) (fun _ => rfl) (all_cons fs51 all_nil)) mixed Try.func39 rfl (by kernel_rfl) eq39, ⟨_, _, Try.func39, rfl, by kernel_rfl⟩⟩

theorem fs14 : FSound Try.prog 14 S_kinoraref19_WaveParse ∧ Bodied Try.prog 14 :=
  ⟨FSound.of (CxOk.of (CxTy.of (cx := cx14) (tab := tyTab) (l := eqTab) (q := ptrTab) (fun _ => rfl) (fun _ => rfl) (fun _ => rfl) tab1 tab2 tab3) (fun _ => rfl) (all_cons fs34 (all_cons fs35 (all_cons fs36 (all_cons fs37 (all_cons fs38 (all_cons fs39 all_nil))))))) mixed Try.func14 rfl (by kernel_rfl) eq14, ⟨_, _, Try.func14, rfl, by kernel_rfl⟩⟩

theorem fs4 : FSound Try.prog 4 S_kinoralaw18_WaveParses ∧ Bodied Try.prog 4 :=
  ⟨FSound.of (CxOk.of (CxTy.of (cx := cx4) (tab := tyTab) (l := eqTab) (q := ptrTab) (fun _ => rfl) (fun _ => rfl) (fun _ => rfl) tab1 tab2 tab3) (fun _ => rfl) (all_cons fs9 (all_cons fs13 (all_cons fs14 (all_cons fs15 all_nil))))) mixed Try.func4 rfl (by kernel_rfl) eq4, ⟨_, _, Try.func4, rfl, by kernel_rfl⟩⟩

theorem fs40 : FSound Try.prog 40 S_kinoralaw17_Fits ∧ Bodied Try.prog 40 :=
  ⟨FSound.of (CxOk.of (CxTy.of (cx := cx40) (tab := tyTab) (l := eqTab) (q := ptrTab) (fun _ => rfl) (fun _ => rfl) (fun _ => rfl) tab1 tab2 tab3) (fun _ => rfl) (all_cons fs26 (all_cons fs47 all_nil))) mixed Try.func40 rfl (by kernel_rfl) eq40, ⟨_, _, Try.func40, rfl, by kernel_rfl⟩⟩

theorem fs16 : FSound Try.prog 16 S_kinoralaw18_waves ∧ Bodied Try.prog 16 :=
  ⟨FSound.of (CxOk.of (CxTy.of (cx := cx16) (tab := tyTab) (l := eqTab) (q := ptrTab) (fun _ => rfl) (fun _ => rfl) (fun _ => rfl) tab1 tab2 tab3) (fun _ => rfl) (all_cons fs40 all_nil)) mixed Try.func16 rfl (by kernel_rfl) eq16, ⟨_, _, Try.func16, rfl, by kernel_rfl⟩⟩

theorem fs5 : FSound Try.prog 5 S_kinoralaw18_WaveBack ∧ Bodied Try.prog 5 :=
  ⟨FSound.of (CxOk.of (CxTy.of (cx := cx5) (tab := tyTab) (l := eqTab) (q := ptrTab) (fun _ => rfl) (fun _ => rfl) (fun _ => rfl) tab1 tab2 tab3) (fun _ => rfl) (all_cons fs9 (all_cons fs10 (all_cons fs13 (all_cons fs15 (all_cons fs16 all_nil)))))) mixed Try.func5 rfl (by kernel_rfl) eq5, ⟨_, _, Try.func5, rfl, by kernel_rfl⟩⟩

theorem fs18 : FSound Try.prog 18 S_kinoralaw18_small ∧ Bodied Try.prog 18 :=
  ⟨FSound.of (CxOk.of (CxTy.of (cx := cx18) (tab := tyTab) (l := eqTab) (q := ptrTab) (fun _ => rfl) (fun _ => rfl) (fun _ => rfl) tab1 tab2 tab3) (fun _ => rfl) (all_cons fs19 all_nil)) mixed Try.func18 rfl (by kernel_rfl) eq18, ⟨_, _, Try.func18, rfl, by kernel_rfl⟩⟩

theorem fs17 : FSound Try.prog 17 S_kinoralaw18_chunk ∧ Bodied Try.prog 17 :=
  ⟨FSound.of (CxOk.of (CxTy.of (cx := cx17) (tab := tyTab) (l := eqTab) (q := ptrTab) (fun _ => rfl) (fun _ => rfl) (fun _ => rfl) tab1 tab2 tab3) (fun _ => rfl) (all_cons fs18 all_nil)) mixed Try.func17 rfl (by kernel_rfl) eq17, ⟨_, _, Try.func17, rfl, by kernel_rfl⟩⟩

theorem fs6 : FSound Try.prog 6 S_kinoralaw18_WaveChunks ∧ Bodied Try.prog 6 :=
  ⟨FSound.of (CxOk.of (CxTy.of (cx := cx6) (tab := tyTab) (l := eqTab) (q := ptrTab) (fun _ => rfl) (fun _ => rfl) (fun _ => rfl) tab1 tab2 tab3) (fun _ => rfl) (all_cons fs9 (all_cons fs10 (all_cons fs13 (all_cons fs15 (all_cons fs16 (all_cons fs17 (all_cons fs18 all_nil)))))))) mixed Try.func6 rfl (by kernel_rfl) eq6, ⟨_, _, Try.func6, rfl, by kernel_rfl⟩⟩

theorem fs7 : FSound Try.prog 7 S_kinoralaw18_WaveTwice ∧ Bodied Try.prog 7 :=
  ⟨FSound.of (CxOk.of (CxTy.of (cx := cx7) (tab := tyTab) (l := eqTab) (q := ptrTab) (fun _ => rfl) (fun _ => rfl) (fun _ => rfl) tab1 tab2 tab3) (fun _ => rfl) (all_cons fs9 (all_cons fs10 (all_cons fs13 (all_cons fs16 (all_cons fs18 all_nil)))))) mixed Try.func7 rfl (by kernel_rfl) eq7, ⟨_, _, Try.func7, rfl, by kernel_rfl⟩⟩

theorem fs8 : FSound Try.prog 8 S_kinoralaw18_WaveSizes ∧ Bodied Try.prog 8 :=
  ⟨FSound.of (CxOk.of (CxTy.of (cx := cx8) (tab := tyTab) (l := eqTab) (q := ptrTab) (fun _ => rfl) (fun _ => rfl) (fun _ => rfl) tab1 tab2 tab3) (fun _ => rfl) (all_cons fs9 (all_cons fs10 (all_cons fs12 (all_cons fs16 (all_cons fs18 (all_cons fs19 all_nil))))))) mixed Try.func8 rfl (by kernel_rfl) eq8, ⟨_, _, Try.func8, rfl, by kernel_rfl⟩⟩

end Go.Ab
