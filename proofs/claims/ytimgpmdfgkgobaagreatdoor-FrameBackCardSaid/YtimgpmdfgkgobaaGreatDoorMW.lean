/- Part of the proof: WFrameBack. Conditions: as each statement tells. -/
import Derived.Test.YtimgpmdfgkgobaaGreatDoorRows
import Derived.Test.YtimgpmdfgkgobaaGreatDoorCards
import Derived.Test.YtimgpmdfgkgobaaGreatDoorTie
import Derived.WalkKit
import Derived.ProofKit
import Derived.OpenShut
import Derived.Handed
import Derived.SevenTiedAt
import Derived.Test.YtimgpmdfgkgobaaGreatDoorMG
noncomputable section
set_option linter.unusedSimpArgs false
set_option linter.unusedVariables false
namespace Go.Proofs.YtimgpmdfgkgobaaGreatDoor.frameBack
open Go.ChangeShapes Go.WideShapes Go.ChangeAt Go.RowKit Go.Ab
theorem bulkAll {H:Type}:∀ l:List (DataW H),Rows.uptoBulkAll l=(l.map Rows.uptoBulk).sum
 | []=>by simp [Rows.uptoBulkAll]
 |d::r=>by simp [Rows.uptoBulkAll,bulkAll r]
theorem bulk {H:Type}:Bulk (Rows.uptoBulk (H:=H)) where
 one:=fun d=>by
  cases d with
  |lit l=>cases l<;>simp [Rows.uptoBulk]
  |_=>simp [Rows.uptoBulk]
 str:=fun bs=>by simp [Rows.uptoBulk]
 slice:=fun es sp=>by simp only [Rows.uptoBulk,bulkAll];omega
 agg:=fun ps=>by simp only [Rows.uptoBulk,bulkAll];omega
theorem own:ownKnob Tryz.prog.godebug=none:=by kernel_rfl
theorem laidOut:laidOutB Tryz.prog=true:=by kernel_rfl
set_option maxRecDepth 100000 in
theorem contract (H:Type) (enc:TypeId×Value→H) (W:World) (base:Nat) (args:Array Value) (ds gs:List (DataW H)) (before:List MemPlace)
  (hval:∀ (j:Nat) t v,Tryz.f7.params[j]?=some t→args[j]?=some v→Value.okWide Tryz.prog W .any base t v)
  (hW:DataW.Whole enc Tryz.prog Tryz.f7.params.toList Rows.frameBackSpec.vars false W args.toList ds gs before) (hL:laidMetH Tryz.prog laidTab W):
  Calls Tryz.prog 7 args W fun e W'=>∃ v,e=.returned v∧Rows.frameBackSpec.post enc Tryz.prog Tryz.f7 false true false false W args v W':=
 c7P (s:=b6A) (tb:=4) bulk fs7.1 laidOut (by kernel_rfl) rfl (by kernel_rfl) (by kernel_rfl) rfl (fun ds h=>match ds,h with|[_,_,_,_,_],_=>rfl)
  (fun x _ _=>by refine ⟨true,?_,rfl⟩;unfold b6A;refine Eq.trans ?_ (c6X x);kernel_rfl) (c9e hL) hval hW (Nat.le_refl _)
set_option maxRecDepth 100000 in
theorem lifted (os:Os) (started:os.Started) (H:Type) (enc:TypeId×Value→H):
  ReturnsInHanded {} Tryz.checked os 7 .any (fun w args=>(Rows.frameBackSpec.pre enc Tryz.prog Tryz.f7 [] false w args∧laidMetH Tryz.prog laidTab w)∧sizedMet enc Tryz.prog Tryz.f7 (OpenSpec.ofChange Rows.frameBackSpec) false w args)
   (Rows.frameBackSpec.post enc Tryz.prog Tryz.f7 false true false false):=by
 refine returnsInHanded_of_change_and (C:=Tryz.checked) (X:=fun w _=>laidMetH Tryz.prog laidTab w) (fun _ _ _ hh h=>h.of_heap hh) own started (by kernel_rfl) Tryz.func7
  (ChangeSpec.witness_shaped (enc:=enc) (C:=Tryz.checked) (os:=os) (X:=fun w _=>laidMetH Tryz.prog laidTab w) false (World.doorLaid Tryz.prog 400 os) #[.agg #[.int .i64 0,.slice none 0 0],.int .i64 0,.int .i64 0,.int .i64 0,.slice none 0 0] 8 rfl (World.shaped_of_RefB (by kernel_rfl) (by kernel_rfl)) (by kernel_rfl) (by kernel_rfl) (by kernel_rfl) (d5E os _)) ?_
 intro W base args ds gs before hval hW _ _ hL _
 exact contract H enc W base args ds gs before hval hW hL
theorem and2 {a b:Bool} (ha:a=true) (hb:b=true):(a&&b)=true:=by rw [ha,hb];rfl
theorem j0:(fun (P:Program) (f:FuncId) (fn:Func) (s:ChangeSpec) (c:OpenClaim)=>c.wf (OpenSpec.ofChange s)) Tryz.prog 7 Tryz.f7 Rows.frameBackSpec Rows.frameBackRow=true:=by kernel_rfl
theorem j1:(fun (P:Program) (f:FuncId) (fn:Func) (s:ChangeSpec) (c:OpenClaim)=>laidOutB P) Tryz.prog 7 Tryz.f7 Rows.frameBackSpec Rows.frameBackRow=true:=by kernel_rfl
theorem j2:(fun (P:Program) (f:FuncId) (fn:Func) (s:ChangeSpec) (c:OpenClaim)=>mapsRowed P) Tryz.prog 7 Tryz.f7 Rows.frameBackSpec Rows.frameBackRow=true:=by kernel_rfl
theorem j3:(fun (P:Program) (f:FuncId) (fn:Func) (s:ChangeSpec) (c:OpenClaim)=>fn.params.all (P.readableRec ·)) Tryz.prog 7 Tryz.f7 Rows.frameBackSpec Rows.frameBackRow=true:=by kernel_rfl
theorem j4:(fun (P:Program) (f:FuncId) (fn:Func) (s:ChangeSpec) (c:OpenClaim)=>namedTie P c.named s.vars) Tryz.prog 7 Tryz.f7 Rows.frameBackSpec Rows.frameBackRow=true:=by kernel_rfl
theorem j5:(fun (P:Program) (f:FuncId) (fn:Func) (s:ChangeSpec) (c:OpenClaim)=>(c.stops==[])) Tryz.prog 7 Tryz.f7 Rows.frameBackSpec Rows.frameBackRow=true:=by kernel_rfl
theorem j6:(fun (P:Program) (f:FuncId) (fn:Func) (s:ChangeSpec) (c:OpenClaim)=>(P.stops==[])) Tryz.prog 7 Tryz.f7 Rows.frameBackSpec Rows.frameBackRow=true:=by kernel_rfl
theorem j7:(fun (P:Program) (f:FuncId) (fn:Func) (s:ChangeSpec) (c:OpenClaim)=>(c.knobs==[])) Tryz.prog 7 Tryz.f7 Rows.frameBackSpec Rows.frameBackRow=true:=by kernel_rfl
theorem j8:(fun (P:Program) (f:FuncId) (fn:Func) (s:ChangeSpec) (c:OpenClaim)=>(P.stopKnobs==[])) Tryz.prog 7 Tryz.f7 Rows.frameBackSpec Rows.frameBackRow=true:=by kernel_rfl
theorem j9:(fun (P:Program) (f:FuncId) (fn:Func) (s:ChangeSpec) (c:OpenClaim)=>(c.inPlace==P.inPlace f)) Tryz.prog 7 Tryz.f7 Rows.frameBackSpec Rows.frameBackRow=true:=by kernel_rfl
theorem j10:(fun (P:Program) (f:FuncId) (fn:Func) (s:ChangeSpec) (c:OpenClaim)=>(c.unfollowed==P.unfollowed f)) Tryz.prog 7 Tryz.f7 Rows.frameBackSpec Rows.frameBackRow=true:=by kernel_rfl
theorem j11:(fun (P:Program) (f:FuncId) (fn:Func) (s:ChangeSpec) (c:OpenClaim)=>(c.recurses==P.recurses f)) Tryz.prog 7 Tryz.f7 Rows.frameBackSpec Rows.frameBackRow=true:=by kernel_rfl
theorem j12:(fun (P:Program) (f:FuncId) (fn:Func) (s:ChangeSpec) (c:OpenClaim)=>(c.named==P.varsNamed f)) Tryz.prog 7 Tryz.f7 Rows.frameBackSpec Rows.frameBackRow=true:=by kernel_rfl
theorem j13:(fun (P:Program) (f:FuncId) (fn:Func) (s:ChangeSpec) (c:OpenClaim)=>(c.maps==(fn.params.toList++s.plain.varTypes P).any (P.mapsRec ·))) Tryz.prog 7 Tryz.f7 Rows.frameBackSpec Rows.frameBackRow=true:=by kernel_rfl
theorem j14:(fun (P:Program) (f:FuncId) (fn:Func) (s:ChangeSpec) (c:OpenClaim)=>(c.ifaces==(fn.params.toList++s.plain.varTypes P).any (P.ifacesRec ·))) Tryz.prog 7 Tryz.f7 Rows.frameBackSpec Rows.frameBackRow=true:=by kernel_rfl
theorem j15:(fun (P:Program) (f:FuncId) (fn:Func) (s:ChangeSpec) (c:OpenClaim)=>(c.mapsOut==P.mapsAmong fn.resultTypes.toList)) Tryz.prog 7 Tryz.f7 Rows.frameBackSpec Rows.frameBackRow=true:=by kernel_rfl
theorem j16:(fun (P:Program) (f:FuncId) (fn:Func) (s:ChangeSpec) (c:OpenClaim)=>(c.loops==(fn.params.toList++s.plain.varTypes P).any (P.loopsFrom ·))) Tryz.prog 7 Tryz.f7 Rows.frameBackSpec Rows.frameBackRow=true:=by kernel_rfl
theorem j17:(fun (P:Program) (f:FuncId) (fn:Func) (s:ChangeSpec) (c:OpenClaim)=>(c.wideKeys==(fn.params.toList++s.plain.varTypes P++fn.resultTypes.toList).any (P.wideKeysFrom ·))) Tryz.prog 7 Tryz.f7 Rows.frameBackSpec Rows.frameBackRow=true:=by kernel_rfl
theorem j18:(fun (P:Program) (f:FuncId) (fn:Func) (s:ChangeSpec) (c:OpenClaim)=>s.vars.all (P.varReadable ·)) Tryz.prog 7 Tryz.f7 Rows.frameBackSpec Rows.frameBackRow=true:=by kernel_rfl
theorem j19:(fun (P:Program) (f:FuncId) (fn:Func) (s:ChangeSpec) (c:OpenClaim)=>fn.resultTypes.all (fun t=>P.readableRec t&&decide (t<P.types.size))) Tryz.prog 7 Tryz.f7 Rows.frameBackSpec Rows.frameBackRow=true:=by kernel_rfl
theorem j20:(fun (P:Program) (f:FuncId) (fn:Func) (s:ChangeSpec) (c:OpenClaim)=>(c.ifacesOut==fn.resultTypes.toList.any (P.ifacesRec ·))) Tryz.prog 7 Tryz.f7 Rows.frameBackSpec Rows.frameBackRow=true:=by kernel_rfl
theorem j21:(fun (P:Program) (f:FuncId) (fn:Func) (s:ChangeSpec) (c:OpenClaim)=>(c.loopsOut==fn.resultTypes.toList.any (P.loopsFrom ·))) Tryz.prog 7 Tryz.f7 Rows.frameBackSpec Rows.frameBackRow=true:=by kernel_rfl
theorem j22:(fun (P:Program) (f:FuncId) (fn:Func) (s:ChangeSpec) (c:OpenClaim)=>(c.plainKeys==P.plainKeys)) Tryz.prog 7 Tryz.f7 Rows.frameBackSpec Rows.frameBackRow=true:=by kernel_rfl
theorem j23:(fun (P:Program) (f:FuncId) (fn:Func) (s:ChangeSpec) (c:OpenClaim)=>c.shortTexts.isNone) Tryz.prog 7 Tryz.f7 Rows.frameBackSpec Rows.frameBackRow=true:=by kernel_rfl
theorem j24:(fun (P:Program) (f:FuncId) (fn:Func) (s:ChangeSpec) (c:OpenClaim)=>P.stopsHeard) Tryz.prog 7 Tryz.f7 Rows.frameBackSpec Rows.frameBackRow=true:=by kernel_rfl
theorem j25:(fun (P:Program) (f:FuncId) (fn:Func) (s:ChangeSpec) (c:OpenClaim)=>P.mayEnter) Tryz.prog 7 Tryz.f7 Rows.frameBackSpec Rows.frameBackRow=true:=by kernel_rfl
theorem j26:(fun (P:Program) (f:FuncId) (fn:Func) (s:ChangeSpec) (c:OpenClaim)=>(c.lifted==P.liftsFinal)) Tryz.prog 7 Tryz.f7 Rows.frameBackSpec Rows.frameBackRow=true:=by kernel_rfl
theorem j27:(fun (P:Program) (f:FuncId) (fn:Func) (s:ChangeSpec) (c:OpenClaim)=>(P.make==some c.make)) Tryz.prog 7 Tryz.f7 Rows.frameBackSpec Rows.frameBackRow=true:=by kernel_rfl
theorem j29:(fun (P:Program) (f:FuncId) (fn:Func) (s:ChangeSpec) (c:OpenClaim)=>(c.pinned==c.pinnedBy)) Tryz.prog 7 Tryz.f7 Rows.frameBackSpec Rows.frameBackRow=true:=by kernel_rfl
theorem j30:(fun (P:Program) (f:FuncId) (fn:Func) (s:ChangeSpec) (c:OpenClaim)=>(c.veiled==(fn.params.toList++s.plain.varTypes P++fn.resultTypes.toList).any (P.veiledRec ·))) Tryz.prog 7 Tryz.f7 Rows.frameBackSpec Rows.frameBackRow=true:=by kernel_rfl
theorem j31:(fun (P:Program) (f:FuncId) (fn:Func) (s:ChangeSpec) (c:OpenClaim)=>c.veiledFits P fn.params.toList (fn.params.toList++s.plain.varTypes P++fn.resultTypes.toList)) Tryz.prog 7 Tryz.f7 Rows.frameBackSpec Rows.frameBackRow=true:=by kernel_rfl
theorem joined:joinedFacts Tryz.prog 7 Tryz.f7 Rows.frameBackSpec Rows.frameBackRow=true:=by
 unfold joinedFacts
 refine and2 ?_ j31
 refine and2 ?_ j30
 refine and2 ?_ j29
 refine and2 ?_ (by kernel_rfl)
 refine and2 ?_ j27
 refine and2 ?_ j26
 refine and2 ?_ j25
 refine and2 ?_ j24
 refine and2 ?_ j23
 refine and2 ?_ j22
 refine and2 ?_ j21
 refine and2 ?_ j20
 refine and2 ?_ j19
 refine and2 ?_ j18
 refine and2 ?_ j17
 refine and2 ?_ j16
 refine and2 ?_ j15
 refine and2 ?_ j14
 refine and2 ?_ j13
 refine and2 ?_ j12
 refine and2 ?_ j11
 refine and2 ?_ j10
 refine and2 ?_ j9
 refine and2 ?_ j8
 refine and2 ?_ j7
 refine and2 ?_ j6
 refine and2 ?_ j5
 refine and2 ?_ j4
 refine and2 ?_ j3
 refine and2 ?_ j2
 refine and2 ?_ j1
 exact j0
theorem pn:Tryz.prog.funcNamed Rows.frameBackRow.func=some 7:=by kernel_rfl
theorem over:Rows.FrameBackSaid:=
 OpenClaim.holds_of_wide 7 Tryz.f7 rfl rfl rfl rfl rfl rfl rfl ⟨rfl,rfl,rfl,rfl,rfl⟩ rfl rfl rfl rfl rfl pn Tryz.func7 joined
  (of_decide_eq_true (by kernel_rfl)) (by unfold Func.isWrapper;first|(rw [if_pos (by decide +kernel)];kernel_rfl)|(rw [if_neg (by decide +kernel)];exact ⟨rfl,rfl⟩))
  (fun os started H enc _=>lifted os started H enc)
theorem noStandIns:∀ (j:Nat) t,Tryz.f7.params[j]?=some t→Tryz.prog.wantsStandIn t=false:=fun j t h=>
 have h1:Tryz.f7.params.toList.all (fun t=>!Tryz.prog.wantsStandIn t)=true:=by kernel_rfl
 have h2:=List.all_eq_true.1 h1 t (by simpa using Array.mem_of_getElem? h)
 by simpa using h2
theorem pw:Rows.frameBackRow.wfByText (OpenSpec.ofChange Rows.frameBackSpec)=true:=by kernel_rfl
theorem pm : Tryz.pinned.checked.prog.mainIs = some (true, "43a63db85aceb10d325ddd1a803cfe9a208ec57f4ac4d131bcd74fa7f6fd293e".toList) := by kernel_rfl
theorem pl:false=Tryz.pinned.checked.prog.looks []:=by kernel_rfl
theorem pg:false=Rows.frameBackRow.goesBy Tryz.pinned.checked.prog:=by kernel_rfl
theorem proved:Rows.FrameBackCardSaid:=
 Claim7.holds_tied_plain_at .later [] [.data] true (true, "43a63db85aceb10d325ddd1a803cfe9a208ec57f4ac4d131bcd74fa7f6fd293e") false
  over (fun _ h=>by cases h) pw (fun _ h=>by cases h) frameBack_row_tie rfl ⟨rfl,rfl⟩ pm rfl
  (fun f fn hf hfn=>by
   obtain rfl:f=7:=Option.some.inj (pn.symm.trans hf) |>.symm
   obtain rfl:fn=Tryz.f7:=(Option.some.inj (Tryz.func7.symm.trans hfn)).symm
   exact ⟨pl,noStandIns⟩)
  pg
#print axioms proved
end Go.Proofs.YtimgpmdfgkgobaaGreatDoor.frameBack
