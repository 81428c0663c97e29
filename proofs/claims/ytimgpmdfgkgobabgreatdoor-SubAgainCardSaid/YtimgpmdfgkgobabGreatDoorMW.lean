/- Part of the proof: WSubAgain. Conditions: as each statement tells. -/
import Derived.Test.YtimgpmdfgkgobabGreatDoorRows
import Derived.Test.YtimgpmdfgkgobabGreatDoorCards
import Derived.Test.YtimgpmdfgkgobabGreatDoorTie
import Derived.WalkKit
import Derived.ProofKit
import Derived.OpenShut
import Derived.Handed
import Derived.SevenTiedAt
import Derived.Test.YtimgpmdfgkgobabGreatDoorMF
noncomputable section
set_option linter.unusedSimpArgs false
set_option linter.unusedVariables false
namespace Go.Proofs.YtimgpmdfgkgobabGreatDoor.subAgain
open Go.ChangeShapes Go.WideShapes Go.ChangeAt Go.RowKit Go.Ab
theorem bulkAll {H:Type}:∀ l:List (DataW H),Rows.uptoBulkAll l=(l.map Rows.uptoBulk).sum
 | []=>by simp [Rows.uptoBulkAll]
 |d::r=>by simp [Rows.uptoBulkAll,bulkAll r]
theorem bulk {H:Type}:Bulk (Rows.uptoBulk (H:=H)) where
 one:=fun d=>by
  cases d with
  |lit l=>cases l<;>simp [Rows.uptoBulk]
  |_=>simp [Rows.uptoBulk]
 str:=fun bs=>by simp [Rows.uptoBulk]
 slice:=fun es sp=>by simp only [Rows.uptoBulk,bulkAll];omega
 agg:=fun ps=>by simp only [Rows.uptoBulk,bulkAll];omega
theorem own:ownKnob Tryz.prog.godebug=none:=by kernel_rfl
theorem laidOut:laidOutB Tryz.prog=true:=by kernel_rfl
set_option maxRecDepth 100000 in
theorem contract (H:Type) (enc:TypeId×Value→H) (W:World) (base:Nat) (args:Array Value) (ds gs:List (DataW H)) (before:List MemPlace)
  (hval:∀ (j:Nat) t v,Tryz.f3.params[j]?=some t→args[j]?=some v→Value.okWide Tryz.prog W .any base t v)
  (hW:DataW.Whole enc Tryz.prog Tryz.f3.params.toList Rows.subAgainSpec.vars false W args.toList ds gs before) (hL:laidMetH Tryz.prog laidTab W):
  Calls Tryz.prog 3 args W fun e W'=>∃ v,e=.returned v∧Rows.subAgainSpec.post enc Tryz.prog Tryz.f3 false true false false W args v W':=
 c8Z (s:=b9h) (tb:=4) bulk fs3.1 laidOut (by kernel_rfl) rfl (by kernel_rfl) (by kernel_rfl) rfl (fun ds h=>match ds,h with|[_,_,_],_=>rfl)
  (fun x h _=>⟨true,d0a x (fun a ha=>d8d (h ⟨_,x.1⟩ List.mem_cons_self a ha)) (d9c (h ⟨_,x.2.1⟩ (List.mem_cons_of_mem _ List.mem_cons_self))),rfl⟩) (d0b hL) hval hW (Nat.le_refl _)
set_option maxRecDepth 100000 in
theorem lifted (os:Os) (started:os.Started) (H:Type) (enc:TypeId×Value→H):
  ReturnsInHanded {} Tryz.checked os 3 .any (fun w args=>(Rows.subAgainSpec.pre enc Tryz.prog Tryz.f3 [] false w args∧laidMetH Tryz.prog laidTab w)∧sizedMet enc Tryz.prog Tryz.f3 (OpenSpec.ofChange Rows.subAgainSpec) false w args)
   (Rows.subAgainSpec.post enc Tryz.prog Tryz.f3 false true false false):=by
 refine returnsInHanded_of_change_and (C:=Tryz.checked) (X:=fun w _=>laidMetH Tryz.prog laidTab w) (fun _ _ _ hh h=>h.of_heap hh) own started (by kernel_rfl) Tryz.func3
  (ChangeSpec.witness_shaped (enc:=enc) (C:=Tryz.checked) (os:=os) (X:=fun w _=>laidMetH Tryz.prog laidTab w) false (World.doorLaid Tryz.prog 400 os) #[.slice none 0 0,.int .u8 0,.int .i64 0] 8 rfl (World.shaped_of_RefB (by kernel_rfl) (by kernel_rfl)) (by kernel_rfl) (by kernel_rfl) (by kernel_rfl) (d5Q os _)) ?_
 intro W base args ds gs before hval hW _ _ hL _
 exact contract H enc W base args ds gs before hval hW hL
theorem and2 {a b:Bool} (ha:a=true) (hb:b=true):(a&&b)=true:=by rw [ha,hb];rfl
def J (X:Program→FuncId→Func→ChangeSpec→OpenClaim→Bool):Prop:=X Tryz.prog 3 Tryz.f3 Rows.subAgainSpec Rows.subAgainRow=true
theorem j0:J fun P f fn s c=>c.wf (OpenSpec.ofChange s):=by unfold J;kernel_rfl
theorem j1:J fun P f fn s c=>laidOutB P:=by unfold J;kernel_rfl
theorem j2:J fun P f fn s c=>mapsRowed P:=by unfold J;kernel_rfl
theorem j3:J fun P f fn s c=>fn.params.all (P.readableRec ·):=by unfold J;kernel_rfl
theorem j4:J fun P f fn s c=>namedTie P c.named s.vars:=by unfold J;kernel_rfl
theorem j5:J fun P f fn s c=>(c.stops==[]):=by unfold J;kernel_rfl
theorem j6:J fun P f fn s c=>(P.stops==[]):=by unfold J;kernel_rfl
theorem j7:J fun P f fn s c=>(c.knobs==[]):=by unfold J;kernel_rfl
theorem j8:J fun P f fn s c=>(P.stopKnobs==[]):=by unfold J;kernel_rfl
theorem j9:J fun P f fn s c=>(c.inPlace==P.inPlace f):=by unfold J;kernel_rfl
theorem j10:J fun P f fn s c=>(c.unfollowed==P.unfollowed f):=by unfold J;kernel_rfl
theorem j11:J fun P f fn s c=>(c.recurses==P.recurses f):=by unfold J;kernel_rfl
theorem j12:J fun P f fn s c=>(c.named==P.varsNamed f):=by unfold J;kernel_rfl
theorem j13:J fun P f fn s c=>(c.maps==(fn.params.toList++s.plain.varTypes P).any (P.mapsRec ·)):=by unfold J;kernel_rfl
theorem j14:J fun P f fn s c=>(c.ifaces==(fn.params.toList++s.plain.varTypes P).any (P.ifacesRec ·)):=by unfold J;kernel_rfl
theorem j15:J fun P f fn s c=>(c.mapsOut==P.mapsAmong fn.resultTypes.toList):=by unfold J;kernel_rfl
theorem j16:J fun P f fn s c=>(c.loops==(fn.params.toList++s.plain.varTypes P).any (P.loopsFrom ·)):=by unfold J;kernel_rfl
theorem j17:J fun P f fn s c=>(c.wideKeys==(fn.params.toList++s.plain.varTypes P++fn.resultTypes.toList).any (P.wideKeysFrom ·)):=by unfold J;kernel_rfl
theorem j18:J fun P f fn s c=>s.vars.all (P.varReadable ·):=by unfold J;kernel_rfl
theorem j19:J fun P f fn s c=>fn.resultTypes.all (fun t=>P.readableRec t&&decide (t<P.types.size)):=by unfold J;kernel_rfl
theorem j20:J fun P f fn s c=>(c.ifacesOut==fn.resultTypes.toList.any (P.ifacesRec ·)):=by unfold J;kernel_rfl
theorem j21:J fun P f fn s c=>(c.loopsOut==fn.resultTypes.toList.any (P.loopsFrom ·)):=by unfold J;kernel_rfl
theorem j22:J fun P f fn s c=>(c.plainKeys==P.plainKeys):=by unfold J;kernel_rfl
theorem j23:J fun P f fn s c=>c.shortTexts.isNone:=by unfold J;kernel_rfl
theorem j24:J fun P f fn s c=>P.stopsHeard:=by unfold J;kernel_rfl
theorem j25:J fun P f fn s c=>P.mayEnter:=by unfold J;kernel_rfl
theorem j26:J fun P f fn s c=>(c.lifted==P.liftsFinal):=by unfold J;kernel_rfl
theorem j27:J fun P f fn s c=>(P.make==some c.make):=by unfold J;kernel_rfl
theorem j29:J fun P f fn s c=>(c.pinned==c.pinnedBy):=by unfold J;kernel_rfl
theorem j30:J fun P f fn s c=>(c.veiled==(fn.params.toList++s.plain.varTypes P++fn.resultTypes.toList).any (P.veiledRec ·)):=by unfold J;kernel_rfl
theorem j31:J fun P f fn s c=>c.veiledFits P fn.params.toList (fn.params.toList++s.plain.varTypes P++fn.resultTypes.toList):=by unfold J;kernel_rfl
theorem joined:joinedFacts Tryz.prog 3 Tryz.f3 Rows.subAgainSpec Rows.subAgainRow=true:=by
 unfold joinedFacts
 refine and2 ?_ j31
 refine and2 ?_ j30
 refine and2 ?_ j29
 refine and2 ?_ (by kernel_rfl)
 refine and2 ?_ j27
 refine and2 ?_ j26
 refine and2 ?_ j25
 refine and2 ?_ j24
 refine and2 ?_ j23
 refine and2 ?_ j22
 refine and2 ?_ j21
 refine and2 ?_ j20
 refine and2 ?_ j19
 refine and2 ?_ j18
 refine and2 ?_ j17
 refine and2 ?_ j16
 refine and2 ?_ j15
 refine and2 ?_ j14
 refine and2 ?_ j13
 refine and2 ?_ j12
 refine and2 ?_ j11
 refine and2 ?_ j10
 refine and2 ?_ j9
 refine and2 ?_ j8
 refine and2 ?_ j7
 refine and2 ?_ j6
 refine and2 ?_ j5
 refine and2 ?_ j4
 refine and2 ?_ j3
 refine and2 ?_ j2
 refine and2 ?_ j1
 exact j0
theorem pn:Tryz.prog.funcNamed Rows.subAgainRow.func=some 3:=by kernel_rfl
theorem over:Rows.SubAgainSaid:=
 OpenClaim.holds_of_wide 3 Tryz.f3 rfl rfl rfl rfl rfl rfl rfl ⟨rfl,rfl,rfl,rfl,rfl⟩ rfl rfl rfl rfl rfl pn Tryz.func3 joined
  (of_decide_eq_true (by kernel_rfl)) (by unfold Func.isWrapper;first|(rw [if_pos (by decide +kernel)];kernel_rfl)|(rw [if_neg (by decide +kernel)];exact ⟨rfl,rfl⟩))
  (fun os started H enc _=>lifted os started H enc)
theorem noStandIns:∀ (j:Nat) t,Tryz.f3.params[j]?=some t→Tryz.prog.wantsStandIn t=false:=fun j t h=>
 have h1:Tryz.f3.params.toList.all (fun t=>!Tryz.prog.wantsStandIn t)=true:=by kernel_rfl
 have h2:=List.all_eq_true.1 h1 t (by simpa using Array.mem_of_getElem? h)
 by simpa using h2
theorem pw:Rows.subAgainRow.wfByText (OpenSpec.ofChange Rows.subAgainSpec)=true:=by kernel_rfl
theorem pm : Tryz.pinned.checked.prog.mainIs = some (true, "39e2a00b00fdd989cb0d59f7049ef9fa7923fb680b3c02c4bb4ac859154e484f".toList) := by kernel_rfl
theorem pl:false=Tryz.pinned.checked.prog.looks []:=by kernel_rfl
theorem pg:false=Rows.subAgainRow.goesBy Tryz.pinned.checked.prog:=by kernel_rfl
theorem proved:Rows.SubAgainCardSaid:=
 Claim7.holds_tied_plain_at .later [] [.data] true (true, "39e2a00b00fdd989cb0d59f7049ef9fa7923fb680b3c02c4bb4ac859154e484f") false
  over (fun _ h=>by cases h) pw (fun _ h=>by cases h) subAgain_row_tie rfl ⟨rfl,rfl⟩ pm rfl
  (fun f fn hf hfn=>by
   obtain rfl:f=3:=Option.some.inj (pn.symm.trans hf) |>.symm
   obtain rfl:fn=Tryz.f3:=(Option.some.inj (Tryz.func3.symm.trans hfn)).symm
   exact ⟨pl,noStandIns⟩)
  pg
#print axioms proved
end Go.Proofs.YtimgpmdfgkgobabGreatDoor.subAgain
