/- Part of the proof: WKinds. Conditions: as each statement tells. -/
import Derived.Test.YtoklkmdhpjocgaaGreatDoorRows
import Derived.Test.YtoklkmdhpjocgaaGreatDoorCards
import Derived.Test.YtoklkmdhpjocgaaGreatDoorTie
import Derived.WalkKit
import Derived.ProofKit
import Derived.OpenShut
import Derived.Handed
import Derived.SevenTiedAt
import Derived.Test.YtoklkmdhpjocgaaGreatDoorMF
noncomputable section
namespace Go.Proofs.YtoklkmdhpjocgaaGreatDoor.subKinds
open Go.ChangeShapes Go.WideShapes Go.ChangeAt Go.RowKit Go.Ab
theorem bulkAll {H:Type}:∀ l:List (DataW H),Rows.uptoBulkAll l=(l.map Rows.uptoBulk).sum
 | []=>by simp [Rows.uptoBulkAll]
 |d::r=>by simp [Rows.uptoBulkAll,bulkAll r]
theorem bulk {H:Type}:Bulk (Rows.uptoBulk (H:=H)) where
 one:=fun d=>by
  cases d with
  |lit l=>cases l<;>simp [Rows.uptoBulk]
  |_=>simp [Rows.uptoBulk]
 str:=fun bs=>by simp [Rows.uptoBulk]
 slice:=fun es sp=>by simp only [Rows.uptoBulk,bulkAll];omega
 agg:=fun ps=>by simp only [Rows.uptoBulk,bulkAll];omega
theorem own:ownKnob Tryz.prog.godebug=none:=by kernel_rfl
theorem laidOut:laidOutB Tryz.prog=true:=by kernel_rfl
set_option maxRecDepth 100000 in
theorem contract (H:Type) (enc:TypeId×Value→H) (W:World) (base:Nat) (args:Array Value) (ds gs:List (DataW H)) (before:List MemPlace)
  (hval:∀ (j:Nat) t v,Tryz.f8.params[j]?=some t→args[j]?=some v→Value.okWide Tryz.prog W .any base t v)
  (hW:DataW.Whole enc Tryz.prog Tryz.f8.params.toList Rows.subKindsSpec.vars false W args.toList ds gs before) (hL:laidMetH Tryz.prog laidTab W):
  Calls Tryz.prog 8 args W fun e W'=>∃ v,e=.returned v∧Rows.subKindsSpec.post enc Tryz.prog Tryz.f8 false true false false W args v W':=
 law_contract (s:=S_l15_SubKinds) (tb:=4) bulk fs8.1 laidOut (by kernel_rfl) rfl (by kernel_rfl) (by kernel_rfl) rfl (fun ds h=>match ds,h with|[_,_,_],_=>rfl)
  (fun x h _=>⟨true,law_SubKinds x (h ⟨_,x.2.2⟩ (List.mem_cons_of_mem _ (List.mem_cons_of_mem _ List.mem_cons_self))).2.2.2.2.2.2.1.1,rfl⟩) (glob_of_laid hL) hval hW (Nat.le_refl _)
def zero:Value:=.agg #[.int .i64 0,.int .i64 0,.int .i64 0,.int .i64 0,.int .i64 0,.slice none 0 0,.int .i64 0,.int .i64 0,.int .i64 0,.slice none 0 0,.slice none 0 0,.int .i64 0,.slice none 0 0,.slice none 0 0]
set_option maxRecDepth 100000 in
theorem lifted (os:Os) (started:os.Started) (H:Type) (enc:TypeId×Value→H):
  ReturnsInHanded {} Tryz.checked os 8 .any (fun w args=>(Rows.subKindsSpec.pre enc Tryz.prog Tryz.f8 [] false w args∧laidMetH Tryz.prog laidTab w)∧sizedMet enc Tryz.prog Tryz.f8 (OpenSpec.ofChange Rows.subKindsSpec) false w args)
   (Rows.subKindsSpec.post enc Tryz.prog Tryz.f8 false true false false):=by
 refine returnsInHanded_of_change_and (C:=Tryz.checked) (X:=fun w _=>laidMetH Tryz.prog laidTab w) (fun _ _ _ hh h=>h.of_heap hh) own started (by kernel_rfl) Tryz.func8
  (ChangeSpec.witness_shaped (enc:=enc) (C:=Tryz.checked) (os:=os) (X:=fun w _=>laidMetH Tryz.prog laidTab w) false (World.doorLaid Tryz.prog 400 os) #[.int .i64 0,.slice none 0 0,zero] 8 rfl (World.shaped_of_RefB (by kernel_rfl) (by kernel_rfl)) (by kernel_rfl) (by kernel_rfl) (by kernel_rfl) (door_met os _)) ?_
 intro W base args ds gs before hval hW _ _ hL _
 exact contract H enc W base args ds gs before hval hW hL
theorem over:Rows.SubKindsSaid:=
 OpenClaim.holds_of_wide 8 Tryz.f8 rfl rfl rfl rfl rfl rfl rfl ⟨rfl,rfl,rfl,rfl,rfl⟩ rfl rfl rfl rfl rfl (by kernel_rfl) Tryz.func8 (by kernel_rfl)
  (of_decide_eq_true (by kernel_rfl)) (by unfold Func.isWrapper;first|(rw [if_pos (by decide +kernel)];kernel_rfl)|(rw [if_neg (by decide +kernel)];exact ⟨rfl,rfl⟩))
  (fun os started H enc _=>lifted os started H enc)
theorem noStandIns:∀ (j:Nat) t,Tryz.f8.params[j]?=some t→Tryz.prog.wantsStandIn t=false:=fun j t h=>
 have h1:Tryz.f8.params.toList.all (fun t=>!Tryz.prog.wantsStandIn t)=true:=by kernel_rfl
 have h2:=List.all_eq_true.1 h1 t (by simpa using Array.mem_of_getElem? h)
 by simpa using h2
theorem proved:Rows.SubKindsCardSaid:=
 Claim7.holds_tied_plain_at .later [] [.data] true (true, "f81a571e8e986464aad29f801dbafe427b6d58da40159403b74d5b143a358265") false
  over (fun _ h=>by cases h) (by kernel_rfl) (fun _ h=>by cases h) subKinds_row_tie rfl ⟨rfl,rfl⟩ (by kernel_rfl) rfl
  (fun f fn hf hfn=>by
   obtain rfl:f=8:=Option.some.inj ((show Tryz.prog.funcNamed Rows.subKindsRow.func=some 8 by kernel_rfl).symm.trans hf) |>.symm
   obtain rfl:fn=Tryz.f8:=(Option.some.inj (Tryz.func8.symm.trans hfn)).symm
   exact ⟨by kernel_rfl,noStandIns⟩)
  (by kernel_rfl)
#print axioms proved
end Go.Proofs.YtoklkmdhpjocgaaGreatDoor.subKinds
