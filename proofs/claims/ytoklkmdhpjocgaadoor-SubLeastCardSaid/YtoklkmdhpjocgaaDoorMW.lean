/- Part of the proof: WLeast. Conditions: as each statement tells. -/
import Derived.Test.YtoklkmdhpjocgaaDoorRows
import Derived.Test.YtoklkmdhpjocgaaDoorCards
import Derived.Test.YtoklkmdhpjocgaaDoorTie
import Derived.WalkKit
import Derived.ProofKit
import Derived.OpenShut
import Derived.Handed
import Derived.SevenTiedAt
import Derived.Test.YtoklkmdhpjocgaaDoorME
noncomputable section
namespace Go.Proofs.YtoklkmdhpjocgaaDoor.subLeast
open Go.ChangeShapes Go.WideShapes Go.ChangeAt Go.RowKit Go.Ab
theorem bulkAll {H:Type}:∀ l:List (DataW H),Rows.uptoBulkAll l=(l.map Rows.uptoBulk).sum
 | []=>by simp [Rows.uptoBulkAll]
 |d::r=>by simp [Rows.uptoBulkAll,bulkAll r]
theorem bulk {H:Type}:Bulk (Rows.uptoBulk (H:=H)) where
 one:=fun d=>by
  cases d with
  |lit l=>cases l<;>simp [Rows.uptoBulk]
  |_=>simp [Rows.uptoBulk]
 str:=fun bs=>by simp [Rows.uptoBulk]
 slice:=fun es sp=>by simp only [Rows.uptoBulk,bulkAll];omega
 agg:=fun ps=>by simp only [Rows.uptoBulk,bulkAll];omega
theorem own:ownKnob Tryd.prog.godebug=none:=by kernel_rfl
theorem laidOut:laidOutB Tryd.prog=true:=by kernel_rfl
set_option maxRecDepth 100000 in
theorem contract (H:Type) (enc:TypeId×Value→H) (W:World) (base:Nat) (args:Array Value) (ds gs:List (DataW H)) (before:List MemPlace)
  (hval:∀ (j:Nat) t v,Tryd.f3.params[j]?=some t→args[j]?=some v→Value.okWide Tryd.prog W .any base t v)
  (hW:DataW.Whole enc Tryd.prog Tryd.f3.params.toList Rows.subLeastSpec.vars false W args.toList ds gs before) (hL:laidMetH Tryd.prog laidTab W):
  Calls Tryd.prog 3 args W fun e W'=>∃ v,e=.returned v∧Rows.subLeastSpec.post enc Tryd.prog Tryd.f3 false true false false W args v W':=
 law_contract (s:=S_l15_SubLeast) (tb:=4) bulk fs3.1 laidOut (by kernel_rfl) rfl (by kernel_rfl) (by kernel_rfl) rfl (fun ds h=>match ds,h with|[_,_,_],_=>rfl)
  (fun x _ _=>⟨true,law_SubLeast x,rfl⟩) (glob_of_laid hL) hval hW (Nat.le_refl _)
set_option maxRecDepth 100000 in
theorem lifted (os:Os) (started:os.Started) (H:Type) (enc:TypeId×Value→H):
  ReturnsInHanded {} Tryd.checked os 3 .any (fun w args=>(Rows.subLeastSpec.pre enc Tryd.prog Tryd.f3 [] false w args∧laidMetH Tryd.prog laidTab w)∧sizedMet enc Tryd.prog Tryd.f3 (OpenSpec.ofChange Rows.subLeastSpec) false w args)
   (Rows.subLeastSpec.post enc Tryd.prog Tryd.f3 false true false false):=by
 refine returnsInHanded_of_change_and (C:=Tryd.checked) (X:=fun w _=>laidMetH Tryd.prog laidTab w) (fun _ _ _ hh h=>h.of_heap hh) own started (by kernel_rfl) Tryd.func3
  (ChangeSpec.witness_shaped (enc:=enc) (C:=Tryd.checked) (os:=os) (X:=fun w _=>laidMetH Tryd.prog laidTab w) false (World.doorLaid Tryd.prog 400 os) #[.slice none 0 0,.int .i64 0,.int .i64 0] 8 rfl (World.shaped_of_RefB (by kernel_rfl) (by kernel_rfl)) (by kernel_rfl) (by kernel_rfl) (by kernel_rfl) (door_met os _)) ?_
 intro W base args ds gs before hval hW _ _ hL _
 exact contract H enc W base args ds gs before hval hW hL
theorem over:Rows.SubLeastSaid:=
 OpenClaim.holds_of_wide 3 Tryd.f3 rfl rfl rfl rfl rfl rfl rfl ⟨rfl,rfl,rfl,rfl,rfl⟩ rfl rfl rfl rfl rfl (by kernel_rfl) Tryd.func3 (by kernel_rfl)
  (of_decide_eq_true (by kernel_rfl)) (by unfold Func.isWrapper;first|(rw [if_pos (by decide +kernel)];kernel_rfl)|(rw [if_neg (by decide +kernel)];exact ⟨rfl,rfl⟩))
  (fun os started H enc _=>lifted os started H enc)
theorem noStandIns:∀ (j:Nat) t,Tryd.f3.params[j]?=some t→Tryd.prog.wantsStandIn t=false:=fun j t h=>
 have h1:Tryd.f3.params.toList.all (fun t=>!Tryd.prog.wantsStandIn t)=true:=by kernel_rfl
 have h2:=List.all_eq_true.1 h1 t (by simpa using Array.mem_of_getElem? h)
 by simpa using h2
theorem proved:Rows.SubLeastCardSaid:=
 Claim7.holds_tied_plain_at .later [] [.data] true (true, "0be7d0859db3d211d24aa2f35eacf36a9a6a38651e4cb450823ebf94e1df3ebe") false
  over (fun _ h=>by cases h) (by kernel_rfl) (fun _ h=>by cases h) subLeast_row_tie rfl ⟨rfl,rfl⟩ (by kernel_rfl) rfl
  (fun f fn hf hfn=>by
   obtain rfl:f=3:=Option.some.inj ((show Tryd.prog.funcNamed Rows.subLeastRow.func=some 3 by kernel_rfl).symm.trans hf) |>.symm
   obtain rfl:fn=Tryd.f3:=(Option.some.inj (Tryd.func3.symm.trans hfn)).symm
   exact ⟨by kernel_rfl,noStandIns⟩)
  (by kernel_rfl)
#print axioms proved
end Go.Proofs.YtoklkmdhpjocgaaDoor.subLeast
