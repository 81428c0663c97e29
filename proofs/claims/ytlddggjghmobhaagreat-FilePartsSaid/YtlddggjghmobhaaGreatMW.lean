/- Part of the proof: WFileParts. Conditions: as each statement tells. -/
import Derived.Test.YtlddggjghmobhaaGreatRows
import Derived.WalkKit
import Derived.ProofKit
import Derived.OpenShut
import Derived.Handed
import Derived.Test.YtlddggjghmobhaaGreatMJ
import Derived.Test.YtlddggjghmobhaaGreatMV
noncomputable section
set_option linter.unusedSimpArgs false
set_option linter.unusedVariables false
namespace Go.Proofs.YtlddggjghmobhaaGreat.fileParts
open Go.ChangeShapes Go.WideShapes Go.ChangeAt Go.RowKit Go.Ab
theorem bulkAll {H:Type}:∀ l:List (DataW H),Rows.uptoBulkAll l=(l.map Rows.uptoBulk).sum
 | []=>by simp [Rows.uptoBulkAll]
 |d::r=>by simp [Rows.uptoBulkAll,bulkAll r]
theorem bulk {H:Type}:Bulk (Rows.uptoBulk (H:=H)) where
 one:=fun d=>by
  cases d with
  |lit l=>cases l<;>simp [Rows.uptoBulk]
  |_=>simp [Rows.uptoBulk]
 str:=fun bs=>by simp [Rows.uptoBulk]
 slice:=fun es sp=>by simp only [Rows.uptoBulk,bulkAll];omega
 agg:=fun ps=>by simp only [Rows.uptoBulk,bulkAll];omega
set_option maxRecDepth 100000 in
theorem contract (H:Type) (enc:TypeId×Value→H) (W:World) (base:Nat) (args:Array Value) (ds gs:List (DataW H)) (before:List MemPlace)
  (hval:∀ (j:Nat) t v,Tryz.f5.params[j]?=some t→args[j]?=some v→Value.okWide Tryz.prog W .any base t v)
  (hW:DataW.Whole enc Tryz.prog Tryz.f5.params.toList Rows.filePartsSpec.vars false W args.toList ds gs before):
  Calls Tryz.prog 5 args W fun e W'=>∃ v,e=.returned v∧Rows.filePartsSpec.post enc Tryz.prog Tryz.f5 false true false false W args v W':=
 E0k (s:=a5A) (tb:=4) bulk fs5.1 laidOut (by kernel_rfl) rfl (by kernel_rfl) (by kernel_rfl) rfl (fun ds h=>match ds,h with|[_,_],_=>rfl)
  (fun x _ _=>by refine ⟨true,?_,rfl⟩;unfold a5A;refine Eq.trans ?_ (b1h x);kernel_rfl) rfl (fun _ _ _ h=>by cases h) hval hW (Nat.le_refl _)
set_option maxRecDepth 100000 in
theorem lifted (os:Os) (started:os.Started) (H:Type) (enc:TypeId×Value→H):
  ReturnsInHanded {} Tryz.checked os 5 .any (Rows.filePartsSpec.pre6 enc Tryz.prog Tryz.f5 Rows.filePartsRow.domain false) (Rows.filePartsSpec.post enc Tryz.prog Tryz.f5 false true false false):=by
 refine returnsInHanded_of_change (C:=Tryz.checked) (s:=Rows.filePartsSpec) own started (by kernel_rfl) Tryz.func5
  (ChangeSpec.witness6 (enc:=enc) (C:=Tryz.checked) (s:=Rows.filePartsSpec) false ⟨#[],#[.slice none 0 0,.slice none 0 0],[]⟩ 8 (by kernel_rfl) (by kernel_rfl) (by kernel_rfl) (by kernel_rfl)) ?_
 intro W base args ds gs before hval hW _ _
 exact contract H enc W base args ds gs before hval hW
theorem and2 {a b:Bool} (ha:a=true) (hb:b=true):(a&&b)=true:=by rw [ha,hb];rfl
theorem joined:joinedFacts Tryz.prog 5 Tryz.f5 Rows.filePartsSpec Rows.filePartsRow=true:=by
 unfold joinedFacts
 refine and2 ?_ j31
 refine and2 ?_ j30
 refine and2 ?_ j29
 refine and2 ?_ (by kernel_rfl)
 refine and2 ?_ j27
 refine and2 ?_ j26
 refine and2 ?_ j25
 refine and2 ?_ j24
 refine and2 ?_ j23
 refine and2 ?_ j22
 refine and2 ?_ j21
 refine and2 ?_ j20
 refine and2 ?_ j19
 refine and2 ?_ j18
 refine and2 ?_ j17
 refine and2 ?_ j16
 refine and2 ?_ j15
 refine and2 ?_ j14
 refine and2 ?_ j13
 refine and2 ?_ j12
 refine and2 ?_ j11
 refine and2 ?_ j10
 refine and2 ?_ j9
 refine and2 ?_ j8
 refine and2 ?_ j7
 refine and2 ?_ j6
 refine and2 ?_ j5
 refine and2 ?_ j4
 refine and2 ?_ j3
 refine and2 ?_ j2
 refine and2 ?_ j1
 exact j0
theorem over:Rows.filePartsRow.holds Tryz.pinned (OpenSpec.ofChange Rows.filePartsSpec):=
 OpenClaim.holds_of_wide 5 Tryz.f5 rfl rfl rfl rfl rfl rfl rfl ⟨rfl,rfl,rfl,rfl,rfl⟩ rfl rfl rfl rfl rfl pn Tryz.func5 joined
  (of_decide_eq_true (by kernel_rfl)) (by unfold Func.isWrapper;first|(rw [if_pos (by decide +kernel)];kernel_rfl)|(rw [if_neg (by decide +kernel)];exact ⟨rfl,rfl⟩))
  (fun os started H enc _=>lifted os started H enc)
theorem proved:Rows.FilePartsSaid:=
 over
#print axioms proved
end Go.Proofs.YtlddggjghmobhaaGreat.fileParts
