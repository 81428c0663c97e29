/- Part of the proof: WFileMends. Conditions: as each statement tells. -/
import Derived.Test.YtlddggjghmobhaaGreatRows
import Derived.WalkKit
import Derived.ProofKit
import Derived.OpenShut
import Derived.Handed
import Derived.Test.YtlddggjghmobhaaGreatMJ
import Derived.Test.YtlddggjghmobhaaGreatMV
noncomputable section
set_option linter.unusedSimpArgs false
set_option linter.unusedVariables false
namespace Go.Proofs.YtlddggjghmobhaaGreat.fileMends
open Go.ChangeShapes Go.WideShapes Go.ChangeAt Go.RowKit Go.Ab
theorem bulkAll {H:Type}:∀ l:List (DataW H),Rows.uptoBulkAll l=(l.map Rows.uptoBulk).sum
 | []=>by simp [Rows.uptoBulkAll]
 |d::r=>by simp [Rows.uptoBulkAll,bulkAll r]
theorem bulk {H:Type}:Bulk (Rows.uptoBulk (H:=H)) where
 one:=fun d=>by
  cases d with
  |lit l=>cases l<;>simp [Rows.uptoBulk]
  |_=>simp [Rows.uptoBulk]
 str:=fun bs=>by simp [Rows.uptoBulk]
 slice:=fun es sp=>by simp only [Rows.uptoBulk,bulkAll];omega
 agg:=fun ps=>by simp only [Rows.uptoBulk,bulkAll];omega
set_option maxRecDepth 100000 in
theorem contract (H:Type) (enc:TypeId×Value→H) (W:World) (base:Nat) (args:Array Value) (ds gs:List (DataW H)) (before:List MemPlace)
  (hval:∀ (j:Nat) t v,Tryz.f7.params[j]?=some t→args[j]?=some v→Value.okWide Tryz.prog W .any base t v)
  (hW:DataW.Whole enc Tryz.prog Tryz.f7.params.toList Rows.fileMendsSpec.vars false W args.toList ds gs before):
  Calls Tryz.prog 7 args W fun e W'=>∃ v,e=.returned v∧Rows.fileMendsSpec.post enc Tryz.prog Tryz.f7 false true false false W args v W':=
 E0k (s:=a5o) (tb:=4) bulk fs7.1 laidOut (by kernel_rfl) rfl (by kernel_rfl) (by kernel_rfl) rfl (fun ds h=>match ds,h with|[_,_,_],_=>rfl)
  (fun x _ _=>by refine ⟨true,?_,rfl⟩;unfold a5o;refine Eq.trans ?_ (b0N x);kernel_rfl) rfl (fun _ _ _ h=>by cases h) hval hW (Nat.le_refl _)
set_option maxRecDepth 100000 in
theorem lifted (os:Os) (started:os.Started) (H:Type) (enc:TypeId×Value→H):
  ReturnsInHanded {} Tryz.checked os 7 .any (Rows.fileMendsSpec.pre6 enc Tryz.prog Tryz.f7 Rows.fileMendsRow.domain false) (Rows.fileMendsSpec.post enc Tryz.prog Tryz.f7 false true false false):=by
 refine returnsInHanded_of_change (C:=Tryz.checked) (s:=Rows.fileMendsSpec) own started (by kernel_rfl) Tryz.func7
  (ChangeSpec.witness6 (enc:=enc) (C:=Tryz.checked) (s:=Rows.fileMendsSpec) false ⟨#[],#[.slice none 0 0,.int .i64 0,.int .u8 0],[]⟩ 8 (by kernel_rfl) (by kernel_rfl) (by kernel_rfl) (by kernel_rfl)) ?_
 intro W base args ds gs before hval hW _ _
 exact contract H enc W base args ds gs before hval hW
theorem and2 {a b:Bool} (ha:a=true) (hb:b=true):(a&&b)=true:=by rw [ha,hb];rfl
theorem joined:joinedFacts Tryz.prog 7 Tryz.f7 Rows.fileMendsSpec Rows.fileMendsRow=true:=by
 unfold joinedFacts
 refine and2 ?_ j31
 refine and2 ?_ j30
 refine and2 ?_ j29
 refine and2 ?_ (by kernel_rfl)
 refine and2 ?_ j27
 refine and2 ?_ j26
 refine and2 ?_ j25
 refine and2 ?_ j24
 refine and2 ?_ j23
 refine and2 ?_ j22
 refine and2 ?_ j21
 refine and2 ?_ j20
 refine and2 ?_ j19
 refine and2 ?_ j18
 refine and2 ?_ j17
 refine and2 ?_ j16
 refine and2 ?_ j15
 refine and2 ?_ j14
 refine and2 ?_ j13
 refine and2 ?_ j12
 refine and2 ?_ j11
 refine and2 ?_ j10
 refine and2 ?_ j9
 refine and2 ?_ j8
 refine and2 ?_ j7
 refine and2 ?_ j6
 refine and2 ?_ j5
 refine and2 ?_ j4
 refine and2 ?_ j3
 refine and2 ?_ j2
 refine and2 ?_ j1
 exact j0
theorem over:Rows.fileMendsRow.holds Tryz.pinned (OpenSpec.ofChange Rows.fileMendsSpec):=
 OpenClaim.holds_of_wide 7 Tryz.f7 rfl rfl rfl rfl rfl rfl rfl ⟨rfl,rfl,rfl,rfl,rfl⟩ rfl rfl rfl rfl rfl pn Tryz.func7 joined
  (of_decide_eq_true (by kernel_rfl)) (by unfold Func.isWrapper;first|(rw [if_pos (by decide +kernel)];kernel_rfl)|(rw [if_neg (by decide +kernel)];exact ⟨rfl,rfl⟩))
  (fun os started H enc _=>lifted os started H enc)
theorem proved:Rows.FileMendsSaid:=
 over
#print axioms proved
end Go.Proofs.YtlddggjghmobhaaGreat.fileMends
