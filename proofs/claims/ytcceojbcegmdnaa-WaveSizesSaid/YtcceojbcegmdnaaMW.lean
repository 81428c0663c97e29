import Derived.Test.YtcceojbcegmdnaaRows
import Derived.WalkKit
import Derived.ProofKit
import Derived.OpenShut
import Derived.Handed
import Derived.Test.YtcceojbcegmdnaaMP
import Derived.Test.YtcceojbcegmdnaaMS
/- WaveSizes: the row. Conditions: none. -/
namespace Go.Proofs.Ytcceojbcegmdnaa.waveSizes
open Go.ChangeShapes Go.WideShapes Go.ChangeAt Go.RowKit Go.Ab

theorem bulkAll {H : Type} : ∀ l : List (DataW H), Rows.uptoBulkAll l = (l.map Rows.uptoBulk).sum
  | [] => by simp [Rows.uptoBulkAll]
  | d :: r => by simp [Rows.uptoBulkAll, bulkAll r]

theorem bulk {H : Type} : Bulk (Rows.uptoBulk (H := H)) where
  one := fun d => by
    cases d with
    | lit l => cases l <;> simp [Rows.uptoBulk]
    | _ => simp [Rows.uptoBulk]
  str := fun bs => by simp [Rows.uptoBulk]
  slice := fun es sp => by simp only [Rows.uptoBulk, bulkAll]; omega
  agg := fun ps => by simp only [Rows.uptoBulk, bulkAll]; omega

theorem own : ownKnob Try.prog.godebug = none := by kernel_rfl

theorem bytes_wf {l : List Int} (h : Wf (.list false (.int .u8)) l) : ∀ b ∈ l, 0 ≤ b ∧ b < 256 := fun b hb => by
  have := h b hb
  simp [Wf, Lit.wf, IntKind.min, IntKind.max, IntKind.signed, IntKind.bits] at this
  omega

theorem contract (H : Type) (enc : TypeId × Value → H) (W : World) (base : Nat) (args : Array Value) (ds gs : List (DataW H)) (before : List MemPlace)
    (hval : ∀ (j : Nat) t v, Try.f8.params[j]? = some t → args[j]? = some v → Value.okWide Try.prog W .any base t v)
    (hW : DataW.Whole enc Try.prog Try.f8.params.toList Rows.waveSizesSpec.vars false W args.toList ds gs before) :
    Calls Try.prog 8 args W fun e W' => ∃ v, e = .returned v ∧ Rows.waveSizesSpec.post enc Try.prog Try.f8 false true false false W args v W' :=
  law_contract (s := S_kinoralaw18_WaveSizes) (tb := 4) bulk fs8.1 laidOut (by kernel_rfl) rfl (by kernel_rfl) (by kernel_rfl) rfl (fun ds h => match ds, h with | [_, _], _ => rfl) (fun x h _ => ⟨true, law_WaveSizes x.1 x.2, rfl⟩) hval hW (Nat.le_refl _)

set_option maxRecDepth 100000 in
theorem lifted (os : Os) (started : os.Started) (H : Type) (enc : TypeId × Value → H) :
    ReturnsInHanded {} Try.checked os 8 .any (Rows.waveSizesSpec.pre6 enc Try.prog Try.f8 Rows.waveSizesRow.domain false) (Rows.waveSizesSpec.post enc Try.prog Try.f8 false true false false) := by
  refine returnsInHanded_of_change (C := Try.checked) (s := Rows.waveSizesSpec) own started (by kernel_rfl) Try.func8
    (ChangeSpec.witness6 (enc := enc) (C := Try.checked) (s := Rows.waveSizesSpec) false ⟨#[], #[.agg #[.int .i64 0, .int .i64 0, .int .i64 0], .slice none 0 0], []⟩ 8 (by kernel_rfl) (by kernel_rfl) (by kernel_rfl) (by kernel_rfl)) ?_
  intro W base args ds gs before hval hW _ _
  exact contract H enc W base args ds gs before hval hW

theorem over : Rows.waveSizesRow.holds Try.pinned (OpenSpec.ofChange Rows.waveSizesSpec) :=
  OpenClaim.holds_of_wide 8 Try.f8 rfl rfl rfl rfl rfl rfl rfl ⟨rfl, rfl, rfl, rfl, rfl⟩ rfl rfl rfl rfl rfl (by kernel_rfl) Try.func8 (by kernel_rfl)
    (of_decide_eq_true (by kernel_rfl)) (by unfold Func.isWrapper; first | (rw [if_pos (by decide +kernel)]; kernel_rfl) | (rw [if_neg (by decide +kernel)]; exact ⟨rfl, rfl⟩))
    (fun os started H enc _ => lifted os started H enc)

theorem proved : Rows.WaveSizesSaid :=
  over
end Go.Proofs.Ytcceojbcegmdnaa.waveSizes
