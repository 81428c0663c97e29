/-
  DERIVED. GIVEN WITH THE SEED: THE CARDS: each row of YtoklkmdhpjocgaaDoorRows.lean that lists a variable, with what it lists TIED to the program's text (the seventh form; the later family's looks); each row that meets fmt, with fmt's text TOLD by the authors' own Lean function (tested against real Go, not proved from fmt's source: count such statements apart). THE CARD IS WHAT COUNTS. Prove the row's statement (the work); the ties are given (YtoklkmdhpjocgaaDoorTie.lean); close each card by the builder's one call (the guide's Derived/Test/ToyasCard.lean, 'card_holds'). Laid BY PROGRAM, IN A SANDBOX (cutbox-door.mjs). By AI agents, Wed Nov 11 2026. No macro, syntax, notation, axiom, sorry.
-/
import Derived.Test.YtoklkmdhpjocgaaDoorRows
import GoSem.ClaimSeven
namespace Go.Proofs.YtoklkmdhpjocgaaDoor
namespace Rows

/-- THE TIED CARD OF 'kinoralaw15.SubLeast'. -/
def subLeastCard : Claim7 := { stood := { row := subLeastRow, standIns := [], harness := (true, "0be7d0859db3d211d24aa2f35eacf36a9a6a38651e4cb450823ebf94e1df3ebe"), looks := false }, kinds := [], alts := [], laidByText := true, laidKinds := [.data], laidTests := true, laidLooks := .later }
def SubLeastCardSaid : Prop := Claim7.holds Tryd.pinned (.plain (OpenSpec.ofChange subLeastSpec)) subLeastCard

/-- THE TIED CARD OF 'kinoralaw15.SubParts'. -/
def subPartsCard : Claim7 := { stood := { row := subPartsRow, standIns := [], harness := (true, "0be7d0859db3d211d24aa2f35eacf36a9a6a38651e4cb450823ebf94e1df3ebe"), looks := false }, kinds := [], alts := [], laidByText := true, laidKinds := [.data], laidTests := true, laidLooks := .later }
def SubPartsCardSaid : Prop := Claim7.holds Tryd.pinned (.plain (OpenSpec.ofChange subPartsSpec)) subPartsCard

/-- THE SECOND FORM's CARD OF 'kinoralaw15.SubLeast'. -/
def subLeastUptoCard : Claim7 := { stood := { row := subLeastUptoRow, standIns := [], harness := (true, "0be7d0859db3d211d24aa2f35eacf36a9a6a38651e4cb450823ebf94e1df3ebe"), looks := false }, kinds := [], alts := [], laidByText := true, laidKinds := [.data], laidTests := true, laidLooks := .later }
def SubLeastUptoCardSaid : Prop := Claim7.holds Tryd.pinned (.plain (OpenSpec.upto subLeastSpec)) subLeastUptoCard

/-- THE SECOND FORM's CARD OF 'kinoralaw15.SubParts'. -/
def subPartsUptoCard : Claim7 := { stood := { row := subPartsUptoRow, standIns := [], harness := (true, "0be7d0859db3d211d24aa2f35eacf36a9a6a38651e4cb450823ebf94e1df3ebe"), looks := false }, kinds := [], alts := [], laidByText := true, laidKinds := [.data], laidTests := true, laidLooks := .later }
def SubPartsUptoCardSaid : Prop := Claim7.holds Tryd.pinned (.plain (OpenSpec.upto subPartsSpec)) subPartsUptoCard
end Rows
end Go.Proofs.YtoklkmdhpjocgaaDoor
