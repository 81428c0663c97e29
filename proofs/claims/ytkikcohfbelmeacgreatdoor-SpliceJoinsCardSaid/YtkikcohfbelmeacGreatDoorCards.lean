/-
  DERIVED. GIVEN WITH THE SEED: THE CARDS: each row of YtkikcohfbelmeacGreatDoorRows.lean that lists a variable, with what it lists TIED to the program's text (the seventh form; the later family's looks); each row that meets fmt, with fmt's text TOLD by the authors' own Lean function (tested against real Go, not proved from fmt's source: count such statements apart). THE CARD IS WHAT COUNTS. Prove the row's statement (the work); the ties are given (YtkikcohfbelmeacGreatDoorTie.lean); close each card by the builder's one call (the guide's Derived/Test/ToyasCard.lean, 'card_holds'). Laid BY PROGRAM, IN A SANDBOX (cutbox-door.mjs). By AI agents, Wed Nov 11 2026. No macro, syntax, notation, axiom, sorry.
-/
import Derived.Test.YtkikcohfbelmeacGreatDoorRows
import GoSem.ClaimSeven
namespace Go.Proofs.YtkikcohfbelmeacGreatDoor
namespace Rows

/-- THE TIED CARD OF 'kinoralaw19.SpliceJoins'. -/
def spliceJoinsCard : Claim7 := { stood := { row := spliceJoinsRow, standIns := [], harness := (true, "71c7f671e7f407b38f135708f168015e41e543a0bd534d9637b3c89614a394b5"), looks := false }, kinds := [], alts := [], laidByText := true, laidKinds := [.data], laidTests := true, laidLooks := .later }
def SpliceJoinsCardSaid : Prop := Claim7.holds Tryz.pinned (.plain (OpenSpec.ofChange spliceJoinsSpec)) spliceJoinsCard

/-- THE SECOND FORM's CARD OF 'kinoralaw19.SpliceJoins'. -/
def spliceJoinsUptoCard : Claim7 := { stood := { row := spliceJoinsUptoRow, standIns := [], harness := (true, "71c7f671e7f407b38f135708f168015e41e543a0bd534d9637b3c89614a394b5"), looks := false }, kinds := [], alts := [], laidByText := true, laidKinds := [.data], laidTests := true, laidLooks := .later }
def SpliceJoinsUptoCardSaid : Prop := Claim7.holds Tryz.pinned (.plain (OpenSpec.upto spliceJoinsSpec)) spliceJoinsUptoCard
end Rows
end Go.Proofs.YtkikcohfbelmeacGreatDoor
