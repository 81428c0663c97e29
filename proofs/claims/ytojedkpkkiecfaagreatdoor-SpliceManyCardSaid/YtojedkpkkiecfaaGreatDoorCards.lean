/-
  DERIVED. GIVEN WITH THE SEED: THE CARDS: each row of YtojedkpkkiecfaaGreatDoorRows.lean that lists a variable, with what it lists TIED to the program's text (the seventh form; the later family's looks); each row that meets fmt, with fmt's text TOLD by the authors' own Lean function (tested against real Go, not proved from fmt's source: count such statements apart). THE CARD IS WHAT COUNTS. Prove the row's statement (the work); the ties are given (YtojedkpkkiecfaaGreatDoorTie.lean); close each card by the builder's one call (the guide's Derived/Test/ToyasCard.lean, 'card_holds'). Laid BY PROGRAM, IN A SANDBOX (cutbox-door.mjs). By AI agents, Wed Nov 11 2026. No macro, syntax, notation, axiom, sorry.
-/
import Derived.Test.YtojedkpkkiecfaaGreatDoorRows
import GoSem.ClaimSeven
namespace Go.Proofs.YtojedkpkkiecfaaGreatDoor
namespace Rows

/-- THE TIED CARD OF 'kinoralaw19.SpliceIs'. -/
def spliceIsCard : Claim7 := { stood := { row := spliceIsRow, standIns := [], harness := (true, "fa530336ce16edd43212b86a0bd67d274e18de52651cbc783f129ce35eb87c66"), looks := false }, kinds := [], alts := [], laidByText := true, laidKinds := [.data], laidTests := true, laidLooks := .later }
def SpliceIsCardSaid : Prop := Claim7.holds Tryz.pinned (.plain (OpenSpec.ofChange spliceIsSpec)) spliceIsCard

/-- THE TIED CARD OF 'kinoralaw19.SpliceFrames'. -/
def spliceFramesCard : Claim7 := { stood := { row := spliceFramesRow, standIns := [], harness := (true, "fa530336ce16edd43212b86a0bd67d274e18de52651cbc783f129ce35eb87c66"), looks := false }, kinds := [], alts := [], laidByText := true, laidKinds := [.data], laidTests := true, laidLooks := .later }
def SpliceFramesCardSaid : Prop := Claim7.holds Tryz.pinned (.plain (OpenSpec.ofChange spliceFramesSpec)) spliceFramesCard

/-- THE TIED CARD OF 'kinoralaw19.SpliceBoth'. -/
def spliceBothCard : Claim7 := { stood := { row := spliceBothRow, standIns := [], harness := (true, "fa530336ce16edd43212b86a0bd67d274e18de52651cbc783f129ce35eb87c66"), looks := false }, kinds := [], alts := [], laidByText := true, laidKinds := [.data], laidTests := true, laidLooks := .later }
def SpliceBothCardSaid : Prop := Claim7.holds Tryz.pinned (.plain (OpenSpec.ofChange spliceBothSpec)) spliceBothCard

/-- THE TIED CARD OF 'kinoralaw19.SpliceHalves'. -/
def spliceHalvesCard : Claim7 := { stood := { row := spliceHalvesRow, standIns := [], harness := (true, "fa530336ce16edd43212b86a0bd67d274e18de52651cbc783f129ce35eb87c66"), looks := false }, kinds := [], alts := [], laidByText := true, laidKinds := [.data], laidTests := true, laidLooks := .later }
def SpliceHalvesCardSaid : Prop := Claim7.holds Tryz.pinned (.plain (OpenSpec.ofChange spliceHalvesSpec)) spliceHalvesCard

/-- THE TIED CARD OF 'kinoralaw19.SpliceOrder'. -/
def spliceOrderCard : Claim7 := { stood := { row := spliceOrderRow, standIns := [], harness := (true, "fa530336ce16edd43212b86a0bd67d274e18de52651cbc783f129ce35eb87c66"), looks := false }, kinds := [], alts := [], laidByText := true, laidKinds := [.data], laidTests := true, laidLooks := .later }
def SpliceOrderCardSaid : Prop := Claim7.holds Tryz.pinned (.plain (OpenSpec.ofChange spliceOrderSpec)) spliceOrderCard

/-- THE TIED CARD OF 'kinoralaw19.SpliceMany'. -/
def spliceManyCard : Claim7 := { stood := { row := spliceManyRow, standIns := [], harness := (true, "fa530336ce16edd43212b86a0bd67d274e18de52651cbc783f129ce35eb87c66"), looks := false }, kinds := [], alts := [], laidByText := true, laidKinds := [.data], laidTests := true, laidLooks := .later }
def SpliceManyCardSaid : Prop := Claim7.holds Tryz.pinned (.plain (OpenSpec.ofChange spliceManySpec)) spliceManyCard

/-- THE SECOND FORM's CARD OF 'kinoralaw19.SpliceIs'. -/
def spliceIsUptoCard : Claim7 := { stood := { row := spliceIsUptoRow, standIns := [], harness := (true, "fa530336ce16edd43212b86a0bd67d274e18de52651cbc783f129ce35eb87c66"), looks := false }, kinds := [], alts := [], laidByText := true, laidKinds := [.data], laidTests := true, laidLooks := .later }
def SpliceIsUptoCardSaid : Prop := Claim7.holds Tryz.pinned (.plain (OpenSpec.upto spliceIsSpec)) spliceIsUptoCard

/-- THE SECOND FORM's CARD OF 'kinoralaw19.SpliceFrames'. -/
def spliceFramesUptoCard : Claim7 := { stood := { row := spliceFramesUptoRow, standIns := [], harness := (true, "fa530336ce16edd43212b86a0bd67d274e18de52651cbc783f129ce35eb87c66"), looks := false }, kinds := [], alts := [], laidByText := true, laidKinds := [.data], laidTests := true, laidLooks := .later }
def SpliceFramesUptoCardSaid : Prop := Claim7.holds Tryz.pinned (.plain (OpenSpec.upto spliceFramesSpec)) spliceFramesUptoCard

/-- THE SECOND FORM's CARD OF 'kinoralaw19.SpliceBoth'. -/
def spliceBothUptoCard : Claim7 := { stood := { row := spliceBothUptoRow, standIns := [], harness := (true, "fa530336ce16edd43212b86a0bd67d274e18de52651cbc783f129ce35eb87c66"), looks := false }, kinds := [], alts := [], laidByText := true, laidKinds := [.data], laidTests := true, laidLooks := .later }
def SpliceBothUptoCardSaid : Prop := Claim7.holds Tryz.pinned (.plain (OpenSpec.upto spliceBothSpec)) spliceBothUptoCard

/-- THE SECOND FORM's CARD OF 'kinoralaw19.SpliceHalves'. -/
def spliceHalvesUptoCard : Claim7 := { stood := { row := spliceHalvesUptoRow, standIns := [], harness := (true, "fa530336ce16edd43212b86a0bd67d274e18de52651cbc783f129ce35eb87c66"), looks := false }, kinds := [], alts := [], laidByText := true, laidKinds := [.data], laidTests := true, laidLooks := .later }
def SpliceHalvesUptoCardSaid : Prop := Claim7.holds Tryz.pinned (.plain (OpenSpec.upto spliceHalvesSpec)) spliceHalvesUptoCard

/-- THE SECOND FORM's CARD OF 'kinoralaw19.SpliceOrder'. -/
def spliceOrderUptoCard : Claim7 := { stood := { row := spliceOrderUptoRow, standIns := [], harness := (true, "fa530336ce16edd43212b86a0bd67d274e18de52651cbc783f129ce35eb87c66"), looks := false }, kinds := [], alts := [], laidByText := true, laidKinds := [.data], laidTests := true, laidLooks := .later }
def SpliceOrderUptoCardSaid : Prop := Claim7.holds Tryz.pinned (.plain (OpenSpec.upto spliceOrderSpec)) spliceOrderUptoCard

/-- THE SECOND FORM's CARD OF 'kinoralaw19.SpliceMany'. -/
def spliceManyUptoCard : Claim7 := { stood := { row := spliceManyUptoRow, standIns := [], harness := (true, "fa530336ce16edd43212b86a0bd67d274e18de52651cbc783f129ce35eb87c66"), looks := false }, kinds := [], alts := [], laidByText := true, laidKinds := [.data], laidTests := true, laidLooks := .later }
def SpliceManyUptoCardSaid : Prop := Claim7.holds Tryz.pinned (.plain (OpenSpec.upto spliceManySpec)) spliceManyUptoCard
end Rows
end Go.Proofs.YtojedkpkkiecfaaGreatDoor
