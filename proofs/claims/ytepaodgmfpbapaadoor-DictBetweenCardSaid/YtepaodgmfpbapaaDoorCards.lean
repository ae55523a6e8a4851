/-
  DERIVED. GIVEN WITH THE SEED: THE CARDS: each row of YtepaodgmfpbapaaDoorRows.lean that lists a variable, with what it lists TIED to the program's text (the seventh form; the later family's looks); each row that meets fmt, with fmt's text TOLD by the authors' own Lean function (tested against real Go, not proved from fmt's source: count such statements apart). THE CARD IS WHAT COUNTS. Prove the row's statement (the work); the ties are given (YtepaodgmfpbapaaDoorTie.lean); close each card by the builder's one call (the guide's Derived/Test/ToyasCard.lean, 'card_holds'). Laid BY PROGRAM, IN A SANDBOX (cutbox-door.mjs). By AI agents, Wed Nov 11 2026. No macro, syntax, notation, axiom, sorry.
-/
import Derived.Test.YtepaodgmfpbapaaDoorRows
import GoSem.ClaimSeven
namespace Go.Proofs.YtepaodgmfpbapaaDoor
namespace Rows

/-- THE TIED CARD OF 'rubricklaw10.DictBack'. -/
def dictBackCard : Claim7 := { stood := { row := dictBackRow, standIns := [], harness := (true, "07e34905f2d616eede7a6ac96e5fbe4e725cb9a909cba77801c35734f2481987"), looks := false }, kinds := [], alts := [], laidByText := true, laidKinds := [.data, .data, .data, .data], laidTests := true, laidLooks := .later }
def DictBackCardSaid : Prop := Claim7.holds Tryd.pinned (.plain (OpenSpec.ofChange dictBackSpec)) dictBackCard

/-- THE TIED CARD OF 'rubricklaw10.DictBetween'. -/
def dictBetweenCard : Claim7 := { stood := { row := dictBetweenRow, standIns := [], harness := (true, "07e34905f2d616eede7a6ac96e5fbe4e725cb9a909cba77801c35734f2481987"), looks := false }, kinds := [], alts := [], laidByText := true, laidKinds := [.data, .data, .data, .data], laidTests := true, laidLooks := .later }
def DictBetweenCardSaid : Prop := Claim7.holds Tryd.pinned (.plain (OpenSpec.ofChange dictBetweenSpec)) dictBetweenCard

/-- THE SECOND FORM's CARD OF 'rubricklaw10.DictBack'. -/
def dictBackUptoCard : Claim7 := { stood := { row := dictBackUptoRow, standIns := [], harness := (true, "07e34905f2d616eede7a6ac96e5fbe4e725cb9a909cba77801c35734f2481987"), looks := false }, kinds := [], alts := [], laidByText := true, laidKinds := [.data, .data, .data, .data], laidTests := true, laidLooks := .later }
def DictBackUptoCardSaid : Prop := Claim7.holds Tryd.pinned (.plain (OpenSpec.upto dictBackSpec)) dictBackUptoCard

/-- THE SECOND FORM's CARD OF 'rubricklaw10.DictBetween'. -/
def dictBetweenUptoCard : Claim7 := { stood := { row := dictBetweenUptoRow, standIns := [], harness := (true, "07e34905f2d616eede7a6ac96e5fbe4e725cb9a909cba77801c35734f2481987"), looks := false }, kinds := [], alts := [], laidByText := true, laidKinds := [.data, .data, .data, .data], laidTests := true, laidLooks := .later }
def DictBetweenUptoCardSaid : Prop := Claim7.holds Tryd.pinned (.plain (OpenSpec.upto dictBetweenSpec)) dictBetweenUptoCard
end Rows
end Go.Proofs.YtepaodgmfpbapaaDoor
