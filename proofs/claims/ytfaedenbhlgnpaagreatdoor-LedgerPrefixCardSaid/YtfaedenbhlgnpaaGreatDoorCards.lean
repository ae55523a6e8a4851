/-
  DERIVED. GIVEN WITH THE SEED: THE CARDS: each row of YtfaedenbhlgnpaaGreatDoorRows.lean that lists a variable, with what it lists TIED to the program's text (the seventh form; the later family's looks); each row that meets fmt, with fmt's text TOLD by the authors' own Lean function (tested against real Go, not proved from fmt's source: count such statements apart). THE CARD IS WHAT COUNTS. Prove the row's statement (the work); the ties are given (YtfaedenbhlgnpaaGreatDoorTie.lean); close each card by the builder's one call (the guide's Derived/Test/ToyasCard.lean, 'card_holds'). Laid BY PROGRAM, IN A SANDBOX (cutbox-door.mjs). By AI agents, Wed Nov 11 2026. No macro, syntax, notation, axiom, sorry.
-/
import Derived.Test.YtfaedenbhlgnpaaGreatDoorRows
import GoSem.ClaimSeven
namespace Go.Proofs.YtfaedenbhlgnpaaGreatDoor
namespace Rows

/-- THE TIED CARD OF 'rubricklaw23.KeepHappens'. -/
def keepHappensCard : Claim7 := { stood := { row := keepHappensRow, standIns := [], harness := (true, "d3e8f538d7f5eccfb24497adad66b2d32ded586d19a425b8a3686fae6d80db4c"), looks := false }, kinds := [], alts := [], laidByText := true, laidKinds := [.data, .data], laidTests := true, laidLooks := .later }
def KeepHappensCardSaid : Prop := Claim7.holds Tryz.pinned (.plain (OpenSpec.ofChange keepHappensSpec)) keepHappensCard

/-- THE TIED CARD OF 'rubricklaw23.KeepCuts'. -/
def keepCutsCard : Claim7 := { stood := { row := keepCutsRow, standIns := [], harness := (true, "d3e8f538d7f5eccfb24497adad66b2d32ded586d19a425b8a3686fae6d80db4c"), looks := false }, kinds := [], alts := [], laidByText := true, laidKinds := [.data, .data], laidTests := true, laidLooks := .later }
def KeepCutsCardSaid : Prop := Claim7.holds Tryz.pinned (.plain (OpenSpec.ofChange keepCutsSpec)) keepCutsCard

/-- THE TIED CARD OF 'rubricklaw23.KeepGoes'. -/
def keepGoesCard : Claim7 := { stood := { row := keepGoesRow, standIns := [], harness := (true, "d3e8f538d7f5eccfb24497adad66b2d32ded586d19a425b8a3686fae6d80db4c"), looks := false }, kinds := [], alts := [], laidByText := true, laidKinds := [.data, .data], laidTests := true, laidLooks := .later }
def KeepGoesCardSaid : Prop := Claim7.holds Tryz.pinned (.plain (OpenSpec.ofChange keepGoesSpec)) keepGoesCard

/-- THE TIED CARD OF 'rubricklaw23.KeepTells'. -/
def keepTellsCard : Claim7 := { stood := { row := keepTellsRow, standIns := [], harness := (true, "d3e8f538d7f5eccfb24497adad66b2d32ded586d19a425b8a3686fae6d80db4c"), looks := false }, kinds := [], alts := [], laidByText := true, laidKinds := [.data, .data], laidTests := true, laidLooks := .later }
def KeepTellsCardSaid : Prop := Claim7.holds Tryz.pinned (.plain (OpenSpec.ofChange keepTellsSpec)) keepTellsCard

/-- THE TIED CARD OF 'rubricklaw24.LedgerPrefix'. -/
def ledgerPrefixCard : Claim7 := { stood := { row := ledgerPrefixRow, standIns := [], harness := (true, "d3e8f538d7f5eccfb24497adad66b2d32ded586d19a425b8a3686fae6d80db4c"), looks := false }, kinds := [], alts := [], laidByText := true, laidKinds := [.data, .data], laidTests := true, laidLooks := .later }
def LedgerPrefixCardSaid : Prop := Claim7.holds Tryz.pinned (.plain (OpenSpec.ofChange ledgerPrefixSpec)) ledgerPrefixCard

/-- THE SECOND FORM's CARD OF 'rubricklaw23.KeepHappens'. -/
def keepHappensUptoCard : Claim7 := { stood := { row := keepHappensUptoRow, standIns := [], harness := (true, "d3e8f538d7f5eccfb24497adad66b2d32ded586d19a425b8a3686fae6d80db4c"), looks := false }, kinds := [], alts := [], laidByText := true, laidKinds := [.data, .data], laidTests := true, laidLooks := .later }
def KeepHappensUptoCardSaid : Prop := Claim7.holds Tryz.pinned (.plain (OpenSpec.upto keepHappensSpec)) keepHappensUptoCard

/-- THE SECOND FORM's CARD OF 'rubricklaw23.KeepCuts'. -/
def keepCutsUptoCard : Claim7 := { stood := { row := keepCutsUptoRow, standIns := [], harness := (true, "d3e8f538d7f5eccfb24497adad66b2d32ded586d19a425b8a3686fae6d80db4c"), looks := false }, kinds := [], alts := [], laidByText := true, laidKinds := [.data, .data], laidTests := true, laidLooks := .later }
def KeepCutsUptoCardSaid : Prop := Claim7.holds Tryz.pinned (.plain (OpenSpec.upto keepCutsSpec)) keepCutsUptoCard

/-- THE SECOND FORM's CARD OF 'rubricklaw23.KeepGoes'. -/
def keepGoesUptoCard : Claim7 := { stood := { row := keepGoesUptoRow, standIns := [], harness := (true, "d3e8f538d7f5eccfb24497adad66b2d32ded586d19a425b8a3686fae6d80db4c"), looks := false }, kinds := [], alts := [], laidByText := true, laidKinds := [.data, .data], laidTests := true, laidLooks := .later }
def KeepGoesUptoCardSaid : Prop := Claim7.holds Tryz.pinned (.plain (OpenSpec.upto keepGoesSpec)) keepGoesUptoCard

/-- THE SECOND FORM's CARD OF 'rubricklaw23.KeepTells'. -/
def keepTellsUptoCard : Claim7 := { stood := { row := keepTellsUptoRow, standIns := [], harness := (true, "d3e8f538d7f5eccfb24497adad66b2d32ded586d19a425b8a3686fae6d80db4c"), looks := false }, kinds := [], alts := [], laidByText := true, laidKinds := [.data, .data], laidTests := true, laidLooks := .later }
def KeepTellsUptoCardSaid : Prop := Claim7.holds Tryz.pinned (.plain (OpenSpec.upto keepTellsSpec)) keepTellsUptoCard

/-- THE SECOND FORM's CARD OF 'rubricklaw24.LedgerPrefix'. -/
def ledgerPrefixUptoCard : Claim7 := { stood := { row := ledgerPrefixUptoRow, standIns := [], harness := (true, "d3e8f538d7f5eccfb24497adad66b2d32ded586d19a425b8a3686fae6d80db4c"), looks := false }, kinds := [], alts := [], laidByText := true, laidKinds := [.data, .data], laidTests := true, laidLooks := .later }
def LedgerPrefixUptoCardSaid : Prop := Claim7.holds Tryz.pinned (.plain (OpenSpec.upto ledgerPrefixSpec)) ledgerPrefixUptoCard
end Rows
end Go.Proofs.YtfaedenbhlgnpaaGreatDoor
