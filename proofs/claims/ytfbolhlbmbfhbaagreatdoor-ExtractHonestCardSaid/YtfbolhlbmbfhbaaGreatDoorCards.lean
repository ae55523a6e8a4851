/-
  DERIVED. GIVEN WITH THE SEED: THE CARDS: each row of YtfbolhlbmbfhbaaGreatDoorRows.lean that lists a variable, with what it lists TIED to the program's text (the seventh form; the later family's looks); each row that meets fmt, with fmt's text TOLD by the authors' own Lean function (tested against real Go, not proved from fmt's source: count such statements apart). THE CARD IS WHAT COUNTS. Prove the row's statement (the work); the ties are given (YtfbolhlbmbfhbaaGreatDoorTie.lean); close each card by the builder's one call (the guide's Derived/Test/ToyasCard.lean, 'card_holds'). Laid BY PROGRAM, IN A SANDBOX (cutbox-door.mjs). By AI agents, Wed Nov 11 2026. No macro, syntax, notation, axiom, sorry.
-/
import Derived.Test.YtfbolhlbmbfhbaaGreatDoorRows
import GoSem.ClaimSeven
namespace Go.Proofs.YtfbolhlbmbfhbaaGreatDoor
namespace Rows

/-- THE TIED CARD OF 'rubricklaw21.ExtractSound'. -/
def extractSoundCard : Claim7 := { stood := { row := extractSoundRow, standIns := [], harness := (true, "c70c1d6a804bd77ebe86cdf3e070491cf1d1b745144d190bb599eff403af650b"), looks := false }, kinds := [], alts := [], laidByText := true, laidKinds := [.data, .data, .data, .data], laidTests := true, laidLooks := .later }
def ExtractSoundCardSaid : Prop := Claim7.holds Tryz.pinned (.plain (OpenSpec.ofChange extractSoundSpec)) extractSoundCard

/-- THE TIED CARD OF 'rubricklaw21.ExtractPages'. -/
def extractPagesCard : Claim7 := { stood := { row := extractPagesRow, standIns := [], harness := (true, "c70c1d6a804bd77ebe86cdf3e070491cf1d1b745144d190bb599eff403af650b"), looks := false }, kinds := [], alts := [], laidByText := true, laidKinds := [.data, .data, .data, .data], laidTests := true, laidLooks := .later }
def ExtractPagesCardSaid : Prop := Claim7.holds Tryz.pinned (.plain (OpenSpec.ofChange extractPagesSpec)) extractPagesCard

/-- THE TIED CARD OF 'rubricklaw21.ExtractTells'. -/
def extractTellsCard : Claim7 := { stood := { row := extractTellsRow, standIns := [], harness := (true, "c70c1d6a804bd77ebe86cdf3e070491cf1d1b745144d190bb599eff403af650b"), looks := false }, kinds := [], alts := [], laidByText := true, laidKinds := [.data, .data, .data, .data], laidTests := true, laidLooks := .later }
def ExtractTellsCardSaid : Prop := Claim7.holds Tryz.pinned (.plain (OpenSpec.ofChange extractTellsSpec)) extractTellsCard

/-- THE TIED CARD OF 'rubricklaw21.ExtractSteps'. -/
def extractStepsCard : Claim7 := { stood := { row := extractStepsRow, standIns := [], harness := (true, "c70c1d6a804bd77ebe86cdf3e070491cf1d1b745144d190bb599eff403af650b"), looks := false }, kinds := [], alts := [], laidByText := true, laidKinds := [.data, .data, .data, .data], laidTests := true, laidLooks := .later }
def ExtractStepsCardSaid : Prop := Claim7.holds Tryz.pinned (.plain (OpenSpec.ofChange extractStepsSpec)) extractStepsCard

/-- THE TIED CARD OF 'rubricklaw21.ExtractHonest'. -/
def extractHonestCard : Claim7 := { stood := { row := extractHonestRow, standIns := [], harness := (true, "c70c1d6a804bd77ebe86cdf3e070491cf1d1b745144d190bb599eff403af650b"), looks := false }, kinds := [], alts := [], laidByText := true, laidKinds := [.data, .data, .data, .data], laidTests := true, laidLooks := .later }
def ExtractHonestCardSaid : Prop := Claim7.holds Tryz.pinned (.plain (OpenSpec.ofChange extractHonestSpec)) extractHonestCard

/-- THE SECOND FORM's CARD OF 'rubricklaw21.ExtractSound'. -/
def extractSoundUptoCard : Claim7 := { stood := { row := extractSoundUptoRow, standIns := [], harness := (true, "c70c1d6a804bd77ebe86cdf3e070491cf1d1b745144d190bb599eff403af650b"), looks := false }, kinds := [], alts := [], laidByText := true, laidKinds := [.data, .data, .data, .data], laidTests := true, laidLooks := .later }
def ExtractSoundUptoCardSaid : Prop := Claim7.holds Tryz.pinned (.plain (OpenSpec.upto extractSoundSpec)) extractSoundUptoCard

/-- THE SECOND FORM's CARD OF 'rubricklaw21.ExtractPages'. -/
def extractPagesUptoCard : Claim7 := { stood := { row := extractPagesUptoRow, standIns := [], harness := (true, "c70c1d6a804bd77ebe86cdf3e070491cf1d1b745144d190bb599eff403af650b"), looks := false }, kinds := [], alts := [], laidByText := true, laidKinds := [.data, .data, .data, .data], laidTests := true, laidLooks := .later }
def ExtractPagesUptoCardSaid : Prop := Claim7.holds Tryz.pinned (.plain (OpenSpec.upto extractPagesSpec)) extractPagesUptoCard

/-- THE SECOND FORM's CARD OF 'rubricklaw21.ExtractTells'. -/
def extractTellsUptoCard : Claim7 := { stood := { row := extractTellsUptoRow, standIns := [], harness := (true, "c70c1d6a804bd77ebe86cdf3e070491cf1d1b745144d190bb599eff403af650b"), looks := false }, kinds := [], alts := [], laidByText := true, laidKinds := [.data, .data, .data, .data], laidTests := true, laidLooks := .later }
def ExtractTellsUptoCardSaid : Prop := Claim7.holds Tryz.pinned (.plain (OpenSpec.upto extractTellsSpec)) extractTellsUptoCard

/-- THE SECOND FORM's CARD OF 'rubricklaw21.ExtractSteps'. -/
def extractStepsUptoCard : Claim7 := { stood := { row := extractStepsUptoRow, standIns := [], harness := (true, "c70c1d6a804bd77ebe86cdf3e070491cf1d1b745144d190bb599eff403af650b"), looks := false }, kinds := [], alts := [], laidByText := true, laidKinds := [.data, .data, .data, .data], laidTests := true, laidLooks := .later }
def ExtractStepsUptoCardSaid : Prop := Claim7.holds Tryz.pinned (.plain (OpenSpec.upto extractStepsSpec)) extractStepsUptoCard

/-- THE SECOND FORM's CARD OF 'rubricklaw21.ExtractHonest'. -/
def extractHonestUptoCard : Claim7 := { stood := { row := extractHonestUptoRow, standIns := [], harness := (true, "c70c1d6a804bd77ebe86cdf3e070491cf1d1b745144d190bb599eff403af650b"), looks := false }, kinds := [], alts := [], laidByText := true, laidKinds := [.data, .data, .data, .data], laidTests := true, laidLooks := .later }
def ExtractHonestUptoCardSaid : Prop := Claim7.holds Tryz.pinned (.plain (OpenSpec.upto extractHonestSpec)) extractHonestUptoCard
end Rows
end Go.Proofs.YtfbolhlbmbfhbaaGreatDoor
