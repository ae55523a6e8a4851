/-
  DERIVED. GIVEN WITH THE SEED: THE CARDS: each row of YtepaodgmfpbapaaGreatDoorRows.lean that lists a variable, with what it lists TIED to the program's text (the seventh form; the later family's looks); each row that meets fmt, with fmt's text TOLD by the authors' own Lean function (tested against real Go, not proved from fmt's source: count such statements apart). THE CARD IS WHAT COUNTS. Prove the row's statement (the work); the ties are given (YtepaodgmfpbapaaGreatDoorTie.lean); close each card by the builder's one call (the guide's Derived/Test/ToyasCard.lean, 'card_holds'). Laid BY PROGRAM, IN A SANDBOX (cutbox-door.mjs). By AI agents, Wed Nov 11 2026. No macro, syntax, notation, axiom, sorry.
-/
import Derived.Test.YtepaodgmfpbapaaGreatDoorRows
import GoSem.ClaimSeven
namespace Go.Proofs.YtepaodgmfpbapaaGreatDoor
namespace Rows

/-- THE TIED CARD OF 'rubricklaw10.DictFinds'. -/
def dictFindsCard : Claim7 := { stood := { row := dictFindsRow, standIns := [], harness := (true, "b4197179c62c7b4dd6ce4d98a1b8f08846e2125b08ebe1ed88fb1e94bbfd703f"), looks := false }, kinds := [], alts := [], laidByText := true, laidKinds := [.data, .data, .data, .data], laidTests := true, laidLooks := .later }
def DictFindsCardSaid : Prop := Claim7.holds Tryz.pinned (.plain (OpenSpec.ofChange dictFindsSpec)) dictFindsCard

/-- THE TIED CARD OF 'rubricklaw10.DictLinks'. -/
def dictLinksCard : Claim7 := { stood := { row := dictLinksRow, standIns := [], harness := (true, "b4197179c62c7b4dd6ce4d98a1b8f08846e2125b08ebe1ed88fb1e94bbfd703f"), looks := false }, kinds := [], alts := [], laidByText := true, laidKinds := [.data, .data, .data, .data], laidTests := true, laidLooks := .later }
def DictLinksCardSaid : Prop := Claim7.holds Tryz.pinned (.plain (OpenSpec.ofChange dictLinksSpec)) dictLinksCard

/-- THE TIED CARD OF 'rubricklaw10.DictHas'. -/
def dictHasCard : Claim7 := { stood := { row := dictHasRow, standIns := [], harness := (true, "b4197179c62c7b4dd6ce4d98a1b8f08846e2125b08ebe1ed88fb1e94bbfd703f"), looks := false }, kinds := [], alts := [], laidByText := true, laidKinds := [.data, .data, .data, .data], laidTests := true, laidLooks := .later }
def DictHasCardSaid : Prop := Claim7.holds Tryz.pinned (.plain (OpenSpec.ofChange dictHasSpec)) dictHasCard

/-- THE TIED CARD OF 'rubricklaw12.SegmBuilds'. -/
def segmBuildsCard : Claim7 := { stood := { row := segmBuildsRow, standIns := [], harness := (true, "b4197179c62c7b4dd6ce4d98a1b8f08846e2125b08ebe1ed88fb1e94bbfd703f"), looks := false }, kinds := [], alts := [], laidByText := true, laidKinds := [.data, .data, .data, .data], laidTests := true, laidLooks := .later }
def SegmBuildsCardSaid : Prop := Claim7.holds Tryz.pinned (.plain (OpenSpec.ofChange segmBuildsSpec)) segmBuildsCard

/-- THE TIED CARD OF 'rubricklaw12.SegmSigns'. -/
def segmSignsCard : Claim7 := { stood := { row := segmSignsRow, standIns := [], harness := (true, "b4197179c62c7b4dd6ce4d98a1b8f08846e2125b08ebe1ed88fb1e94bbfd703f"), looks := false }, kinds := [], alts := [], laidByText := true, laidKinds := [.data, .data, .data, .data], laidTests := true, laidLooks := .later }
def SegmSignsCardSaid : Prop := Claim7.holds Tryz.pinned (.plain (OpenSpec.ofChange segmSignsSpec)) segmSignsCard

/-- THE TIED CARD OF 'rubricklaw12.SegmRows'. -/
def segmRowsCard : Claim7 := { stood := { row := segmRowsRow, standIns := [], harness := (true, "b4197179c62c7b4dd6ce4d98a1b8f08846e2125b08ebe1ed88fb1e94bbfd703f"), looks := false }, kinds := [], alts := [], laidByText := true, laidKinds := [.data, .data, .data, .data], laidTests := true, laidLooks := .later }
def SegmRowsCardSaid : Prop := Claim7.holds Tryz.pinned (.plain (OpenSpec.ofChange segmRowsSpec)) segmRowsCard

/-- THE TIED CARD OF 'rubricklaw12.SegmParts'. -/
def segmPartsCard : Claim7 := { stood := { row := segmPartsRow, standIns := [], harness := (true, "b4197179c62c7b4dd6ce4d98a1b8f08846e2125b08ebe1ed88fb1e94bbfd703f"), looks := false }, kinds := [], alts := [], laidByText := true, laidKinds := [.data, .data, .data, .data], laidTests := true, laidLooks := .later }
def SegmPartsCardSaid : Prop := Claim7.holds Tryz.pinned (.plain (OpenSpec.ofChange segmPartsSpec)) segmPartsCard

/-- THE TIED CARD OF 'rubricklaw10.DictSeals'. -/
def dictSealsCard : Claim7 := { stood := { row := dictSealsRow, standIns := [], harness := (true, "b4197179c62c7b4dd6ce4d98a1b8f08846e2125b08ebe1ed88fb1e94bbfd703f"), looks := false }, kinds := [], alts := [], laidByText := true, laidKinds := [.data, .data, .data, .data], laidTests := true, laidLooks := .later }
def DictSealsCardSaid : Prop := Claim7.holds Tryz.pinned (.plain (OpenSpec.ofChange dictSealsSpec)) dictSealsCard

/-- THE SECOND FORM's CARD OF 'rubricklaw10.DictFinds'. -/
def dictFindsUptoCard : Claim7 := { stood := { row := dictFindsUptoRow, standIns := [], harness := (true, "b4197179c62c7b4dd6ce4d98a1b8f08846e2125b08ebe1ed88fb1e94bbfd703f"), looks := false }, kinds := [], alts := [], laidByText := true, laidKinds := [.data, .data, .data, .data], laidTests := true, laidLooks := .later }
def DictFindsUptoCardSaid : Prop := Claim7.holds Tryz.pinned (.plain (OpenSpec.upto dictFindsSpec)) dictFindsUptoCard

/-- THE SECOND FORM's CARD OF 'rubricklaw10.DictLinks'. -/
def dictLinksUptoCard : Claim7 := { stood := { row := dictLinksUptoRow, standIns := [], harness := (true, "b4197179c62c7b4dd6ce4d98a1b8f08846e2125b08ebe1ed88fb1e94bbfd703f"), looks := false }, kinds := [], alts := [], laidByText := true, laidKinds := [.data, .data, .data, .data], laidTests := true, laidLooks := .later }
def DictLinksUptoCardSaid : Prop := Claim7.holds Tryz.pinned (.plain (OpenSpec.upto dictLinksSpec)) dictLinksUptoCard

/-- THE SECOND FORM's CARD OF 'rubricklaw10.DictHas'. -/
def dictHasUptoCard : Claim7 := { stood := { row := dictHasUptoRow, standIns := [], harness := (true, "b4197179c62c7b4dd6ce4d98a1b8f08846e2125b08ebe1ed88fb1e94bbfd703f"), looks := false }, kinds := [], alts := [], laidByText := true, laidKinds := [.data, .data, .data, .data], laidTests := true, laidLooks := .later }
def DictHasUptoCardSaid : Prop := Claim7.holds Tryz.pinned (.plain (OpenSpec.upto dictHasSpec)) dictHasUptoCard

/-- THE SECOND FORM's CARD OF 'rubricklaw12.SegmBuilds'. -/
def segmBuildsUptoCard : Claim7 := { stood := { row := segmBuildsUptoRow, standIns := [], harness := (true, "b4197179c62c7b4dd6ce4d98a1b8f08846e2125b08ebe1ed88fb1e94bbfd703f"), looks := false }, kinds := [], alts := [], laidByText := true, laidKinds := [.data, .data, .data, .data], laidTests := true, laidLooks := .later }
def SegmBuildsUptoCardSaid : Prop := Claim7.holds Tryz.pinned (.plain (OpenSpec.upto segmBuildsSpec)) segmBuildsUptoCard

/-- THE SECOND FORM's CARD OF 'rubricklaw12.SegmSigns'. -/
def segmSignsUptoCard : Claim7 := { stood := { row := segmSignsUptoRow, standIns := [], harness := (true, "b4197179c62c7b4dd6ce4d98a1b8f08846e2125b08ebe1ed88fb1e94bbfd703f"), looks := false }, kinds := [], alts := [], laidByText := true, laidKinds := [.data, .data, .data, .data], laidTests := true, laidLooks := .later }
def SegmSignsUptoCardSaid : Prop := Claim7.holds Tryz.pinned (.plain (OpenSpec.upto segmSignsSpec)) segmSignsUptoCard

/-- THE SECOND FORM's CARD OF 'rubricklaw12.SegmRows'. -/
def segmRowsUptoCard : Claim7 := { stood := { row := segmRowsUptoRow, standIns := [], harness := (true, "b4197179c62c7b4dd6ce4d98a1b8f08846e2125b08ebe1ed88fb1e94bbfd703f"), looks := false }, kinds := [], alts := [], laidByText := true, laidKinds := [.data, .data, .data, .data], laidTests := true, laidLooks := .later }
def SegmRowsUptoCardSaid : Prop := Claim7.holds Tryz.pinned (.plain (OpenSpec.upto segmRowsSpec)) segmRowsUptoCard

/-- THE SECOND FORM's CARD OF 'rubricklaw12.SegmParts'. -/
def segmPartsUptoCard : Claim7 := { stood := { row := segmPartsUptoRow, standIns := [], harness := (true, "b4197179c62c7b4dd6ce4d98a1b8f08846e2125b08ebe1ed88fb1e94bbfd703f"), looks := false }, kinds := [], alts := [], laidByText := true, laidKinds := [.data, .data, .data, .data], laidTests := true, laidLooks := .later }
def SegmPartsUptoCardSaid : Prop := Claim7.holds Tryz.pinned (.plain (OpenSpec.upto segmPartsSpec)) segmPartsUptoCard

/-- THE SECOND FORM's CARD OF 'rubricklaw10.DictSeals'. -/
def dictSealsUptoCard : Claim7 := { stood := { row := dictSealsUptoRow, standIns := [], harness := (true, "b4197179c62c7b4dd6ce4d98a1b8f08846e2125b08ebe1ed88fb1e94bbfd703f"), looks := false }, kinds := [], alts := [], laidByText := true, laidKinds := [.data, .data, .data, .data], laidTests := true, laidLooks := .later }
def DictSealsUptoCardSaid : Prop := Claim7.holds Tryz.pinned (.plain (OpenSpec.upto dictSealsSpec)) dictSealsUptoCard
end Rows
end Go.Proofs.YtepaodgmfpbapaaGreatDoor
