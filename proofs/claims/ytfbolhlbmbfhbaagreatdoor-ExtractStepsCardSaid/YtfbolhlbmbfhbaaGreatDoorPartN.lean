/- ExtractSteps: for every input the given Go function returns true and leaves its arguments as they were. Conditions: none. -/
import Derived.Test.YtfbolhlbmbfhbaaGreatDoorPartM
import Derived.Test.YtfbolhlbmbfhbaaGreatDoorCards
import Derived.Test.YtfbolhlbmbfhbaaGreatDoorTie
import Derived.Deep.DeepHandedRow
import Derived.ProofKit
import Derived.OpenShut
set_option linter.unusedVariables false
set_option linter.unusedSimpArgs false
set_option linter.unusedSectionVars false
set_option linter.defProp false
namespace Go.Proofs.YtfbolhlbmbfhbaaGreatDoor
open Go Go.Vg Go.ChangeShapes Go.WideShapes Go.ChangeAt Go.RowKit
def extractSteps_card:Rows.ExtractStepsCardSaid:=
 Claim7.holds_tied_plain_at .later [] _ _ _ _ aNU (λ_ h=>by cases h) aPY (λ_ h=>by cases h) extractSteps_row_tie rfl ⟨rfl,rfl⟩ y! rfl aMB aMC
#print axioms extractSteps_card
end Go.Proofs.YtfbolhlbmbfhbaaGreatDoor
