/- ExtractHonest: for every input the given Go function returns true and leaves its arguments as they were. Conditions: none. -/
import Derived.Test.YtfbolhlbmbfhbaaGreatDoorPartM
import Derived.Test.YtfbolhlbmbfhbaaGreatDoorCards
import Derived.Test.YtfbolhlbmbfhbaaGreatDoorTie
import Derived.Deep.DeepHandedRow
import Derived.ProofKit
import Derived.OpenShut
set_option linter.all false
namespace Go.Proofs.YtfbolhlbmbfhbaaGreatDoor
open Go Go.Vg Go.ChangeShapes Go.WideShapes Go.ChangeAt Go.RowKit
def extractHonest_card:Rows.ExtractHonestCardSaid:=
 Claim7.holds_tied_plain_at .later [] _ _ _ _ aYB (λ_ h=>by cases h) aYX (λ_ h=>by cases h) extractHonest_row_tie rfl ⟨rfl,rfl⟩ y! rfl aYp aYq
#print axioms extractHonest_card
end Go.Proofs.YtfbolhlbmbfhbaaGreatDoor
