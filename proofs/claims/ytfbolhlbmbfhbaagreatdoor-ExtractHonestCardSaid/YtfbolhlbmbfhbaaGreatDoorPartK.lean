import Derived.Test.YtfbolhlbmbfhbaaGreatDoorPartJ
import Derived.Test.YtfbolhlbmbfhbaaGreatDoorCards
import Derived.Test.YtfbolhlbmbfhbaaGreatDoorTie
import Derived.Deep.DeepHandedRow
import Derived.ProofKit
import Derived.OpenShut
set_option linter.all false
namespace Go.Proofs.YtfbolhlbmbfhbaaGreatDoor
open Go Go.Vg Go.ChangeShapes Go.WideShapes Go.ChangeAt Go.RowKit
def aZr:Tryz.pinned.checked.prog.funcNamed Rows.extractHonestRow.func=some 7:=by kernel_rfl
theorem aYT:(Rows.extractHonestRow.inPlace==Tryz.pinned.checked.prog.inPlace 7)=true:=by kernel_rfl
theorem aYU:(Rows.extractHonestRow.unfollowed==Tryz.pinned.checked.prog.unfollowed 7)=true:=by kernel_rfl
theorem aYV:(Rows.extractHonestRow.recurses==Tryz.pinned.checked.prog.recurses 7)=true:=by kernel_rfl
theorem aYW:(Rows.extractHonestRow.named==Tryz.pinned.checked.prog.varsNamed 7)=true:=by kernel_rfl
def aZs:joinedFacts Tryz.pinned.checked.prog 7 Tryz.f7 (OpenSpec.ofChange Rows.extractHonestSpec).bare Rows.extractHonestRow=true:=by
 unfold joinedFacts;rw[aYT,aYU,aYV,aYW];kernel_rfl
end Go.Proofs.YtfbolhlbmbfhbaaGreatDoor
