/- The law SyntaxFixed, for every input that its row speaks of, out of the evaluator's run (run_SyntaxFixed): its row, its card. Conditions: none beyond the row's own. -/
import Derived.Test.YtbgddkffhndjcaaGreatDoorCards
import Derived.Test.YtbgddkffhndjcaaGreatDoorTie
import Derived.Test.YtbgddkffhndjcaaGreatDoorLeSyntaxFixed
import Derived.Test.YtbgddkffhndjcaaGreatDoorLfSyntaxFixed
import Derived.LaidSub
import Derived.WalkKit
import Derived.ProofKit
import Derived.OpenShut
import Derived.Deep.DeepHandedRow
import Derived.Deep.DeepWitnessRowRef
import Derived.Lib.LaidIn
import Derived.Stop.LaidErr
set_option linter.all false
namespace Go.Proofs.YtbgddkffhndjcaaGreatDoor.syntaxFixed
open Go.ChangeShapes Go.WideShapes Go.ChangeAt Go.RowKit
theorem card : Rows.SyntaxFixedCardSaid :=
  Claim7.holds_tied_plain_at .later [] _ _ _ _ said (fun _ h => by cases h) (by kernel_rfl) (fun _ h => by cases h) syntaxFixed_row_tie rfl ⟨rfl, rfl⟩ (by kernel_rfl) rfl plain goesE
end Go.Proofs.YtbgddkffhndjcaaGreatDoor.syntaxFixed
namespace Go.Proofs.YtbgddkffhndjcaaGreatDoor
theorem syntaxFixed_holds : Rows.SyntaxFixedCardSaid := syntaxFixed.card
end Go.Proofs.YtbgddkffhndjcaaGreatDoor
