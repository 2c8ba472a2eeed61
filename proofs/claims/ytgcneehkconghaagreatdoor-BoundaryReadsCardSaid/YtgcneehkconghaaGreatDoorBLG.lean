import Derived.Test.YtgcneehkconghaaGreatDoorCards
import Derived.KernelRfl
set_option linter.all false
namespace Go.Proofs.YtgcneehkconghaaGreatDoor
open Go
theorem goes_k : false = Rows.boundaryReadsRow.goesBy Tryz.prog := by kernel_rfl
end Go.Proofs.YtgcneehkconghaaGreatDoor
