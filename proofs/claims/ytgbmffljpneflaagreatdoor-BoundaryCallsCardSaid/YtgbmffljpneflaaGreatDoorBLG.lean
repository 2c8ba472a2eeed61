import Derived.Test.YtgbmffljpneflaaGreatDoorCards
import Derived.KernelRfl
set_option linter.all false
namespace Go.Proofs.YtgbmffljpneflaaGreatDoor
open Go
theorem goes_k : false = Rows.boundaryCallsRow.goesBy Tryz.prog := by kernel_rfl
end Go.Proofs.YtgbmffljpneflaaGreatDoor
