import Derived.Test.YtokkmapiallffaaGreatDoorCards
import Derived.KernelRfl
set_option linter.all false
namespace Go.Proofs.YtokkmapiallffaaGreatDoor
open Go
theorem goes_k : false = Rows.envKeepsRow.goesBy Tryz.prog := by kernel_rfl
end Go.Proofs.YtokkmapiallffaaGreatDoor
