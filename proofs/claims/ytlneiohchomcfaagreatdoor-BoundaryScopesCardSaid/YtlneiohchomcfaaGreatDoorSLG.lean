import Derived.Test.YtlneiohchomcfaaGreatDoorCards
import Derived.KernelRfl
set_option linter.all false
namespace Go.Proofs.YtlneiohchomcfaaGreatDoor
open Go
theorem goes_k : false = Rows.boundaryScopesRow.goesBy Tryz.prog := by kernel_rfl
end Go.Proofs.YtlneiohchomcfaaGreatDoor
