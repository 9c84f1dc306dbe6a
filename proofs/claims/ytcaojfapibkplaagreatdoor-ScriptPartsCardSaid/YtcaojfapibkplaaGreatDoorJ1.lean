/- Closed facts of the program, each by the kernel. -/
import Derived.Test.YtcaojfapibkplaaGreatDoorRows
import Derived.JoinedOf
import Derived.KernelRfl
namespace Go.Proofs.YtcaojfapibkplaaGreatDoor
open Go
theorem k2 : laidOutB Tryz.prog = true := by kernel_rfl
theorem k3 : mapsRowed Tryz.prog = true := by kernel_rfl
theorem k23b : Tryz.prog.stopsHeard = true := by kernel_rfl
theorem k24 : Tryz.prog.mayEnter = true := by kernel_rfl
theorem k7 : (Tryz.prog.stops == []) = true := by kernel_rfl
theorem k9 : (Tryz.prog.stopKnobs == []) = true := by kernel_rfl
theorem k24b : (Rows.scriptBytesRow.lifted == Tryz.prog.liftsFinal) = true := by kernel_rfl
end Go.Proofs.YtcaojfapibkplaaGreatDoor
