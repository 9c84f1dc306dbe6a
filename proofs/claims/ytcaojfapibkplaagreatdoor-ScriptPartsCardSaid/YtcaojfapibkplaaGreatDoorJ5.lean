/- Closed facts of the program and the row: what calls may come to. -/
import Derived.Test.YtcaojfapibkplaaGreatDoorRows
import Derived.JoinedOf
import Derived.KernelRfl
namespace Go.Proofs.YtcaojfapibkplaaGreatDoor
open Go
theorem k10 : (Rows.scriptPartsRow.inPlace == Tryz.prog.inPlace 4) = true := by kernel_rfl
theorem k11 : (Rows.scriptPartsRow.unfollowed == Tryz.prog.unfollowed 4) = true := by kernel_rfl
end Go.Proofs.YtcaojfapibkplaaGreatDoor
