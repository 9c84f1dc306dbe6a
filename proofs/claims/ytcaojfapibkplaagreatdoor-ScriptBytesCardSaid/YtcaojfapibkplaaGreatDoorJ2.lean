/- Closed facts of the program and the row: what calls may come to. -/
import Derived.Test.YtcaojfapibkplaaGreatDoorRows
import Derived.JoinedOf
import Derived.KernelRfl
namespace Go.Proofs.YtcaojfapibkplaaGreatDoor
open Go
theorem k10 : (Rows.scriptBytesRow.inPlace == Tryz.prog.inPlace 3) = true := by kernel_rfl
theorem k11 : (Rows.scriptBytesRow.unfollowed == Tryz.prog.unfollowed 3) = true := by kernel_rfl
end Go.Proofs.YtcaojfapibkplaaGreatDoor
