/- Closed facts of the program and the row: what calls may come to, and the variables named. -/
import Derived.Test.YtcaojfapibkplaaGreatDoorRows
import Derived.JoinedOf
import Derived.KernelRfl
namespace Go.Proofs.YtcaojfapibkplaaGreatDoor
open Go
theorem k12 : (Rows.scriptBytesRow.recurses == Tryz.prog.recurses 3) = true := by kernel_rfl
theorem k13 : (Rows.scriptBytesRow.named == Tryz.prog.varsNamed 3) = true := by kernel_rfl
end Go.Proofs.YtcaojfapibkplaaGreatDoor
