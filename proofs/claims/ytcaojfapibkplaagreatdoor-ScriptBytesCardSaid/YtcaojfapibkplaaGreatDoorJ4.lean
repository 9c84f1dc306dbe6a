/- The row's closed facts, all together. -/
import Derived.Test.YtcaojfapibkplaaGreatDoorJ1
import Derived.Test.YtcaojfapibkplaaGreatDoorJ2
import Derived.Test.YtcaojfapibkplaaGreatDoorJ3
import Derived.Test.YtcaojfapibkplaaGreatDoorRows
import Derived.JoinedOf
import Derived.KernelRfl
namespace Go.Proofs.YtcaojfapibkplaaGreatDoor
open Go
theorem k1 : Rows.scriptBytesRow.wf (OpenSpec.ofChange Rows.scriptBytesSpec) = true := by kernel_rfl
theorem k4 : Tryz.f3.params.all (Tryz.prog.readableRec ·) = true := by kernel_rfl
theorem k5 : namedTie Tryz.prog Rows.scriptBytesRow.named Rows.scriptBytesSpec.vars = true := by kernel_rfl
theorem k14 : (Rows.scriptBytesRow.maps == (Tryz.f3.params.toList ++ Rows.scriptBytesSpec.plain.varTypes Tryz.prog).any (Tryz.prog.mapsRec ·)) = true := by kernel_rfl
theorem k15 : (Rows.scriptBytesRow.ifaces == (Tryz.f3.params.toList ++ Rows.scriptBytesSpec.plain.varTypes Tryz.prog).any (Tryz.prog.ifacesRec ·)) = true := by kernel_rfl
theorem k16 : (Rows.scriptBytesRow.mapsOut == Tryz.prog.mapsAmong Tryz.f3.resultTypes.toList) = true := by kernel_rfl
theorem k17 : (Rows.scriptBytesRow.loops == (Tryz.f3.params.toList ++ Rows.scriptBytesSpec.plain.varTypes Tryz.prog).any (Tryz.prog.loopsFrom ·)) = true := by kernel_rfl
theorem k17b : (Rows.scriptBytesRow.wideKeys == (Tryz.f3.params.toList ++ Rows.scriptBytesSpec.plain.varTypes Tryz.prog ++ Tryz.f3.resultTypes.toList).any (Tryz.prog.wideKeysFrom ·)) = true := by kernel_rfl
theorem k19 : Tryz.f3.resultTypes.all (fun t => Tryz.prog.readableRec t && decide (t < Tryz.prog.types.size)) = true := by kernel_rfl
theorem k20 : (Rows.scriptBytesRow.ifacesOut == Tryz.f3.resultTypes.toList.any (Tryz.prog.ifacesRec ·)) = true := by kernel_rfl
theorem k21 : (Rows.scriptBytesRow.loopsOut == Tryz.f3.resultTypes.toList.any (Tryz.prog.loopsFrom ·)) = true := by kernel_rfl
theorem k22 : (Rows.scriptBytesRow.plainKeys == Tryz.prog.plainKeys) = true := by kernel_rfl
theorem k24c : (Tryz.prog.make == some Rows.scriptBytesRow.make) = true := by kernel_rfl
theorem k27 : (Rows.scriptBytesRow.veiled == (Tryz.f3.params.toList ++ Rows.scriptBytesSpec.plain.varTypes Tryz.prog ++ Tryz.f3.resultTypes.toList).any (Tryz.prog.veiledRec ·)) = true := by kernel_rfl
theorem k28 : Rows.scriptBytesRow.veiledFits Tryz.prog Tryz.f3.params.toList (Tryz.f3.params.toList ++ Rows.scriptBytesSpec.plain.varTypes Tryz.prog ++ Tryz.f3.resultTypes.toList) = true := by kernel_rfl
theorem k6 : (Rows.scriptBytesRow.stops == []) = true := by kernel_rfl
theorem k8 : (Rows.scriptBytesRow.knobs == []) = true := by kernel_rfl
theorem k18 : Rows.scriptBytesSpec.vars.all (Tryz.prog.varReadable ·) = true := by kernel_rfl
theorem k23 : Rows.scriptBytesRow.shortTexts.isNone = true := by kernel_rfl
theorem k26 : (Rows.scriptBytesRow.pinned == Rows.scriptBytesRow.pinnedBy) = true := by kernel_rfl
theorem andI {a b : Bool} (h : a = true) (k : b = true) : (a && b) = true := by rw [h, k]; rfl
set_option maxRecDepth 100000 in
theorem closed : joinedFacts Tryz.prog 3 Tryz.f3 Rows.scriptBytesSpec Rows.scriptBytesRow = true := by
  unfold joinedFacts
  exact andI (andI (andI (andI (andI (andI (andI (andI (andI (andI (andI (andI (andI (andI (andI (andI (andI (andI (andI (andI (andI (andI (andI (andI (andI (andI (andI (andI (andI (andI (andI k1 k2) k3) k4) k5) k6) k7) k8) k9) k10) k11) k12) k13) k14) k15) k16) k17) k17b) k18) k19) k20) k21) k22) k23) k23b) k24) k24b) k24c) (by as_aux_lemma => kernel_rfl)) k26) k27) k28
end Go.Proofs.YtcaojfapibkplaaGreatDoor
