/- The row's closed facts, all together. -/
import Derived.Test.YtcaojfapibkplaaGreatDoorJ1
import Derived.Test.YtcaojfapibkplaaGreatDoorJ5
import Derived.Test.YtcaojfapibkplaaGreatDoorJ6
import Derived.Test.YtcaojfapibkplaaGreatDoorRows
import Derived.JoinedOf
import Derived.KernelRfl
namespace Go.Proofs.YtcaojfapibkplaaGreatDoor
open Go
theorem k1 : Rows.scriptPartsRow.wf (OpenSpec.ofChange Rows.scriptPartsSpec) = true := by kernel_rfl
theorem k4 : Tryz.f4.params.all (Tryz.prog.readableRec ·) = true := by kernel_rfl
theorem k5 : namedTie Tryz.prog Rows.scriptPartsRow.named Rows.scriptPartsSpec.vars = true := by kernel_rfl
theorem k14 : (Rows.scriptPartsRow.maps == (Tryz.f4.params.toList ++ Rows.scriptPartsSpec.plain.varTypes Tryz.prog).any (Tryz.prog.mapsRec ·)) = true := by kernel_rfl
theorem k15 : (Rows.scriptPartsRow.ifaces == (Tryz.f4.params.toList ++ Rows.scriptPartsSpec.plain.varTypes Tryz.prog).any (Tryz.prog.ifacesRec ·)) = true := by kernel_rfl
theorem k16 : (Rows.scriptPartsRow.mapsOut == Tryz.prog.mapsAmong Tryz.f4.resultTypes.toList) = true := by kernel_rfl
theorem k17 : (Rows.scriptPartsRow.loops == (Tryz.f4.params.toList ++ Rows.scriptPartsSpec.plain.varTypes Tryz.prog).any (Tryz.prog.loopsFrom ·)) = true := by kernel_rfl
theorem k17b : (Rows.scriptPartsRow.wideKeys == (Tryz.f4.params.toList ++ Rows.scriptPartsSpec.plain.varTypes Tryz.prog ++ Tryz.f4.resultTypes.toList).any (Tryz.prog.wideKeysFrom ·)) = true := by kernel_rfl
theorem k19 : Tryz.f4.resultTypes.all (fun t => Tryz.prog.readableRec t && decide (t < Tryz.prog.types.size)) = true := by kernel_rfl
theorem k20 : (Rows.scriptPartsRow.ifacesOut == Tryz.f4.resultTypes.toList.any (Tryz.prog.ifacesRec ·)) = true := by kernel_rfl
theorem k21 : (Rows.scriptPartsRow.loopsOut == Tryz.f4.resultTypes.toList.any (Tryz.prog.loopsFrom ·)) = true := by kernel_rfl
theorem k22 : (Rows.scriptPartsRow.plainKeys == Tryz.prog.plainKeys) = true := by kernel_rfl
theorem k24c : (Tryz.prog.make == some Rows.scriptPartsRow.make) = true := by kernel_rfl
theorem k27 : (Rows.scriptPartsRow.veiled == (Tryz.f4.params.toList ++ Rows.scriptPartsSpec.plain.varTypes Tryz.prog ++ Tryz.f4.resultTypes.toList).any (Tryz.prog.veiledRec ·)) = true := by kernel_rfl
theorem k28 : Rows.scriptPartsRow.veiledFits Tryz.prog Tryz.f4.params.toList (Tryz.f4.params.toList ++ Rows.scriptPartsSpec.plain.varTypes Tryz.prog ++ Tryz.f4.resultTypes.toList) = true := by kernel_rfl
theorem k6 : (Rows.scriptPartsRow.stops == []) = true := by kernel_rfl
theorem k8 : (Rows.scriptPartsRow.knobs == []) = true := by kernel_rfl
theorem k18 : Rows.scriptPartsSpec.vars.all (Tryz.prog.varReadable ·) = true := by kernel_rfl
theorem k23 : Rows.scriptPartsRow.shortTexts.isNone = true := by kernel_rfl
theorem k26 : (Rows.scriptPartsRow.pinned == Rows.scriptPartsRow.pinnedBy) = true := by kernel_rfl
theorem andI {a b : Bool} (h : a = true) (k : b = true) : (a && b) = true := by rw [h, k]; rfl
set_option maxRecDepth 100000 in
theorem closed : joinedFacts Tryz.prog 4 Tryz.f4 Rows.scriptPartsSpec Rows.scriptPartsRow = true := by
  unfold joinedFacts
  exact andI (andI (andI (andI (andI (andI (andI (andI (andI (andI (andI (andI (andI (andI (andI (andI (andI (andI (andI (andI (andI (andI (andI (andI (andI (andI (andI (andI (andI (andI (andI k1 k2) k3) k4) k5) k6) k7) k8) k9) k10) k11) k12) k13) k14) k15) k16) k17) k17b) k18) k19) k20) k21) k22) k23) k23b) k24) k24b) k24c) (by as_aux_lemma => kernel_rfl)) k26) k27) k28
end Go.Proofs.YtcaojfapibkplaaGreatDoor
