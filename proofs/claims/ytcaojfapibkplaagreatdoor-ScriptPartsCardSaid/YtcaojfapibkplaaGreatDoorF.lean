/- The facts on types that the walks ask, each by the kernel. -/
import Derived.Test.YtcaojfapibkplaaGreatDoorProg
import Derived.KernelRfl
import Derived.Test.YtcaojfapibkplaaGreatDoorE1
/- The facts on types that the walks ask: each by the kernel. -/
namespace Go.Proofs.YtcaojfapibkplaaGreatDoor
open Go
theorem ap_120 : Sl.apt Tryz.prog 120 = some (3, 1, 8, [.int .i64 0]) := by kernel_rfl
theorem ap_121 : Sl.apt Tryz.prog 121 = some (104, 2, 16, [.int .i64 0, .int .i64 0]) := by kernel_rfl
theorem ap_129 : Sl.apt Tryz.prog 129 = some (157, 4, 32, [.int .i64 0, .int .i64 0, .int .u64 0, .int .i64 0]) := by kernel_rfl
theorem ap_160 : Sl.apt Tryz.prog 160 = some (243, 1, 24, [.slice none 0 0]) := by kernel_rfl
theorem ap_22 : Sl.apt Tryz.prog 22 = some (27, 2, 32, [.int .i64 0, .slice none 0 0]) := by kernel_rfl
theorem ap_227 : Sl.apt Tryz.prog 227 = some (231, 1, 8, [.pointer none]) := by kernel_rfl
theorem ap_25 : Sl.apt Tryz.prog 25 = some (41, 3, 24, [.int .i64 0, .int .i64 0, .int .i64 0]) := by kernel_rfl
theorem ap_43 : Sl.apt Tryz.prog 43 = some (5, 1, 1, [.int .u8 0]) := by kernel_rfl
theorem ap_60 : Sl.apt Tryz.prog 60 = some (92, 1, 24, [.slice none 0 0]) := by kernel_rfl
theorem ap_63 : Sl.apt Tryz.prog 63 = some (106, 3, 24, [.int .i64 0, .int .i64 0, .int .i64 0]) := by kernel_rfl
theorem ap_71 : Sl.apt Tryz.prog 71 = some (82, 12, 96, [.int .i64 0, .int .i64 0, .int .i64 0, .int .i64 0, .int .i64 0, .int .i64 0, .int .i64 0, .int .i64 0, .int .i64 0, .int .i64 0, .int .i64 0, .int .i64 0]) := by kernel_rfl
theorem ap_90 : Sl.apt Tryz.prog 90 = some (96, 2, 16, [.int .i64 0, .int .i64 0]) := by kernel_rfl
theorem ap_99 : Sl.apt Tryz.prog 99 = some (112, 2, 16, [.pointer none, .int .i64 0]) := by kernel_rfl
theorem ar_113 : Sl.arr Tryz.prog 113 = some (4, 112, true, 2) := by kernel_rfl
theorem fo_104_0 : Sl.fo Tryz.prog 104 0 = some 0 := by kernel_rfl
theorem fo_104_1 : Sl.fo Tryz.prog 104 1 = some 1 := by kernel_rfl
theorem fo_106_0 : Sl.fo Tryz.prog 106 0 = some 0 := by kernel_rfl
theorem fo_106_1 : Sl.fo Tryz.prog 106 1 = some 2 := by kernel_rfl
theorem fo_112_0 : Sl.fo Tryz.prog 112 0 = some 0 := by kernel_rfl
theorem fo_112_1 : Sl.fo Tryz.prog 112 1 = some 1 := by kernel_rfl
theorem fo_136_2 : Sl.fo Tryz.prog 136 2 = some 7 := by kernel_rfl
theorem fo_136_6 : Sl.fo Tryz.prog 136 6 = some 11 := by kernel_rfl
theorem fo_151_0 : Sl.fo Tryz.prog 151 0 = some 0 := by kernel_rfl
theorem fo_151_1 : Sl.fo Tryz.prog 151 1 = some 1 := by kernel_rfl
theorem fo_186_0 : Sl.fo Tryz.prog 186 0 = some 0 := by kernel_rfl
theorem fo_188_0 : Sl.fo Tryz.prog 188 0 = some 0 := by kernel_rfl
theorem fo_229_0 : Sl.fo Tryz.prog 229 0 = some 0 := by kernel_rfl
theorem fo_27_0 : Sl.fo Tryz.prog 27 0 = some 0 := by kernel_rfl
theorem fo_27_1 : Sl.fo Tryz.prog 27 1 = some 1 := by kernel_rfl
theorem fo_41_0 : Sl.fo Tryz.prog 41 0 = some 0 := by kernel_rfl
theorem fo_41_1 : Sl.fo Tryz.prog 41 1 = some 1 := by kernel_rfl
theorem fo_41_2 : Sl.fo Tryz.prog 41 2 = some 2 := by kernel_rfl
theorem fo_45_0 : Sl.fo Tryz.prog 45 0 = some 0 := by kernel_rfl
theorem fo_45_1 : Sl.fo Tryz.prog 45 1 = some 1 := by kernel_rfl
theorem fo_62_0 : Sl.fo Tryz.prog 62 0 = some 0 := by kernel_rfl
theorem fo_65_0 : Sl.fo Tryz.prog 65 0 = some 0 := by kernel_rfl
theorem fo_65_1 : Sl.fo Tryz.prog 65 1 = some 1 := by kernel_rfl
theorem fo_65_2 : Sl.fo Tryz.prog 65 2 = some 2 := by kernel_rfl
theorem fo_65_3 : Sl.fo Tryz.prog 65 3 = some 3 := by kernel_rfl
theorem fo_65_4 : Sl.fo Tryz.prog 65 4 = some 4 := by kernel_rfl
theorem fo_65_5 : Sl.fo Tryz.prog 65 5 = some 5 := by kernel_rfl
theorem fo_74_1 : Sl.fo Tryz.prog 74 1 = some 6 := by kernel_rfl
theorem fo_74_2 : Sl.fo Tryz.prog 74 2 = some 7 := by kernel_rfl
theorem fo_76_0 : Sl.fo Tryz.prog 76 0 = some 0 := by kernel_rfl
theorem fo_76_1 : Sl.fo Tryz.prog 76 1 = some 1 := by kernel_rfl
theorem fo_76_2 : Sl.fo Tryz.prog 76 2 = some 2 := by kernel_rfl
theorem fo_76_3 : Sl.fo Tryz.prog 76 3 = some 3 := by kernel_rfl
theorem fo_78_0 : Sl.fo Tryz.prog 78 0 = some 0 := by kernel_rfl
theorem fo_78_1 : Sl.fo Tryz.prog 78 1 = some 1 := by kernel_rfl
theorem fo_78_2 : Sl.fo Tryz.prog 78 2 = some 2 := by kernel_rfl
theorem fo_78_3 : Sl.fo Tryz.prog 78 3 = some 3 := by kernel_rfl
theorem fo_78_4 : Sl.fo Tryz.prog 78 4 = some 4 := by kernel_rfl
theorem fo_80_0 : Sl.fo Tryz.prog 80 0 = some 0 := by kernel_rfl
theorem fo_80_1 : Sl.fo Tryz.prog 80 1 = some 1 := by kernel_rfl
theorem fo_80_2 : Sl.fo Tryz.prog 80 2 = some 2 := by kernel_rfl
theorem fo_82_0 : Sl.fo Tryz.prog 82 0 = some 0 := by kernel_rfl
theorem fo_82_1 : Sl.fo Tryz.prog 82 1 = some 10 := by kernel_rfl
theorem fo_88_0 : Sl.fo Tryz.prog 88 0 = some 0 := by kernel_rfl
theorem fo_88_1 : Sl.fo Tryz.prog 88 1 = some 1 := by kernel_rfl
theorem fo_88_2 : Sl.fo Tryz.prog 88 2 = some 2 := by kernel_rfl
theorem fo_92_0 : Sl.fo Tryz.prog 92 0 = some 0 := by kernel_rfl
theorem fo_96_0 : Sl.fo Tryz.prog 96 0 = some 0 := by kernel_rfl
theorem fo_96_1 : Sl.fo Tryz.prog 96 1 = some 1 := by kernel_rfl
theorem if_58 : Sl.isIfc Tryz.prog 58 = true := by kernel_rfl
theorem ik_24 : Sl.intK Tryz.prog 24 = some .i64 := by kernel_rfl
theorem ik_3 : Sl.intK Tryz.prog 3 = some .i64 := by kernel_rfl
theorem ik_5 : Sl.intK Tryz.prog 5 = some .u8 := by kernel_rfl
theorem ly_104 : Sl.lyt Tryz.prog 104 = some (true, 2) := by kernel_rfl
theorem ly_106 : Sl.lyt Tryz.prog 106 = some (true, 3) := by kernel_rfl
theorem ly_110 : Sl.lyt Tryz.prog 110 = some (false, 1) := by kernel_rfl
theorem ly_112 : Sl.lyt Tryz.prog 112 = some (true, 2) := by kernel_rfl
theorem ly_113 : Sl.lyt Tryz.prog 113 = some (true, 8) := by kernel_rfl
theorem ly_129 : Sl.lyt Tryz.prog 129 = some (false, 1) := by kernel_rfl
theorem ly_133 : Sl.lyt Tryz.prog 133 = some (false, 1) := by kernel_rfl
theorem ly_149 : Sl.lyt Tryz.prog 149 = some (false, 1) := by kernel_rfl
theorem ly_153 : Sl.lyt Tryz.prog 153 = some (true, 2) := by kernel_rfl
theorem ly_184 : Sl.lyt Tryz.prog 184 = some (false, 1) := by kernel_rfl
theorem ly_227 : Sl.lyt Tryz.prog 227 = some (false, 1) := by kernel_rfl
theorem ly_24 : Sl.lyt Tryz.prog 24 = some (false, 1) := by kernel_rfl
theorem ly_25 : Sl.lyt Tryz.prog 25 = some (false, 1) := by kernel_rfl
theorem ly_264 : Sl.lyt Tryz.prog 264 = some (true, 2) := by kernel_rfl
theorem ly_27 : Sl.lyt Tryz.prog 27 = some (true, 2) := by kernel_rfl
theorem ly_3 : Sl.lyt Tryz.prog 3 = some (false, 1) := by kernel_rfl
theorem ly_4 : Sl.lyt Tryz.prog 4 = some (false, 1) := by kernel_rfl
theorem ly_41 : Sl.lyt Tryz.prog 41 = some (true, 3) := by kernel_rfl
theorem ly_42 : Sl.lyt Tryz.prog 42 = some (false, 1) := by kernel_rfl
theorem ly_43 : Sl.lyt Tryz.prog 43 = some (false, 1) := by kernel_rfl
theorem ly_60 : Sl.lyt Tryz.prog 60 = some (false, 1) := by kernel_rfl
theorem ly_62 : Sl.lyt Tryz.prog 62 = some (true, 1) := by kernel_rfl
theorem ly_63 : Sl.lyt Tryz.prog 63 = some (false, 1) := by kernel_rfl
theorem ly_65 : Sl.lyt Tryz.prog 65 = some (true, 6) := by kernel_rfl
theorem ly_68 : Sl.lyt Tryz.prog 68 = some (false, 1) := by kernel_rfl
theorem ly_71 : Sl.lyt Tryz.prog 71 = some (false, 1) := by kernel_rfl
theorem ly_80 : Sl.lyt Tryz.prog 80 = some (true, 10) := by kernel_rfl
theorem ly_82 : Sl.lyt Tryz.prog 82 = some (true, 12) := by kernel_rfl
theorem ly_86 : Sl.lyt Tryz.prog 86 = some (false, 1) := by kernel_rfl
theorem ly_9 : Sl.lyt Tryz.prog 9 = some (false, 1) := by kernel_rfl
theorem ly_90 : Sl.lyt Tryz.prog 90 = some (false, 1) := by kernel_rfl
theorem ly_92 : Sl.lyt Tryz.prog 92 = some (true, 1) := by kernel_rfl
theorem ly_96 : Sl.lyt Tryz.prog 96 = some (true, 2) := by kernel_rfl
theorem mixed : Tryz.prog.follows .mixedOrders = true := by kernel_rfl
theorem mp_142 : Sl.mpt Tryz.prog 142 = some (3, 140) := by kernel_rfl
theorem mp_149 : Sl.mpt Tryz.prog 149 = some (153, 3) := by kernel_rfl
theorem pl_112 : Sl.pl Tryz.prog 112 = some [(0, 1), (1, 1)] := by kernel_rfl
theorem pl_113 : Sl.pl Tryz.prog 113 = some [(0, 2), (2, 2), (4, 2), (6, 2)] := by kernel_rfl
theorem pl_136 : Sl.pl Tryz.prog 136 = some [(0, 6), (6, 1), (7, 1), (8, 1), (9, 1), (10, 1), (11, 1), (12, 1), (13, 1), (14, 1)] := by kernel_rfl
theorem pl_151 : Sl.pl Tryz.prog 151 = some [(0, 1), (1, 1), (2, 1)] := by kernel_rfl
theorem pl_153 : Sl.pl Tryz.prog 153 = some [(0, 1), (1, 1)] := by kernel_rfl
theorem pl_157 : Sl.pl Tryz.prog 157 = some [(0, 2), (2, 1), (3, 1)] := by kernel_rfl
theorem pl_163 : Sl.pl Tryz.prog 163 = some [(0, 1), (1, 1)] := by kernel_rfl
theorem pl_179 : Sl.pl Tryz.prog 179 = some [(0, 2), (2, 1), (3, 1), (4, 1), (5, 1), (6, 1)] := by kernel_rfl
theorem pl_183 : Sl.pl Tryz.prog 183 = some [(0, 1), (1, 1)] := by kernel_rfl
theorem pl_188 : Sl.pl Tryz.prog 188 = some [(0, 1), (1, 1)] := by kernel_rfl
theorem pl_226 : Sl.pl Tryz.prog 226 = some [(0, 1), (1, 1), (2, 1)] := by kernel_rfl
theorem pl_229 : Sl.pl Tryz.prog 229 = some [(0, 1)] := by kernel_rfl
theorem pl_233 : Sl.pl Tryz.prog 233 = some [(0, 2), (2, 2)] := by kernel_rfl
theorem pl_264 : Sl.pl Tryz.prog 264 = some [(0, 1), (1, 1)] := by kernel_rfl
theorem pl_27 : Sl.pl Tryz.prog 27 = some [(0, 1), (1, 1)] := by kernel_rfl
theorem pl_41 : Sl.pl Tryz.prog 41 = some [(0, 1), (1, 1), (2, 1)] := by kernel_rfl
theorem pl_65 : Sl.pl Tryz.prog 65 = some [(0, 1), (1, 1), (2, 1), (3, 1), (4, 1), (5, 1)] := by kernel_rfl
theorem pl_74 : Sl.pl Tryz.prog 74 = some [(0, 6), (6, 1), (7, 1)] := by kernel_rfl
theorem pl_80 : Sl.pl Tryz.prog 80 = some [(0, 1), (1, 1), (2, 8)] := by kernel_rfl
theorem pl_82 : Sl.pl Tryz.prog 82 = some [(0, 10), (10, 1), (11, 1)] := by kernel_rfl
theorem pl_88 : Sl.pl Tryz.prog 88 = some [(0, 1), (1, 1), (2, 1)] := by kernel_rfl
theorem pr_42 : Sl.ptrT Tryz.prog 42 = some 45 := by kernel_rfl
theorem pr_59 : Sl.ptrT Tryz.prog 59 = some 5 := by kernel_rfl
theorem sl_120 : Sl.slt Tryz.prog 120 = some (3, false, 1) := by kernel_rfl
theorem sl_121 : Sl.slt Tryz.prog 121 = some (104, true, 2) := by kernel_rfl
theorem sl_129 : Sl.slt Tryz.prog 129 = some (157, true, 4) := by kernel_rfl
theorem sl_184 : Sl.slt Tryz.prog 184 = some (264, true, 2) := by kernel_rfl
theorem sl_22 : Sl.slt Tryz.prog 22 = some (27, true, 2) := by kernel_rfl
theorem sl_25 : Sl.slt Tryz.prog 25 = some (41, true, 3) := by kernel_rfl
theorem sl_43 : Sl.slt Tryz.prog 43 = some (5, false, 1) := by kernel_rfl
theorem sl_60 : Sl.slt Tryz.prog 60 = some (92, true, 1) := by kernel_rfl
theorem sl_63 : Sl.slt Tryz.prog 63 = some (106, true, 3) := by kernel_rfl
theorem sl_71 : Sl.slt Tryz.prog 71 = some (82, true, 12) := by kernel_rfl
theorem sl_90 : Sl.slt Tryz.prog 90 = some (96, true, 2) := by kernel_rfl
theorem sl_99 : Sl.slt Tryz.prog 99 = some (112, true, 2) := by kernel_rfl
theorem st_9 : Sl.isStr Tryz.prog 9 = true := by kernel_rfl
theorem sz_45 : Sl.szd Tryz.prog 45 = true := by kernel_rfl
theorem un_84 : Sl.isUns Tryz.prog 84 = true := by kernel_rfl
theorem zr_140 : Sl.zro Tryz.prog 140 = some (.nilFunc) := by kernel_rfl
theorem zv_104 : Sl.zv Tryz.prog 104 = some [.int .i64 0, .int .i64 0] := by kernel_rfl
theorem zv_106 : Sl.zv Tryz.prog 106 = some [.int .i64 0, .int .i64 0, .int .i64 0] := by kernel_rfl
theorem zv_112 : Sl.zv Tryz.prog 112 = some [.pointer none, .int .i64 0] := by kernel_rfl
theorem zv_113 : Sl.zv Tryz.prog 113 = some [.pointer none, .int .i64 0, .pointer none, .int .i64 0, .pointer none, .int .i64 0, .pointer none, .int .i64 0] := by kernel_rfl
theorem zv_136 : Sl.zv Tryz.prog 136 = some [.slice none 0 0, .slice none 0 0, .int .i64 0, .int .i64 0, .int .i64 0, .int .i64 0, .slice none 0 0, .int .i64 0, .pointer none, .pointer none, .pointer none, .pointer none, .slice none 0 0, .int .i64 0, .int .i64 0] := by kernel_rfl
theorem zv_144 : Sl.zv Tryz.prog 144 = some [.pointer none] := by kernel_rfl
theorem zv_151 : Sl.zv Tryz.prog 151 = some [.slice none 0 0, .map none, .int .i64 0] := by kernel_rfl
theorem zv_153 : Sl.zv Tryz.prog 153 = some [.int .i64 0, .int .i64 0] := by kernel_rfl
theorem zv_157 : Sl.zv Tryz.prog 157 = some [.int .i64 0, .int .i64 0, .int .u64 0, .int .i64 0] := by kernel_rfl
theorem zv_163 : Sl.zv Tryz.prog 163 = some [.slice none 0 0, .slice none 0 0] := by kernel_rfl
theorem zv_179 : Sl.zv Tryz.prog 179 = some [.int .i32 0, .int .u32 0, .pointer none, .pointer none, .map none, .int .i64 0, .int .i64 0] := by kernel_rfl
theorem zv_183 : Sl.zv Tryz.prog 183 = some [.slice none 0 0, .map none] := by kernel_rfl
theorem zv_188 : Sl.zv Tryz.prog 188 = some [.slice none 0 0, .map none] := by kernel_rfl
theorem zv_226 : Sl.zv Tryz.prog 226 = some [.pointer none, .slice none 0 0, .map none] := by kernel_rfl
theorem zv_229 : Sl.zv Tryz.prog 229 = some [.slice none 0 0] := by kernel_rfl
theorem zv_233 : Sl.zv Tryz.prog 233 = some [.int .i64 0, .int .i64 0, .int .i64 0, .int .i64 0] := by kernel_rfl
theorem zv_264 : Sl.zv Tryz.prog 264 = some [.int .i64 0, .int .i64 0] := by kernel_rfl
theorem zv_27 : Sl.zv Tryz.prog 27 = some [.int .i64 0, .slice none 0 0] := by kernel_rfl
theorem zv_3 : Sl.zv Tryz.prog 3 = some [.int .i64 0] := by kernel_rfl
theorem zv_41 : Sl.zv Tryz.prog 41 = some [.int .i64 0, .int .i64 0, .int .i64 0] := by kernel_rfl
theorem zv_45 : Sl.zv Tryz.prog 45 = some [.pointer none, .slice none 0 0] := by kernel_rfl
theorem zv_65 : Sl.zv Tryz.prog 65 = some [.slice none 0 0, .slice none 0 0, .int .i64 0, .int .i64 0, .int .i64 0, .int .i64 0] := by kernel_rfl
theorem zv_74 : Sl.zv Tryz.prog 74 = some [.slice none 0 0, .slice none 0 0, .int .i64 0, .int .i64 0, .int .i64 0, .int .i64 0, .pointer none, .slice none 0 0] := by kernel_rfl
theorem zv_80 : Sl.zv Tryz.prog 80 = some [.int .i64 0, .int .i64 0, .int .i64 0, .int .i64 0, .int .i64 0, .int .i64 0, .int .i64 0, .int .i64 0, .int .i64 0, .int .i64 0] := by kernel_rfl
theorem zv_82 : Sl.zv Tryz.prog 82 = some [.int .i64 0, .int .i64 0, .int .i64 0, .int .i64 0, .int .i64 0, .int .i64 0, .int .i64 0, .int .i64 0, .int .i64 0, .int .i64 0, .int .i64 0, .int .i64 0] := by kernel_rfl
theorem zv_86 : Sl.zv Tryz.prog 86 = some [.pointer none] := by kernel_rfl
theorem zv_88 : Sl.zv Tryz.prog 88 = some [.string ⟨#[]⟩, .int .i64 0, .bool false] := by kernel_rfl
theorem zv_92 : Sl.zv Tryz.prog 92 = some [.slice none 0 0] := by kernel_rfl
theorem zv_96 : Sl.zv Tryz.prog 96 = some [.int .i64 0, .int .i64 0] := by kernel_rfl
end Go.Proofs.YtcaojfapibkplaaGreatDoor
